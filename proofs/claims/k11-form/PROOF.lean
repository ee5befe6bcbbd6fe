import PyProof.Rows.All
import HandS.ForMost
import HandS.ForExc
import HandS.HeadHook2
import HandS.Style
import HandS.CallSlots
import HandS.Defaults
import HandS.Ends
import HandS.ExcCtx
import HandS.Iter
import KE.GoesEnum
import KE.GoesMore
import HandS.IsInst
import HandS.SortInts
import HandS.SortRule
import HandS.More
import HandS.ClsMeth
import HandS.CallRecv
import HandS.Head0
import HandS.Head1
import HandS.Head2
import HandS.HeadEnd
import HandS.HeadHook1
import KE.KOpsOwn
import HandS.Dict
import HandS.Zip
import HandS.RaiseMore
import PyProof.InstEq
import HandS.TupAny
import HandS.Star
import HandS.Property
import OpenK.KMeth
import OpenK.KOps
import HandS.ExcInit
import HandS.ExcField
import KE.KExcInit
import KE.KCtx
import HandS.HeadNt
import HandS.FStr
import HandS.Conv
import PySem.Challenge.RW_roadstairs_k11_steps_in_one_form
set_option Elab.async false
set_option linter.all false
set_option maxRecDepth 100000
/-! DnBase: plain data, cells, how they stand in the abstract heap, how the heap goes on. -/
namespace Dn
open PySem L2

/-- plain data: what no longer changes; ref n: the n-th cell -/
inductive D where
  | non | bl (b : Bool) | int (i : Int) | str (x : Str)
  | tup (xs : List D) | lst (xs : List D) | dct (kvs : List (Key × D)) | obj (c : Str) (fs : List (Str × D))
  | ref (n : Nat) | scr (xs : List Int) | cl (c : Str)
/-- what may change -/
inductive Cell where
  | lst (xs : List D) | dct (kvs : List (Key × D)) | ins (c : Str) (fs : List (Str × D)) | dead
abbrev Om := List Cell
abbrev Gm := List (Option D)
/-- an error: its class, its attributes -/
structure Xn where
  cls : Str
  fs : List (Str × D)
inductive Rs (α : Type) where
  | ok (a : α) | ex (e : Xn)

/-- where the cells stand; hid: lists under construction, which no data name -/
structure Mp where
  l : List Addr
  hid : Addr → Prop
/-- what may still change -/
def Live (m : Mp) (Ω : Om) (a : Addr) : Prop := (∃ (n : Nat) (c : Cell), m.l[n]? = some a ∧ Ω[n]? = some c ∧ c ≠ Cell.dead) ∨ m.hid a
/-- the script -/
def ScrL (K : PySem.W.Frag) (H : Hp) (a : Addr) (vs : List V) : Prop := (∃ o, H a = some (.frz o (.lst vs))) ∨
    ∃ (o : Obj) (its : Array Value) (n : Nat), K.lookup a = some o ∧ o.cls = .type "list" ∧ o.dict = none ∧ o.data = .seq its n ∧ its.size ≤ sizeLine ∧ Vals vs its.toList
theorem ScrL.sq {K : PySem.W.Frag} {H : Hp} {a : Addr} {vs : List V} (h : ScrL K H a vs) : SqL K H a vs := h.elim (fun ⟨o, h⟩ => .inl (.inr ⟨o, h⟩)) .inr

/-- a tuple: tracked, or a written one of at most one item -/
def TpA (K : PySem.W.Frag) (H : Hp) (a : Addr) (vs : List V) : Prop := H a = some (.tup vs) ∨ (vs.length ≤ 1 ∧
    ∃ (o : Obj) (its : Array Value) (n : Nat), K.lookup a = some o ∧ o.cls = .type "tuple" ∧ o.data = .seq its n ∧ its.size ≤ sizeLine ∧ Vals vs its.toList)
theorem TpA.sq {K : PySem.W.Frag} {H : Hp} {a : Addr} {vs : List V} (h : TpA K H a vs) : SqT K H a vs := h.elim (fun h => .inl (.inl h)) fun h => .inr h.2
section
variable (K : PySem.W.Frag) (m : Mp) (Ω : Om) (H : Hp)
mutual
def Rl : D → V → Prop
  | .non, v => v = .non
  | .bl b, v => v = .bl b
  | .int i, v => v = .int i
  | .str x, v => v = .str x
  | .tup xs, v => ∃ a vs, v = .ref a ∧ TpA K H a vs ∧ RlL xs vs
  | .lst xs, v => ∃ a vs, v = .ref a ∧ H a = some (.lst vs) ∧ ¬ Live m Ω a ∧ RlL xs vs
  | .dct kvs, v => ∃ a ws, v = .ref a ∧ Rd H a (.dK ws) ∧ ¬ Live m Ω a ∧ RlK kvs ws
  | .obj c fs, v => ∃ a dx gs, v = .ref a ∧ H a = some (.ins (He.ga K c) dx gs) ∧ ¬ Live m Ω a ∧ RlF fs gs
  | .ref n, v => ∃ a, v = .ref a ∧ m.l[n]? = some a
  | .scr xs, v => ∃ a, v = .ref a ∧ ScrL K H a (xs.map V.int)
  | .cl c, v => v = .ref (He.ga K c)
def RlL : List D → List V → Prop
  | [], vs => vs = []
  | d :: ds, vs => ∃ v r, vs = v :: r ∧ Rl d v ∧ RlL ds r
def RlK : List (Key × D) → List (Key × V) → Prop
  | [], vs => vs = []
  | (k, d) :: ds, vs => ∃ v r, vs = (k, v) :: r ∧ Rl d v ∧ RlK ds r
def RlF : List (Str × D) → List (Str × V) → Prop
  | [], vs => vs = []
  | (k, d) :: ds, vs => ∃ v r, vs = (k, v) :: r ∧ Rl d v ∧ RlF ds r
end
def CellOk : Cell → Addr → Prop
  | .lst xs, a => ∃ vs, H a = some (.lst vs) ∧ RlL K m Ω H xs vs
  | .dct kvs, a => ∃ ws, H a = some (.dK ws) ∧ RlK K m Ω H kvs ws
  | .ins c fs, a => ∃ dx gs, H a = some (.ins (He.ga K c) dx gs) ∧ RlF K m Ω H fs gs
  | .dead, a => ∃ o, H a = some o
structure CellsOk : Prop where
  len : m.l.length = Ω.length
  nd : m.l.Nodup
  at_ : ∀ (n : Nat) c a, Ω[n]? = some c → m.l[n]? = some a → CellOk K m Ω H c a
  hl : ∀ a, m.hid a → (∃ vs, H a = some (.lst vs)) ∧ a ∉ m.l
end

/-- the heap has gone on, by the cells alone -/
structure Gw (K : PySem.W.Frag) (m : Mp) (Ω : Om) (H : Hp) (m' : Mp) (Ω' : Om) (H' : Hp) : Prop where
  pre : ∀ (n : Nat) a, m.l[n]? = some a → m'.l[n]? = some a
  frame : ∀ a o, H a = some o → ¬ Live m Ω a → H' a = some o
  norev : ∀ a o, H a = some o → Live m' Ω' a → Live m Ω a
structure Go (K : PySem.W.Frag) (m : Mp) (Ω : Om) (H : Hp) (m' : Mp) (Ω' : Om) (H' : Hp) : Prop extends Gw K m Ω H m' Ω' H' where
  ok : CellsOk K m' Ω' H'
  hk : ∀ a o, m.hid a → H a = some o → H' a = some o
  hs : ∀ a, m.hid a → m'.hid a

section
variable {K : PySem.W.Frag} {m m1 m' : Mp} {Ω Ω1 Ω' : Om} {H H1 H' : Hp}
theorem Go.refl (c : CellsOk K m Ω H) : Go K m Ω H m Ω H := ⟨⟨fun _ _ h => h, fun _ _ h _ => h, fun _ _ _ h => h⟩, c, fun _ _ _ h => h, fun _ h => h⟩
theorem Go.trans (x : Go K m Ω H m1 Ω1 H1) (y : Go K m1 Ω1 H1 m' Ω' H') : Go K m Ω H m' Ω' H' where
  pre := fun n a h => y.pre n a (x.pre n a h)
  frame := fun a o h l => y.frame a o (x.frame a o h l) fun z => l (x.norev a o h z)
  norev := fun a o h l => Classical.byContradiction fun z => z (x.norev a o h (y.norev a o (x.frame a o h z) l))
  ok := y.ok
  hk := fun a o h e => y.hk a o (x.hs a h) (x.hk a o h e)
  hs := fun a h => y.hs a (x.hs a h)
theorem Gw.trans (x : Gw K m Ω H m1 Ω1 H1) (y : Gw K m1 Ω1 H1 m' Ω' H') : Gw K m Ω H m' Ω' H' where
  pre := fun n a h => y.pre n a (x.pre n a h)
  frame := fun a o h l => y.frame a o (x.frame a o h l) fun z => l (x.norev a o h z)
  norev := fun a o h l => Classical.byContradiction fun z => z (x.norev a o h (y.norev a o (x.frame a o h z) l))
theorem CellsOk.live (c : CellsOk K m Ω H) {a : Addr} (l : Live m Ω a) : (∃ vs, H a = some (.lst vs)) ∨ (∃ ws, H a = some (.dK ws)) ∨ ∃ C dx gs, H a = some (.ins C dx gs) := by
  rcases l with ⟨n, x, h1, h2, h3⟩ | l
  · have q := c.at_ n x a h2 h1
    cases x with
    | lst xs => obtain ⟨vs, h, _⟩ := q; exact .inl ⟨vs, h⟩
    | dct xs => obtain ⟨vs, h, _⟩ := q; exact .inr (.inl ⟨vs, h⟩)
    | ins c fs => obtain ⟨dx, gs, h, _⟩ := q; exact .inr (.inr ⟨_, dx, gs, h⟩)
    | dead => exact (h3 rfl).elim
  · exact .inl (c.hl a l).1
theorem CellsOk.some (c : CellsOk K m Ω H) {n : Nat} {a : Addr} (h : m.l[n]? = some a) : ∃ o, H a = Option.some o := by
  have hn : n < Ω.length := by rw [← c.len]; exact (List.getElem?_eq_some_iff.mp h).1
  have q := c.at_ n _ a (List.getElem?_eq_getElem hn) h
  cases e : Ω[n] with
  | lst xs => rw [e] at q; obtain ⟨vs, h, _⟩ := q; exact ⟨_, h⟩
  | dct xs => rw [e] at q; obtain ⟨vs, h, _⟩ := q; exact ⟨_, h⟩
  | ins c fs => rw [e] at q; obtain ⟨dx, gs, h, _⟩ := q; exact ⟨_, h⟩
  | dead => rw [e] at q; exact q
theorem CellsOk.tup (c : CellsOk K m Ω H) {a : Addr} {vs : List V} (h : H a = Option.some (.tup vs)) : ¬ Live m Ω a := fun l => by
  rcases c.live l with ⟨x, q⟩ | ⟨x, q⟩ | ⟨x, y, z, q⟩ <;> (rw [h] at q; cases q)
theorem CellsOk.frz (c : CellsOk K m Ω H) {a : Addr} {o : Obj} {u : HO} (h : H a = Option.some (.frz o u)) : ¬ Live m Ω a := fun l => by
  rcases c.live l with ⟨x, q⟩ | ⟨x, q⟩ | ⟨x, y, z, q⟩ <;> (rw [h] at q; cases q)
theorem Gw.sqT (g : Gw K m Ω H m' Ω' H') (c : CellsOk K m Ω H) {a : Addr} {vs : List V} (h : SqT K H a vs) : SqT K H' a vs := by
  rcases h with (h | ⟨o, h⟩) | h
  · exact .inl (.inl (g.frame _ _ h (c.tup h)))
  · exact .inl (.inr ⟨o, g.frame _ _ h (c.frz h)⟩)
  · exact .inr h
theorem Gw.tpA (g : Gw K m Ω H m' Ω' H') (c : CellsOk K m Ω H) {a : Addr} {vs : List V} (h : TpA K H a vs) : TpA K H' a vs := h.imp (fun h => g.frame _ _ h (c.tup h)) fun h => h
theorem Gw.scr (g : Gw K m Ω H m' Ω' H') (c : CellsOk K m Ω H) {a : Addr} {vs : List V} (h : ScrL K H a vs) : ScrL K H' a vs := by
  rcases h with ⟨o, h⟩ | h
  · exact .inl ⟨o, g.frame _ _ h (c.frz h)⟩
  · exact .inr h
mutual
theorem Rl.go (g : Gw K m Ω H m' Ω' H') (c : CellsOk K m Ω H) : ∀ (d : D) (v : V), Rl K m Ω H d v → Rl K m' Ω' H' d v
  | .non, v, h => h
  | .bl _, v, h => h
  | .int _, v, h => h
  | .str _, v, h => h
  | .tup xs, v, h => by
    unfold Rl at h ⊢
    obtain ⟨a, vs, e, h1, h2⟩ := h
    exact ⟨a, vs, e, g.tpA c h1, RlL.go g c xs vs h2⟩
  | .lst xs, v, h => by
    unfold Rl at h ⊢
    obtain ⟨a, vs, e, h1, l, h2⟩ := h
    exact ⟨a, vs, e, g.frame _ _ h1 l, fun z => l (g.norev _ _ h1 z), RlL.go g c xs vs h2⟩
  | .dct xs, v, h => by
    unfold Rl at h ⊢
    obtain ⟨a, vs, e, h1, l, h2⟩ := h
    rcases h1 with h1 | ⟨o, h1⟩
    · exact ⟨a, vs, e, .inl (g.frame _ _ h1 l), fun z => l (g.norev _ _ h1 z), RlK.go g c xs vs h2⟩
    · exact ⟨a, vs, e, .inr ⟨o, g.frame _ _ h1 l⟩, fun z => l (g.norev _ _ h1 z), RlK.go g c xs vs h2⟩
  | .obj k fs, v, h => by
    unfold Rl at h ⊢
    obtain ⟨a, dx, gs, e, h1, l, h2⟩ := h
    exact ⟨a, dx, gs, e, g.frame _ _ h1 l, fun z => l (g.norev _ _ h1 z), RlF.go g c fs gs h2⟩
  | .ref n, v, h => by
    unfold Rl at h ⊢
    obtain ⟨a, e, h1⟩ := h
    exact ⟨a, e, g.pre n a h1⟩
  | .scr xs, v, h => by
    unfold Rl at h ⊢
    obtain ⟨a, e, h1⟩ := h
    exact ⟨a, e, g.scr c h1⟩
  | .cl _, v, h => by unfold Rl at h ⊢; exact h
theorem RlL.go (g : Gw K m Ω H m' Ω' H') (c : CellsOk K m Ω H) : ∀ (ds : List D) (vs : List V), RlL K m Ω H ds vs → RlL K m' Ω' H' ds vs
  | [], vs, h => by unfold RlL at h ⊢; exact h
  | d :: ds, vs, h => by
    unfold RlL at h ⊢
    obtain ⟨v, r, e, h1, h2⟩ := h
    exact ⟨v, r, e, Rl.go g c d v h1, RlL.go g c ds r h2⟩
theorem RlK.go (g : Gw K m Ω H m' Ω' H') (c : CellsOk K m Ω H) : ∀ (ds : List (Key × D)) (vs : List (Key × V)), RlK K m Ω H ds vs → RlK K m' Ω' H' ds vs
  | [], vs, h => by unfold RlK at h ⊢; exact h
  | (k, d) :: ds, vs, h => by
    unfold RlK at h ⊢
    obtain ⟨v, r, e, h1, h2⟩ := h
    exact ⟨v, r, e, Rl.go g c d v h1, RlK.go g c ds r h2⟩
theorem RlF.go (g : Gw K m Ω H m' Ω' H') (c : CellsOk K m Ω H) : ∀ (ds : List (Str × D)) (vs : List (Str × V)), RlF K m Ω H ds vs → RlF K m' Ω' H' ds vs
  | [], vs, h => by unfold RlF at h ⊢; exact h
  | (k, d) :: ds, vs, h => by
    unfold RlF at h ⊢
    obtain ⟨v, r, e, h1, h2⟩ := h
    exact ⟨v, r, e, Rl.go g c d v h1, RlF.go g c ds r h2⟩
end
/-- an object that the cells do not know is new -/
theorem CellsOk.fresh (c : CellsOk K m Ω H) {p : Addr} (h : H p = none) : p ∉ m.l := fun z => by
  obtain ⟨n, hn, e⟩ := List.mem_iff_getElem.mp z
  obtain ⟨o, q⟩ := c.some (n := n) (a := p) (by rw [List.getElem?_eq_getElem hn, e])
  rw [h] at q; cases q
theorem CellsOk.freshH (c : CellsOk K m Ω H) {p : Addr} (h : H p = none) : ¬ m.hid p := fun z => by
  obtain ⟨⟨vs, q⟩, _⟩ := c.hl p z
  rw [h] at q; cases q
theorem CellsOk.freshL (c : CellsOk K m Ω H) {p : Addr} (h : H p = none) : ¬ Live m Ω p := fun l => by
  rcases l with ⟨n, x, h1, _⟩ | l
  · exact c.fresh h (List.mem_of_getElem? h1)
  · exact c.freshH h l
theorem CellOk.go (g : Gw K m Ω H m' Ω' H') (c : CellsOk K m Ω H) {a : Addr} : ∀ x : Cell, CellOk K m Ω H x a → (∀ o, H a = some o → H' a = some o) → CellOk K m' Ω' H' x a
  | .lst xs, ⟨vs, h, r⟩, f => ⟨vs, f _ h, RlL.go g c xs vs r⟩
  | .dct xs, ⟨vs, h, r⟩, f => ⟨vs, f _ h, RlK.go g c xs vs r⟩
  | .ins _ xs, ⟨dx, vs, h, r⟩, f => ⟨dx, vs, f _ h, RlF.go g c xs vs r⟩
  | .dead, ⟨o, h⟩, f => ⟨o, f _ h⟩
theorem CellsOk.nodup_ix (c : CellsOk K m Ω H) {i j : Nat} {a : Addr} (h1 : m.l[i]? = Option.some a) (h2 : m.l[j]? = Option.some a) : i = j := by
  obtain ⟨l1, e1⟩ := List.getElem?_eq_some_iff.mp h1
  obtain ⟨l2, e2⟩ := List.getElem?_eq_some_iff.mp h2
  exact (List.getElem_inj c.nd).mp (e1.trans e2.symm)
/-- a new object beside the cells -/
theorem Go.new (c : CellsOk K m Ω H) {p : Addr} {o : HO} (h : H p = none) : Go K m Ω H m Ω (upd H p o) := by
  have k : ∀ a u, H a = some u → upd H p o a = some u := fun a u q => by rw [upd_ne (ne_of_none q h)]; exact q
  have g : Gw K m Ω H m Ω (upd H p o) := ⟨fun _ _ h => h, fun a u q _ => k a u q, fun _ _ _ l => l⟩
  exact ⟨g, ⟨c.len, c.nd, fun n x a h1 h2 => (c.at_ n x a h1 h2).go g c x fun u q => k a u q, fun a ha => let ⟨⟨vs, q⟩, z⟩ := c.hl a ha; ⟨⟨vs, k a _ q⟩, z⟩⟩, fun a u _ q => k a u q, fun _ z => z⟩
/-- one cell more -/
def Mp.add (m : Mp) (p : Addr) : Mp := ⟨m.l ++ [p], m.hid⟩
/-- a new cell -/
theorem Go.cell (c : CellsOk K m Ω H) {p : Addr} {o : HO} {x : Cell} (h : H p = none) (hx : ∀ g : Gw K m Ω H (m.add p) (Ω ++ [x]) (upd H p o), CellOk K (m.add p) (Ω ++ [x]) (upd H p o) x p) : Go K m Ω H (m.add p) (Ω ++ [x]) (upd H p o) := by
  have hp := c.fresh h
  have k : ∀ a u, H a = some u → upd H p o a = some u := fun a u q => by rw [upd_ne (ne_of_none q h)]; exact q
  have g : Gw K m Ω H (m.add p) (Ω ++ [x]) (upd H p o) := ⟨fun n a h => by show (m.l ++ [p])[n]? = some a; rw [List.getElem?_append_left (List.getElem?_eq_some_iff.mp h).1]; exact h, fun a u q _ => k a u q, fun a u q l => by
    rcases l with ⟨n, y, h1, h2, h3⟩ | l
    · have h1 : (m.l ++ [p])[n]? = some a := h1
      by_cases hn : n < m.l.length
      · rw [List.getElem?_append_left hn] at h1
        rw [List.getElem?_append_left (by rw [← c.len]; exact hn)] at h2
        exact .inl ⟨n, y, h1, h2, h3⟩
      · rw [List.getElem?_append_right (Nat.le_of_not_lt hn)] at h1
        have e : a = p := by
          cases hk : n - m.l.length with
          | zero => rw [hk] at h1; exact (Option.some.inj h1).symm
          | succ k => rw [hk] at h1; simp at h1
        rw [e, h] at q
        cases q
    · exact .inr l⟩
  refine ⟨g, ⟨by show (m.l ++ [p]).length = _; rw [List.length_append, List.length_append, c.len]; rfl, ?_, fun n y a h1 h2 => ?_, fun a ha => ?_⟩, fun a u _ q => k a u q, fun _ z => z⟩
  · show (m.l ++ [p]).Nodup
    rw [List.nodup_append]
    exact ⟨c.nd, by simp, fun a ha b hb => by
      have e : b = p := by simpa using hb
      rw [e]
      intro z
      exact hp (z ▸ ha)⟩
  · have h2 : (m.l ++ [p])[n]? = some a := h2
    by_cases hn : n < m.l.length
    · rw [List.getElem?_append_left hn] at h2
      rw [List.getElem?_append_left (by rw [← c.len]; exact hn)] at h1
      exact (c.at_ n y a h1 h2).go g c y fun u q => k a u q
    · rw [List.getElem?_append_right (Nat.le_of_not_lt hn)] at h2
      rw [List.getElem?_append_right (by rw [← c.len]; exact Nat.le_of_not_lt hn)] at h1
      cases hk : n - m.l.length with
      | zero =>
        rw [hk] at h2
        have hk2 : n - Ω.length = 0 := by rw [← c.len]; exact hk
        rw [hk2] at h1
        cases (Option.some.inj h1)
        cases (Option.some.inj h2)
        exact hx g
      | succ k => rw [hk] at h2; simp at h2
  · obtain ⟨⟨vs, q⟩, z⟩ := c.hl a ha
    refine ⟨⟨vs, k a _ q⟩, fun hm => ?_⟩
    rcases List.mem_append.mp hm with hm | hm
    · exact z hm
    · have e : a = p := by simpa using hm
      rw [e, h] at q
      cases q
/-- a live cell is changed -/
theorem Go.set (c : CellsOk K m Ω H) {n : Nat} {a : Addr} {o : HO} {x y : Cell} (hm : m.l[n]? = some a) (hx : Ω[n]? = some x) (hl : x ≠ .dead)
    (hy : ∀ g : Gw K m Ω H m (Ω.set n y) (upd H a o), CellOk K m (Ω.set n y) (upd H a o) y a) : Go K m Ω H m (Ω.set n y) (upd H a o) := by
  have la : Live m Ω a := .inl ⟨n, x, hm, hx, hl⟩
  have g : Gw K m Ω H m (Ω.set n y) (upd H a o) := ⟨fun _ _ h => h, fun b u q l => by rw [upd_ne (fun e => l (by rw [e]; exact la))]; exact q, fun b u q l => by
    rcases l with ⟨k, z, h1, h2, h3⟩ | l
    · by_cases hk : k = n
      · subst hk
        rw [hm] at h1
        cases h1
        exact la
      · rw [List.getElem?_set_ne (Ne.symm hk)] at h2
        exact .inl ⟨k, z, h1, h2, h3⟩
    · exact .inr l⟩
  have hh : ∀ b, m.hid b → b ≠ a := fun b hb e => (c.hl b hb).2 (e ▸ List.mem_of_getElem? hm)
  refine ⟨g, ⟨by rw [List.length_set]; exact c.len, c.nd, fun k z b h1 h2 => ?_, fun b hb => ?_⟩, fun b u hb q => by rw [upd_ne (hh b hb)]; exact q, fun _ z => z⟩
  · by_cases hk : k = n
    · subst hk
      rw [hm] at h2
      cases h2
      rw [List.getElem?_set_self (List.getElem?_eq_some_iff.mp hx).1] at h1
      cases h1
      exact hy g
    · rw [List.getElem?_set_ne (Ne.symm hk)] at h1
      have hb : b ≠ a := fun e => hk (c.nodup_ix h2 (e ▸ hm))
      exact (c.at_ k z b h1 h2).go g c z fun u q => by rw [upd_ne hb]; exact q
  · obtain ⟨⟨vs, q⟩, z⟩ := c.hl b hb
    exact ⟨⟨vs, by rw [upd_ne (hh b hb)]; exact q⟩, z⟩
/-- a list is laid aside, to be filled -/
def Mp.hide (m : Mp) (p : Addr) : Mp := ⟨m.l, fun a => m.hid a ∨ a = p⟩
def Mp.shown (m : Mp) (h : Addr → Prop) : Mp := ⟨m.l, h⟩
theorem Gw.hide (c : CellsOk K m Ω H) {p : Addr} {o : HO} (h : H p = none) : Gw K m Ω H (m.hide p) Ω (upd H p o) :=
  ⟨fun _ _ h => h, fun a u q _ => by rw [upd_ne (ne_of_none q h)]; exact q, fun a u q l => by
    rcases l with l | l | l
    · exact .inl l
    · exact .inr l
    · rw [l, h] at q; cases q⟩
theorem CellsOk.hide (c : CellsOk K m Ω H) {p : Addr} {vs : List V} (h : H p = none) : CellsOk K (m.hide p) Ω (upd H p (.lst vs)) :=
  ⟨c.len, c.nd, fun n x a h1 h2 => (c.at_ n x a h1 h2).go (Gw.hide c h) c x fun u q => by rw [upd_ne (ne_of_none q h)]; exact q, fun a ha => by
    rcases ha with ha | ha
    · obtain ⟨⟨ws, q⟩, z⟩ := c.hl a ha
      exact ⟨⟨ws, by rw [upd_ne (ne_of_none q h)]; exact q⟩, z⟩
    · subst ha
      exact ⟨⟨vs, upd_same⟩, c.fresh h⟩⟩
/-- it is filled -/
theorem Gw.fill (c : CellsOk K m Ω H) {p : Addr} {o : HO} (hp : m.hid p) : Gw K m Ω H m Ω (upd H p o) :=
  ⟨fun _ _ h => h, fun a u q l => by rw [upd_ne (fun e => l (by rw [e]; exact .inr hp))]; exact q, fun _ _ _ l => l⟩
theorem CellsOk.fill (c : CellsOk K m Ω H) {p : Addr} {vs : List V} (hp : m.hid p) : CellsOk K m Ω (upd H p (.lst vs)) :=
  ⟨c.len, c.nd, fun n x a h1 h2 => (c.at_ n x a h1 h2).go (Gw.fill c hp) c x fun u q => by rw [upd_ne (show a ≠ p from fun e => (c.hl p hp).2 (by rw [← e]; exact List.mem_of_getElem? h2))]; exact q, fun a ha => by
    obtain ⟨⟨ws, q⟩, z⟩ := c.hl a ha
    refine ⟨?_, z⟩
    by_cases e : a = p
    · subst e; exact ⟨vs, upd_same⟩
    · exact ⟨ws, by rw [upd_ne e]; exact q⟩⟩
/-- it is shown -/
theorem Gw.shown {h : Addr → Prop} (hh : ∀ a, h a → m.hid a) : Gw K m Ω H (m.shown h) Ω H :=
  ⟨fun _ _ h => h, fun _ _ q _ => q, fun a u q l => l.imp (fun z => z) (hh a)⟩
theorem Gw.toShown {m0 : Mp} {Ω0 : Om} {H0 : Hp} (g : Gw K m0 Ω0 H0 m Ω H) (hh : ∀ a, m0.hid a → m.hid a) : Gw K m0 Ω0 H0 (m.shown m0.hid) Ω H := g.trans (Gw.shown hh)
theorem CellsOk.shown (c : CellsOk K m Ω H) {h : Addr → Prop} (hh : ∀ a, h a → m.hid a) : CellsOk K (m.shown h) Ω H :=
  ⟨c.len, c.nd, fun n x a h1 h2 => (c.at_ n x a h1 h2).go (Gw.shown hh) c x fun u q => q, fun a ha => c.hl a (hh a ha)⟩
end

/-! ### what names no cell from k on -/
mutual
def below (k : Nat) : D → Bool
  | .tup xs => belowL k xs
  | .lst xs => belowL k xs
  | .dct kvs => belowK k kvs
  | .obj _ fs => belowF k fs
  | .ref n => decide (n < k)
  | _ => true
def belowL (k : Nat) : List D → Bool
  | [] => true
  | d :: ds => below k d && belowL k ds
def belowK (k : Nat) : List (Key × D) → Bool
  | [] => true
  | (_, d) :: ds => below k d && belowK k ds
def belowF (k : Nat) : List (Str × D) → Bool
  | [] => true
  | (_, d) :: ds => below k d && belowF k ds
end
def cellBelow (k : Nat) : Cell → Bool
  | .lst xs => belowL k xs
  | .dct kvs => belowK k kvs
  | .ins _ fs => belowF k fs
  | .dead => true
def cellsBelow (k : Nat) (Ω : Om) : Bool := (Ω.take k).all (cellBelow k)

def Mp.take (k : Nat) (m : Mp) : Mp := ⟨m.l.take k, m.hid⟩
section
variable {K : PySem.W.Frag} {m : Mp} {Ω : Om} {H : Hp} {k : Nat}
theorem live_take {a : Addr} (l : Live (Mp.take k m) (Ω.take k) a) : Live m Ω a := by
  rcases l with ⟨n, x, h1, h2, h3⟩ | l
  · have h1 : (m.l.take k)[n]? = some a := h1
    rw [List.getElem?_take] at h1 h2
    by_cases hn : n < k
    · rw [if_pos hn] at h1 h2
      exact .inl ⟨n, x, h1, h2, h3⟩
    · rw [if_neg hn] at h1
      cases h1
  · exact .inr l
mutual
theorem Rl.take : ∀ (d : D) (v : V), below k d = true → Rl K m Ω H d v → Rl K (Mp.take k m) (Ω.take k) H d v
  | .non, v, _, h => h
  | .bl _, v, _, h => h
  | .int _, v, _, h => h
  | .str _, v, _, h => h
  | .tup xs, v, b, h => by
    unfold Rl at h ⊢
    unfold below at b
    obtain ⟨a, vs, e, h1, h2⟩ := h
    exact ⟨a, vs, e, h1, RlL.take xs vs b h2⟩
  | .lst xs, v, b, h => by
    unfold Rl at h ⊢
    unfold below at b
    obtain ⟨a, vs, e, h1, l, h2⟩ := h
    exact ⟨a, vs, e, h1, fun z => l (live_take z), RlL.take xs vs b h2⟩
  | .dct xs, v, b, h => by
    unfold Rl at h ⊢
    unfold below at b
    obtain ⟨a, vs, e, h1, l, h2⟩ := h
    exact ⟨a, vs, e, h1, fun z => l (live_take z), RlK.take xs vs b h2⟩
  | .obj _ fs, v, b, h => by
    unfold Rl at h ⊢
    unfold below at b
    obtain ⟨a, dx, gs, e, h1, l, h2⟩ := h
    exact ⟨a, dx, gs, e, h1, fun z => l (live_take z), RlF.take fs gs b h2⟩
  | .ref n, v, b, h => by
    unfold Rl at h ⊢
    unfold below at b
    obtain ⟨a, e, h1⟩ := h
    exact ⟨a, e, by show (m.l.take k)[n]? = some a; rw [List.getElem?_take, if_pos (of_decide_eq_true b)]; exact h1⟩
  | .scr xs, v, b, h => by
    unfold Rl at h ⊢
    exact h
  | .cl _, v, b, h => by unfold Rl at h ⊢; exact h
theorem RlL.take : ∀ (ds : List D) (vs : List V), belowL k ds = true → RlL K m Ω H ds vs → RlL K (Mp.take k m) (Ω.take k) H ds vs
  | [], vs, _, h => by unfold RlL at h ⊢; exact h
  | d :: ds, vs, b, h => by
    unfold RlL at h ⊢
    unfold belowL at b
    obtain ⟨b1, b2⟩ := Bool.and_eq_true_iff.mp b
    obtain ⟨v, r, e, h1, h2⟩ := h
    exact ⟨v, r, e, Rl.take d v b1 h1, RlL.take ds r b2 h2⟩
theorem RlK.take : ∀ (ds : List (Key × D)) (vs : List (Key × V)), belowK k ds = true → RlK K m Ω H ds vs → RlK K (Mp.take k m) (Ω.take k) H ds vs
  | [], vs, _, h => by unfold RlK at h ⊢; exact h
  | (_, d) :: ds, vs, b, h => by
    unfold RlK at h ⊢
    unfold belowK at b
    obtain ⟨b1, b2⟩ := Bool.and_eq_true_iff.mp b
    obtain ⟨v, r, e, h1, h2⟩ := h
    exact ⟨v, r, e, Rl.take d v b1 h1, RlK.take ds r b2 h2⟩
theorem RlF.take : ∀ (ds : List (Str × D)) (vs : List (Str × V)), belowF k ds = true → RlF K m Ω H ds vs → RlF K (Mp.take k m) (Ω.take k) H ds vs
  | [], vs, _, h => by unfold RlF at h ⊢; exact h
  | (_, d) :: ds, vs, b, h => by
    unfold RlF at h ⊢
    unfold belowF at b
    obtain ⟨b1, b2⟩ := Bool.and_eq_true_iff.mp b
    obtain ⟨v, r, e, h1, h2⟩ := h
    exact ⟨v, r, e, Rl.take d v b1 h1, RlF.take ds r b2 h2⟩
end
theorem CellOk.take {a : Addr} : ∀ x : Cell, cellBelow k x = true → CellOk K m Ω H x a → CellOk K (Mp.take k m) (Ω.take k) H x a
  | .lst xs, b, ⟨vs, h, r⟩ => ⟨vs, h, RlL.take xs vs b r⟩
  | .dct xs, b, ⟨vs, h, r⟩ => ⟨vs, h, RlK.take xs vs b r⟩
  | .ins _ xs, b, ⟨dx, vs, h, r⟩ => ⟨dx, vs, h, RlF.take xs vs b r⟩
  | .dead, _, h => h
theorem CellsOk.take (c : CellsOk K m Ω H) (b : cellsBelow k Ω = true) : CellsOk K (Mp.take k m) (Ω.take k) H := by
  refine ⟨by show (m.l.take k).length = _; rw [List.length_take, List.length_take, c.len], c.nd.sublist (List.take_sublist _ _), fun n x a h1 h2 => ?_, fun a ha => ⟨(c.hl a ha).1, fun z => (c.hl a ha).2 (List.mem_of_mem_take z)⟩⟩
  have hb : cellBelow k x = true := List.all_eq_true.mp b x (List.mem_of_getElem? h1)
  have h2 : (m.l.take k)[n]? = Option.some a := h2
  rw [List.getElem?_take] at h1 h2
  by_cases hn : n < k
  · rw [if_pos hn] at h1 h2
    exact (c.at_ n x a h1 h2).take x hb
  · rw [if_neg hn] at h1
    cases h1
/-- the cells from the old end on are left -/
theorem Go.take {m0 : Mp} {Ω0 : Om} {H0 : Hp} (g : Go K m0 Ω0 H0 m Ω H) (hk : m0.l.length ≤ k) (b : cellsBelow k Ω = true) : Go K m0 Ω0 H0 (Mp.take k m) (Ω.take k) H :=
  ⟨⟨fun n a h => by
    show (m.l.take k)[n]? = some a
    rw [List.getElem?_take, if_pos (Nat.lt_of_lt_of_le (List.getElem?_eq_some_iff.mp h).1 hk)]
    exact g.pre n a h, fun a o => g.frame a o, fun a o h l => g.toGw.norev a o h (live_take l)⟩, g.ok.take b, fun a o => g.hk a o, fun a => g.hs a⟩
end
end Dn


set_option Elab.async false
set_option linter.all false
set_option maxRecDepth 100000
/-! DnCore: denotations, and how a reading follows from one. -/
namespace Dn
open PySem L2

def Slots (K : PySem.W.Frag) (m : Mp) (Ω : Om) (H : Hp) (Γ : Gm) (σ : St) : Prop :=
  Γ.length = σ.length ∧ ∀ (i : Nat) (d : D), Γ[i]? = some (some d) → ∃ v, σ[i]? = some (some v) ∧ Rl K m Ω H d v
structure SR (K : PySem.W.Frag) (m : Mp) (Γ : Gm) (Ω : Om) (σ : St) (H : Hp) : Prop where
  cells : CellsOk K m Ω H
  slots : Slots K m Ω H Γ σ
/-- an error that is on its way -/
def XRel (K : PySem.W.Frag) (m : Mp) (Ω : Om) (H : Hp) (e : Xn) (cls : Value) (dd : Option Addr) : Prop :=
  cls = .ref (He.ga K e.cls) ∧ ((e.fs = [] ∧ dd = none) ∨ ∃ d gs, dd = some d ∧ H d = some (.xd gs) ∧ RlF K m Ω H e.fs gs)

section
variable {K : PySem.W.Frag} {m m' : Mp} {Ω Ω' : Om} {H H' : Hp} {Γ : Gm} {σ : St}
theorem SR.go (r : SR K m Γ Ω σ H) (g : Go K m Ω H m' Ω' H') : SR K m' Γ Ω' σ H' :=
  ⟨g.ok, r.slots.1, fun i d h => let ⟨v, h1, h2⟩ := r.slots.2 i d h; ⟨v, h1, Rl.go g.toGw r.cells d v h2⟩⟩
end

abbrev Den (α : Type) := Gm → Om → Option (Rs α × Om)
def bR {α β : Type} (r : Option (Rs α × Om)) (k : α → Om → Option (Rs β × Om)) : Option (Rs β × Om) := match r with
  | none => none
  | some (.ok a, Ω) => k a Ω
  | some (.ex e, Ω) => some (.ex e, Ω)
def bnd {α β : Type} (f : Den α) (k : α → Den β) : Den β := fun Γ Ω => bR (f Γ Ω) fun a Ω1 => k a Γ Ω1
@[simp] theorem bR_none {α β : Type} (k : α → Om → Option (Rs β × Om)) : bR none k = none := rfl
@[simp] theorem bR_ok {α β : Type} (a : α) (Ω : Om) (k : α → Om → Option (Rs β × Om)) : bR (some (.ok a, Ω)) k = k a Ω := rfl
@[simp] theorem bR_ex {α β : Type} (e : Xn) (Ω : Om) (k : α → Om → Option (Rs β × Om)) : bR (some (.ex e, Ω)) k = some (.ex e, Ω) := rfl

/-- what is wanted behind a denotation's end -/
def Af {α β : Type} (K : PySem.W.Frag) (R : Mp → Om → Hp → α → β → Prop) (E : XK) (Q : β → Hp → Prop) (m : Mp) (Ω : Om) (H : Hp) (r : Option (Rs α × Om)) : Prop := match r with
  | none => False
  | some (.ok a, Ω') => ∀ m' b H', Go K m Ω H m' Ω' H' → R m' Ω' H' a b → Q b H'
  | some (.ex e, Ω') => ∀ m' H' cls dd, Go K m Ω H m' Ω' H' → XRel K m' Ω' H' e cls dd → E cls dd H'
def tG {α β : Type} (K : PySem.W.Frag) (R : Mp → Om → Hp → α → β → Prop) (E : St → XK) (f : Den α) (σ : St) (H : Hp) (Q : β → Hp → Prop) : Prop :=
  ∃ m Γ Ω, SR K m Γ Ω σ H ∧ Af K R (E σ) Q m Ω H (f Γ Ω)
section
variable {K : PySem.W.Frag} {m m1 m' : Mp} {Ω Ω1 Ω' : Om} {H H1 H' : Hp} {Γ : Gm} {σ : St} {α β γ δ : Type} {R : Mp → Om → Hp → α → β → Prop} {R2 : Mp → Om → Hp → γ → δ → Prop} {E : XK} {Q Q' : β → Hp → Prop}
theorem Af.go (g : Go K m Ω H m1 Ω1 H1) : ∀ {r : Option (Rs α × Om)}, Af K R E Q m Ω H r → Af K R E Q m1 Ω1 H1 r
  | none, h => h
  | some (.ok a, Ω'), h => fun m' b H' g2 r => h m' b H' (g.trans g2) r
  | some (.ex e, Ω'), h => fun m' H' c d g2 r => h m' H' c d (g.trans g2) r
theorem Af.imp : ∀ {r : Option (Rs α × Om)}, Af K R E Q m Ω H r → (∀ m' Ω' H' a b, r = some (.ok a, Ω') → Go K m Ω H m' Ω' H' → R m' Ω' H' a b → Q b H' → Q' b H') → Af K R E Q' m Ω H r
  | none, h, _ => h
  | some (.ok a, Ω'), h, i => fun m' b H' g2 r => i m' Ω' H' a b rfl g2 r (h m' b H' g2 r)
  | some (.ex e, Ω'), h, _ => h
theorem Af.bind {Q2 : δ → Hp → Prop} {k : α → Om → Option (Rs γ × Om)} : ∀ {r : Option (Rs α × Om)}, Af K R2 E Q2 m Ω H (bR r k) →
    Af K R E (fun b H1 => ∃ m1 Ω1 a, Go K m Ω H m1 Ω1 H1 ∧ R m1 Ω1 H1 a b ∧ Af K R2 E Q2 m1 Ω1 H1 (k a Ω1)) m Ω H r
  | none, h => h
  | some (.ok a, Ω'), h => fun m' b H' g2 r => ⟨m', Ω', a, g2, r, Af.go g2 h⟩
  | some (.ex e, Ω'), h => h
theorem Af.guard {c : Prop} [Decidable c] {r : Option (Rs α × Om)} (h : Af K R E Q m Ω H (if c then r else none)) : c ∧ Af K R E Q m Ω H r := by
  by_cases hc : c
  · rw [if_pos hc] at h; exact ⟨hc, h⟩
  · rw [if_neg hc] at h; exact h.elim
end

/-! ### the judgements -/
abbrev tD (K : PySem.W.Frag) (E : St → XK) (f : Den D) : TE := fun σ H Q => tG K (Rl K) E f σ H Q
abbrev tDA (K : PySem.W.Frag) (E : St → XK) (f : Den (List D)) : TA := fun σ H Q => tG K (RlL K) E f σ H Q
abbrev tDT (K : PySem.W.Frag) (E : St → XK) (f : Den Bool) : TT := fun σ H Q => tG K (fun _ _ _ a b => a = b) E f σ H Q
abbrev DE (X : Cx) (E : St → XK) (e : Expr) (f : Den D) : Prop := PE X e (tD X.K E f)
abbrev DA (X : Cx) (E : St → XK) (es : List Expr) (f : Den (List D)) : Prop := PA X es (tDA X.K E f)
abbrev DT (X : Cx) (E : St → XK) (e : Expr) (f : Den Bool) : Prop := PT X e (tDT X.K E f)
theorem PE.mono {X : Cx} {e : Expr} {t t' : TE} (h : PE X e t) (i : ∀ σ H Q, t' σ H Q → t σ H Q) : PE X e t' := ⟨fun pins s σ H Q I q => h.run pins s σ H Q I (i σ H Q q)⟩
theorem PT.mono {X : Cx} {e : Expr} {t t' : TT} (h : PT X e t) (i : ∀ σ H Q, t' σ H Q → t σ H Q) : PT X e t' := ⟨fun pins s σ H Q I q => h.run pins s σ H Q I (i σ H Q q)⟩
theorem PA.mono {X : Cx} {e : List Expr} {t t' : TA} (h : PA X e t) (i : ∀ σ H Q, t' σ H Q → t σ H Q) : PA X e t' := ⟨fun pos pins s σ H Q I q => h.run pos pins s σ H Q I (i σ H Q q)⟩
theorem PS.mono {X : Cx} {e : Stmt} {t t' : TS} (h : PS X e t) (i : ∀ D σ H, t' D σ H → t D σ H) : PS X e t' := ⟨fun pins s σ H Q I q => h.run pins s σ H Q I (i Q σ H q)⟩
theorem PSs.mono {X : Cx} {e : List Stmt} {t t' : TS} (h : PSs X e t) (i : ∀ D σ H, t' D σ H → t D σ H) : PSs X e t' := ⟨fun pins s σ H Q I q => h.run pins s σ H Q I (i Q σ H q)⟩

/-! ### names, constants -/
def fVar (i : Nat) : Den D := fun Γ Ω => match Γ[i]? with
  | some (some d) => some (.ok d, Ω)
  | _ => none
def fC {α : Type} (d : α) : Den α := fun _ Ω => some (.ok d, Ω)
section
variable {X : Cx} {E : St → XK} {a b e : Expr} {f g : Den D} {pos : Pos}
theorem de_var (i : Nat) {x : Str} {pos : Pos} (hN : X.N[i]? = some x := by rfl) (hv : Vis X.env.scope x := by first | exact Or.inl rfl | exact Or.inr (Or.inl rfl) | exact Or.inr (Or.inr rfl)) (hd : (x == ("__debug__" : Str)) = false := by decide)
    (hcd : (x == ("__classdict__" : Str)) = false := by decide) : DE X E (.Name x pos) (fVar i) := PE.mono (pe_var hN hv hd hcd) fun σ H Q h => by
  obtain ⟨m, Γ, Ω, s, h⟩ := h
  unfold fVar at h
  cases e : Γ[i]? with
  | none => rw [e] at h; exact h.elim
  | some o =>
    rw [e] at h
    cases o with
    | none => exact h.elim
    | some d =>
      obtain ⟨v, h1, h2⟩ := s.slots.2 i d e
      exact ⟨v, h1, h m v H (Go.refl s.cells) h2⟩
theorem de_c {e : Expr} {v : V} {d : D} (h : PE X e (tC v)) (r : ∀ m Ω H, Rl X.K m Ω H d v) : DE X E e (fC d) := PE.mono h fun σ H Q q => by
  obtain ⟨m, Γ, Ω, s, q⟩ := q
  exact q m v H (Go.refl s.cells) (r m Ω H)
theorem de_int {i : Int} {k : Nat} : DE X E (.Constant (.int i) k pos) (fC (.int i)) := de_c pe_int fun _ _ _ => by unfold Rl; rfl
theorem de_str {x : Str} {k : Nat} : DE X E (.Constant (.str x) k pos) (fC (.str x)) := de_c pe_str fun _ _ _ => by unfold Rl; rfl
theorem de_bl {x : Bool} {k : Nat} : DE X E (.Constant (.bool x) k pos) (fC (.bl x)) := de_c pe_bl fun _ _ _ => by unfold Rl; rfl
theorem de_non {k : Nat} : DE X E (.Constant .none k pos) (fC .non) := de_c pe_non fun _ _ _ => by unfold Rl; rfl

/-! ### two operands -/
abbrev Op1 := D → Om → Option (Rs D × Om)
abbrev Op2 := D → D → Om → Option (Rs D × Om)
def fBin (op : Op2) (f g : Den D) : Den D := bnd f fun x => bnd g fun y _ Ω => op x y Ω
def fUn (op : Op1) (f : Den D) : Den D := bnd f fun x _ Ω => op x Ω
/-- the rule r serves the operation op on data -/
def OpD (K : PySem.W.Frag) (op : Op2) (r : R2) : Prop := ∀ (E : XK) (m : Mp) (Ω : Om) (H : Hp) (x y : D) (v u : V) (Q : VK), CellsOk K m Ω H → Rl K m Ω H x v → Rl K m Ω H y u → Af K (Rl K) E Q m Ω H (op x y Ω) →
  r v u H Q
def UnD (K : PySem.W.Frag) (op : Op1) (r : V → Hp → VK → Prop) : Prop := ∀ (E : XK) (m : Mp) (Ω : Om) (H : Hp) (x : D) (v : V) (Q : VK), CellsOk K m Ω H → Rl K m Ω H x v → Af K (Rl K) E Q m Ω H (op x Ω) → r v H Q
theorem op_of {op : Op2} {r : R2} (o : OpD X.K op r) {σ : St} {H : Hp} {Q : VK} (h : tD X.K E (fBin op f g) σ H Q) : tOp r (tD X.K E f) (tD X.K E g) σ H Q := by
  obtain ⟨m, Γ, Ω, s, h⟩ := h
  refine ⟨m, Γ, Ω, s, (Af.bind (R := Rl X.K) h).imp fun _ _ _ _ _ _ _ _ ⟨m1, Ω1, x, g1, r1, q⟩ => ⟨m1, Γ, Ω1, s.go g1, (Af.bind (R := Rl X.K) q).imp fun _ _ _ _ _ _ _ _ ⟨m2, Ω2, y, g2, r2, q2⟩ => ?_⟩⟩
  exact o (E σ) m2 Ω2 _ x y _ _ Q g2.ok (Rl.go g2.toGw g1.ok x _ r1) r2 q2
theorem un_of {op : Op1} {r : V → Hp → VK → Prop} (o : UnD X.K op r) {σ : St} {H : Hp} {Q : VK} (h : tD X.K E (fUn op f) σ H Q) : tUn r (tD X.K E f) σ H Q := by
  obtain ⟨m, Γ, Ω, s, h⟩ := h
  refine ⟨m, Γ, Ω, s, (Af.bind (R := Rl X.K) h).imp fun _ _ _ _ _ _ _ _ ⟨m1, Ω1, x, g1, r1, q⟩ => ?_⟩
  exact o (E σ) m1 Ω1 _ x _ Q g1.ok r1 q
theorem de_bin {op : Operator} {o : Op2} {r : R2} (hr : OpR X (binaryOp op) r) (hd : OpD X.K o r) (ha : DE X E a f) (hb : DE X E b g) : DE X E (.BinOp a op b pos) (fBin o f g) := PE.mono (pe_op hr ha hb) fun _ _ _ h => op_of hd h
theorem de_un {op : UnaryOp} {o : Op1} {r : V → Hp → VK → Prop} (hr : UnR X (unaryOp op) r) (hd : UnD X.K o r) (ha : DE X E a f) : DE X E (.UnaryOp op a pos) (fUn o f) := PE.mono (pe_un hr ha) fun _ _ _ h => un_of hd h
theorem de_cmp {op : CmpOp} {o : Op2} {r : R2} (hr : OpR X (compareOp op) r) (hd : OpD X.K o r) (ha : DE X E a f) (hb : DE X E b g) (hm : behindInMarks op b = false) : DE X E (.Compare a [op] [b] pos) (fBin o f g) := PE.mono (pe_cmpR hr ha hb hm) fun _ _ _ h => op_of hd h
theorem de_ix {o : Op2} {r : R2} (hr : IxR X r) (hd : OpD X.K o r) (ha : DE X E a f) (hb : DE X E b g) (hp : PlainIx b) : DE X E (.Subscript a b pos) (fBin o f g) := PE.mono (pe_ix hr ha hb hp) fun _ _ _ h => op_of hd h

/-- one of two rules, by the data -/
def r2or (r r' : R2) : R2 := fun x y H Q => r x y H Q ∨ r' x y H Q
theorem opR_or {f : Value → Value → Sem Value} {r r' : R2} (h : OpR X f r) (h' : OpR X f r') : OpR X f (r2or r r') := fun pins s σ H x y v u Q I rx ry q => q.elim (h pins s σ H x y v u Q I rx ry) (h' pins s σ H x y v u Q I rx ry)
end

/-! ### tests -/
def fT (f : Den D) : Den Bool := bnd f fun x _ Ω => match x with
  | .bl b => some (.ok b, Ω)
  | _ => none
def fAnd (f g : Den Bool) : Den Bool := bnd f fun x => if x = true then g else fC false
def fOr (f g : Den Bool) : Den Bool := bnd f fun x => if x = true then fC true else g
def fNot (f : Den Bool) : Den Bool := bnd f fun x => fC (!x)
def fBl (f : Den Bool) : Den D := bnd f fun x => fC (.bl x)
def fIf {α : Type} (c : Den Bool) (f g : Den α) : Den α := bnd c fun x => if x = true then f else g
def fAndV (f g : Den D) : Den D := bnd (fT f) fun x => if x = true then g else fC (.bl false)
def fOrV (f g : Den D) : Den D := bnd (fT f) fun x => if x = true then fC (.bl true) else g
section
variable {X : Cx} {E : St → XK} {a b c e : Expr} {f g : Den D} {p q : Den Bool} {pos : Pos} {rest : List Expr}
theorem tT_of {f : Den D} {σ : St} {H : Hp} {Q : Bool → Hp → Prop} {K : PySem.W.Frag} (h : tDT K E (fT f) σ H Q) : tD K E f σ H fun x H1 => ∃ c, x = .bl c ∧ Q c H1 := by
  obtain ⟨m, Γ, Ω, s, h⟩ := h
  refine ⟨m, Γ, Ω, s, (Af.bind (R := Rl K) h).imp fun _ _ _ _ _ _ _ _ ⟨m1, Ω1, x, g1, r1, q⟩ => ?_⟩
  cases x with
  | bl c =>
    unfold Rl at r1
    exact ⟨c, r1, q m1 c _ (Go.refl g1.ok) rfl⟩
  | _ => exact q.elim
/-- a test that is a value's truth: of True and False alone -/
theorem dt_val (h : DE X E e f) (he : ∀ (whole : Sem Value), PySem.isTrue e X.env whole = (do let v ← whole; standAt e.pos; holding [v] (truthy v)) := by intro _; rfl) : DT X E e (fT f) := PT.mono (pt_val h he) fun σ H Q h => tT_of h
theorem dt_cmp {op : CmpOp} {o : Op2} {r : R2} (hr : OpR X (compareOp op) r) (hd : OpD X.K o r) (ha : DE X E a f) (hb : DE X E b g) (hm : behindInMarks op b = false) : DT X E (.Compare a [op] [b] pos) (fT (fBin o f g)) := PT.mono (pt_cmpR hr ha hb hm) fun σ H Q h => by
  have h2 := tT_of h
  exact op_of hd h2
theorem dt_not (h : DT X E a p) : DT X E (.UnaryOp .Not a pos) (fNot p) := PT.mono (pt_not h) fun σ H Q h => by
  obtain ⟨m, Γ, Ω, s, h⟩ := h
  refine ⟨m, Γ, Ω, s, (Af.bind (R := fun _ _ _ a b => a = b) h).imp fun _ _ _ _ _ _ _ _ ⟨m1, Ω1, x, g1, r1, q⟩ => ?_⟩
  subst r1
  exact q m1 _ _ (Go.refl g1.ok) rfl
theorem tAnd_of {σ : St} {H : Hp} {Q : Bool → Hp → Prop} {K : PySem.W.Frag} (h : tDT K E (fAnd p q) σ H Q) : tAnd (tDT K E p) (tDT K E q) σ H Q := by
  obtain ⟨m, Γ, Ω, s, h⟩ := h
  refine ⟨m, Γ, Ω, s, (Af.bind (R := fun _ _ _ a b => a = b) h).imp fun _ _ _ _ _ _ _ _ ⟨m1, Ω1, x, g1, r1, q⟩ => ?_⟩
  subst r1
  cases x with
  | true => exact ⟨m1, Γ, Ω1, s.go g1, q⟩
  | false => exact q m1 _ _ (Go.refl g1.ok) rfl
theorem tOr_of {σ : St} {H : Hp} {Q : Bool → Hp → Prop} {K : PySem.W.Frag} (h : tDT K E (fOr p q) σ H Q) : tOr (tDT K E p) (tDT K E q) σ H Q := by
  obtain ⟨m, Γ, Ω, s, h⟩ := h
  refine ⟨m, Γ, Ω, s, (Af.bind (R := fun _ _ _ a b => a = b) h).imp fun _ _ _ _ _ _ _ _ ⟨m1, Ω1, x, g1, r1, q⟩ => ?_⟩
  subst r1
  cases x with
  | true => exact q m1 _ _ (Go.refl g1.ok) rfl
  | false => exact ⟨m1, Γ, Ω1, s.go g1, q⟩
/-- and, or: the last one first -/
abbrev DW (X : Cx) (E : St → XK) (e : Expr) (f : Den Bool) : Prop := PW X e (tDT X.K E f)
theorem PW.mono {X : Cx} {e : Expr} {t t' : TT} (h : PW X e t) (i : ∀ σ H Q, t' σ H Q → t σ H Q) : PW X e t' := ⟨fun wh pins s σ H Q I q => h.run wh pins s σ H Q I (i σ H Q q)⟩
theorem dw_and1 (h : DT X E a p) : DW X E (.BoolOp .And [a] pos) p := pw_and1 h
theorem dw_or1 (h : DT X E a p) : DW X E (.BoolOp .Or [a] pos) p := pw_or1 h
theorem dw_and (h1 : DT X E a p) (h2 : DW X E (.BoolOp .And (b :: rest) pos) q) : DW X E (.BoolOp .And (a :: b :: rest) pos) (fAnd p q) := PW.mono (pw_and h1 h2) fun _ _ _ h => tAnd_of h
theorem dw_or (h1 : DT X E a p) (h2 : DW X E (.BoolOp .Or (b :: rest) pos) q) : DW X E (.BoolOp .Or (a :: b :: rest) pos) (fOr p q) := PW.mono (pw_or h1 h2) fun _ _ _ h => tOr_of h
theorem dt_w (h : DW X E e p) : DT X E e p := h.pt
/-- and, or, not as values, of True and False -/
theorem de_one {op : BoolOp} (h : DE X E a f) : DE X E (.BoolOp op [a] pos) f := pe_one h
theorem de_and (h1 : DE X E a f) (h2 : DE X E (.BoolOp .And (b :: rest) pos) g) : DE X E (.BoolOp .And (a :: b :: rest) pos) (fAndV f g) := PE.mono (pe_and h1 h2) fun σ H Q h => by
  obtain ⟨m, Γ, Ω, s, h⟩ := h
  refine (tT_of (Q := fun c H1 => if c = true then tD X.K E g σ H1 Q else Q (.bl false) H1) ⟨m, Γ, Ω, s, (Af.bind (R := fun _ _ _ a b => a = b) h).imp fun _ _ _ _ _ _ _ _ ⟨m1, Ω1, x, g1, r1, q⟩ => ?_⟩)
  subst r1
  cases x with
  | true => exact ⟨m1, Γ, Ω1, s.go g1, q⟩
  | false => exact q m1 _ _ (Go.refl g1.ok) (by unfold Rl; rfl)
theorem de_or (h1 : DE X E a f) (h2 : DE X E (.BoolOp .Or (b :: rest) pos) g) : DE X E (.BoolOp .Or (a :: b :: rest) pos) (fOrV f g) := PE.mono (pe_or h1 h2) fun σ H Q h => by
  obtain ⟨m, Γ, Ω, s, h⟩ := h
  refine (tT_of (Q := fun c H1 => if c = true then Q (.bl true) H1 else tD X.K E g σ H1 Q) ⟨m, Γ, Ω, s, (Af.bind (R := fun _ _ _ a b => a = b) h).imp fun _ _ _ _ _ _ _ _ ⟨m1, Ω1, x, g1, r1, q⟩ => ?_⟩)
  subst r1
  cases x with
  | true => exact q m1 _ _ (Go.refl g1.ok) (by unfold Rl; rfl)
  | false => exact ⟨m1, Γ, Ω1, s.go g1, q⟩
def fNotV (f : Den D) : Den D := fBl (fNot (fT f))
theorem de_not (h : DE X E a f) : DE X E (.UnaryOp .Not a pos) (fNotV f) := PE.mono (pe_not h) fun σ H Q h => by
  obtain ⟨m, Γ, Ω, s, h⟩ := h
  refine (tT_of (Q := fun c H1 => Q (.bl (!c)) H1) ⟨m, Γ, Ω, s, ?_⟩)
  have h2 := (Af.bind (R := fun _ _ _ a b => a = b) (β := Bool) h)
  have h3 := (Af.bind (R := fun _ _ _ a b => a = b) (β := Bool) h2)
  refine h3.imp fun _ _ _ _ _ _ _ _ ⟨m1, Ω1, x, g1, r1, q⟩ => ?_
  subst r1
  obtain ⟨m2, Ω2, y, g2, r2, q2⟩ := q m1 (!x) _ (Go.refl g1.ok) rfl
  subst r2
  exact q2 m2 _ _ (Go.refl g2.ok) (by unfold Rl; rfl)
theorem de_if (hc : DT X E c p) (h1 : DE X E a f) (h2 : DE X E b g) : DE X E (.IfExp c a b pos) (fIf p f g) := PE.mono (pe_ifExp hc h1 h2) fun σ H Q h => by
  obtain ⟨m, Γ, Ω, s, h⟩ := h
  refine ⟨m, Γ, Ω, s, (Af.bind (R := fun _ _ _ a b => a = b) h).imp fun _ _ _ _ _ _ _ _ ⟨m1, Ω1, x, g1, r1, q⟩ => ?_⟩
  subst r1
  cases x with
  | true => exact ⟨m1, Γ, Ω1, s.go g1, q⟩
  | false => exact ⟨m1, Γ, Ω1, s.go g1, q⟩
end

/-! ### argument lists, tuples, lists -/
def fNil : Den (List D) := fC []
def fCons (f : Den D) (r : Den (List D)) : Den (List D) := bnd f fun x => bnd r fun xs => fC (x :: xs)
def fTup (r : Den (List D)) : Den D := bnd r fun xs _ Ω => if xs.length ≤ 100000 then some (.ok (.tup xs), Ω) else none
/-- a list that no longer changes; one that is a cell -/
def fLst (r : Den (List D)) : Den D := bnd r fun xs _ Ω => if xs.length ≤ 100000 then some (.ok (.lst xs), Ω) else none
def fLstC (r : Den (List D)) : Den D := bnd r fun xs _ Ω => if xs.length ≤ 100000 then some (.ok (.ref Ω.length), Ω ++ [.lst xs]) else none
theorem sz {n : Nat} (h : n ≤ 100000) : n ≤ sizeLine := Nat.le_trans h (by decide)
section
variable {X : Cx} {E : St → XK} {a b c e : Expr} {es : List Expr} {f g : Den D} {r : Den (List D)} {pos : Pos}
theorem RlL.length {K : PySem.W.Frag} {m : Mp} {Ω : Om} {H : Hp} : ∀ {ds : List D} {vs : List V}, RlL K m Ω H ds vs → ds.length = vs.length
  | [], vs, h => by unfold RlL at h; rw [h]; rfl
  | d :: ds, vs, h => by
    unfold RlL at h
    obtain ⟨v, r, e, _, h2⟩ := h
    rw [e, List.length_cons, List.length_cons, RlL.length h2]
theorem da_nil : DA X E [] fNil := PA.mono pa_nil fun σ H Q h => by
  obtain ⟨m, Γ, Ω, s, h⟩ := h
  exact h m [] H (Go.refl s.cells) (by unfold RlL; rfl)
theorem da_cons (h1 : DE X E e f) (h2 : DA X E es r) (hs : starEach (e :: es) X.env = (false, eval e X.env) :: starEach es X.env := by rfl) : DA X E (e :: es) (fCons f r) := PA.mono (pa_cons h1 h2 hs) fun σ H Q h => by
  obtain ⟨m, Γ, Ω, s, h⟩ := h
  refine ⟨m, Γ, Ω, s, (Af.bind (R := Rl X.K) h).imp fun _ _ _ _ _ _ _ _ ⟨m1, Ω1, x, g1, r1, q⟩ => ⟨m1, Γ, Ω1, s.go g1, (Af.bind (R := RlL X.K) q).imp fun _ _ _ _ _ _ _ _ ⟨m2, Ω2, xs, g2, r2, q2⟩ => ?_⟩⟩
  refine q2 m2 _ _ (Go.refl g2.ok) ?_
  unfold RlL
  exact ⟨_, _, rfl, Rl.go g2.toGw g1.ok x _ r1, r2⟩
theorem RlL.new {K : PySem.W.Frag} {m : Mp} {Ω : Om} {H : Hp} {p : Addr} {o : HO} (c : CellsOk K m Ω H) (hp : H p = none) {ds : List D} {vs : List V} (h : RlL K m Ω H ds vs) : RlL K m Ω (upd H p o) ds vs := RlL.go (Go.new c hp).toGw c ds vs h
theorem de_tup {x1} (h : DA X E es r) : DE X E (.Tuple es x1 pos) (fTup r) := PE.mono (pe_tup h) fun σ H Q h => by
  obtain ⟨m, Γ, Ω, s, h⟩ := h
  refine ⟨m, Γ, Ω, s, (Af.bind (R := RlL X.K) h).imp fun _ _ H1 _ b _ _ _ ⟨m1, Ω1, xs, g1, r1, q⟩ => ?_⟩
  obtain ⟨hz, q⟩ := Af.guard q
  refine ⟨by rw [← r1.length]; exact sz hz, fun p hp => q m1 _ _ (Go.new g1.ok hp) ?_⟩
  unfold Rl
  exact ⟨p, _, rfl, .inl upd_same, RlL.new g1.ok hp r1⟩
/-- a new pure list -/
theorem Rl.newL {K : PySem.W.Frag} {m : Mp} {Ω : Om} {H : Hp} {p : Addr} {ds : List D} {vs : List V} (c : CellsOk K m Ω H) (hp : H p = none) (h : RlL K m Ω H ds vs) : Rl K m Ω (upd H p (.lst vs)) (.lst ds) (.ref p) := by
  unfold Rl
  exact ⟨p, vs, rfl, upd_same, c.freshL hp, RlL.new c hp h⟩
theorem de_lst (h : DA X E es r) : DE X E (.List es pos) (fLst r) := PE.mono (pe_lst h) fun σ H Q h => by
  obtain ⟨m, Γ, Ω, s, h⟩ := h
  refine ⟨m, Γ, Ω, s, (Af.bind (R := RlL X.K) h).imp fun _ _ H1 _ b _ _ _ ⟨m1, Ω1, xs, g1, r1, q⟩ => ?_⟩
  obtain ⟨hz, q⟩ := Af.guard q
  exact ⟨by rw [← r1.length]; exact sz hz, fun p hp => q m1 _ _ (Go.new g1.ok hp) (Rl.newL g1.ok hp r1)⟩
/-- a new cell that is a list -/
theorem Go.cellL {K : PySem.W.Frag} {m : Mp} {Ω : Om} {H : Hp} {p : Addr} {ds : List D} {vs : List V} (c : CellsOk K m Ω H) (hp : H p = none) (h : RlL K m Ω H ds vs) : Go K m Ω H (m.add p) (Ω ++ [.lst ds]) (upd H p (.lst vs)) :=
  Go.cell c hp fun g => ⟨vs, upd_same, RlL.go g c ds vs h⟩
theorem rl_last {K : PySem.W.Frag} {m : Mp} {Ω Ω1 : Om} {H H1 : Hp} {p : Addr} (c : CellsOk K m Ω H) : Rl K (m.add p) Ω1 H1 (.ref Ω.length) (.ref p) := by
  unfold Rl
  exact ⟨p, rfl, by show (m.l ++ [p])[Ω.length]? = some p; rw [← c.len]; simp⟩
theorem de_lstC (h : DA X E es r) : DE X E (.List es pos) (fLstC r) := PE.mono (pe_lst h) fun σ H Q h => by
  obtain ⟨m, Γ, Ω, s, h⟩ := h
  refine ⟨m, Γ, Ω, s, (Af.bind (R := RlL X.K) h).imp fun _ _ H1 _ b _ _ _ ⟨m1, Ω1, xs, g1, r1, q⟩ => ?_⟩
  obtain ⟨hz, q⟩ := Af.guard q
  exact ⟨by rw [← r1.length]; exact sz hz, fun p hp => q (m1.add p) _ _ (Go.cellL g1.ok hp r1) (rl_last g1.ok)⟩
end
end Dn


set_option Elab.async false
set_option linter.all false
set_option maxRecDepth 100000
/-! DnOps: operators on data. -/
namespace Dn
open PySem L2
section
variable {K : PySem.W.Frag} {m : Mp} {Ω : Om} {H : Hp}
/-- done: the value stands -/
theorem Af.now {α β : Type} {R : Mp → Om → Hp → α → β → Prop} {E : XK} {Q : β → Hp → Prop} {a : α} (q : Af K R E Q m Ω H (some (.ok a, Ω))) (c : CellsOk K m Ω H) {b : β} (r : R m Ω H a b) : Q b H := q m b H (Go.refl c) r
def opI (g : Int → Int → D) : Op2 := fun x y Ω => match x, y with
  | .int i, .int j => some (.ok (g i j), Ω)
  | _, _ => none
def opIC (C : Int → Int → Bool) (g : Int → Int → D) : Op2 := fun x y Ω => match x, y with
  | .int i, .int j => if C i j = true then some (.ok (g i j), Ω) else none
  | _, _ => none
theorem opD_I0 {g : Int → Int → D} {g' : Int → Int → V} (h : ∀ m Ω H i j, Rl K m Ω H (g i j) (g' i j)) : OpD K (opI g) (rI0 g') := by
  intro E m Ω H x y v u Q c rx ry q
  cases x with
  | int i =>
    cases y with
    | int j =>
      unfold Rl at rx ry
      exact ⟨i, j, rx, ry, q.now c (h m Ω H i j)⟩
    | _ => exact q.elim
  | _ => exact q.elim
theorem opD_I {C : Int → Int → Bool} {C' : Int → Int → Prop} {g : Int → Int → D} {g' : Int → Int → V} (hC : ∀ i j, C i j = true → C' i j) (h : ∀ m Ω H i j, Rl K m Ω H (g i j) (g' i j)) : OpD K (opIC C g) (rI C' g') := by
  intro E m Ω H x y v u Q c rx ry q
  cases x with
  | int i =>
    cases y with
    | int j =>
      unfold Rl at rx ry
      obtain ⟨hc, q⟩ := Af.guard q
      exact ⟨i, j, rx, ry, hC i j hc, q.now c (h m Ω H i j)⟩
    | _ => exact q.elim
  | _ => exact q.elim
theorem rl_int {i : Int} : Rl K m Ω H (.int i) (.int i) := by unfold Rl; rfl
theorem rl_bl {i : Bool} : Rl K m Ω H (.bl i) (.bl i) := by unfold Rl; rfl
def dSub : Op2 := opI fun i j => .int (i - j)
def dLt : Op2 := opI fun i j => .bl (decide (i < j))
def dLe : Op2 := opI fun i j => .bl (decide (i ≤ j))
def dGt : Op2 := opI fun i j => .bl (decide (j < i))
def dGe : Op2 := opI fun i j => .bl (decide (j ≤ i))
def cMul (i j : Int) : Bool := decide ((-(2 ^ 64) < i ∧ i < 2 ^ 64) ∨ (-(2 ^ 64) < j ∧ j < 2 ^ 64))
def dMul : Op2 := opIC cMul fun i j => .int (i * j)
def dFdiv : Op2 := opIC (fun _ j => decide (0 < j ∧ j < 1073741824)) fun i j => .int (i / j)
def dMod : Op2 := opIC (fun _ j => decide (0 < j)) fun i j => .int (i % j)
def dPow : Op2 := opIC (fun i j => decide (0 ≤ j ∧ j ≤ 1000000 ∧ i.natAbs < 2 ^ 64)) fun i j => .int (i ^ j.toNat)
theorem od_sub : OpD K dSub (rI0 fun i j => .int (i - j)) := opD_I0 fun _ _ _ _ _ => rl_int
theorem od_lt : OpD K dLt (rI0 fun i j => .bl (decide (i < j))) := opD_I0 fun _ _ _ _ _ => rl_bl
theorem od_le : OpD K dLe (rI0 fun i j => .bl (decide (i ≤ j))) := opD_I0 fun _ _ _ _ _ => rl_bl
theorem od_gt : OpD K dGt (rI0 fun i j => .bl (decide (j < i))) := opD_I0 fun _ _ _ _ _ => rl_bl
theorem od_ge : OpD K dGe (rI0 fun i j => .bl (decide (j ≤ i))) := opD_I0 fun _ _ _ _ _ => rl_bl
theorem od_mul : OpD K dMul (rI CMul fun i j => .int (i * j)) := opD_I (fun i j h => of_decide_eq_true (p := (-(2 ^ 64) < i ∧ i < 2 ^ 64) ∨ (-(2 ^ 64) < j ∧ j < 2 ^ 64)) h) fun _ _ _ _ _ => rl_int
theorem od_fdiv : OpD K dFdiv (rI CDiv fun i j => .int (i / j)) := opD_I (fun i j h => of_decide_eq_true (p := 0 < j ∧ j < 1073741824) h) fun _ _ _ _ _ => rl_int
theorem od_mod : OpD K dMod (rI (fun _ j => 0 < j) fun i j => .int (i % j)) := opD_I (fun _ _ h => of_decide_eq_true h) fun _ _ _ _ _ => rl_int
theorem od_pow : OpD K dPow (rI CPow fun i j => .int (i ^ j.toNat)) := opD_I (fun i j h => of_decide_eq_true (p := 0 ≤ j ∧ j ≤ 1000000 ∧ i.natAbs < 2 ^ 64) h) fun _ _ _ _ _ => rl_int

/-! ### lists -/
def asL (Ω : Om) : D → Option (List D)
  | .lst xs => some xs
  | .ref n => match Ω[n]? with
    | some (.lst xs) => some xs
    | _ => none
  | _ => none
theorem asL_ok (c : CellsOk K m Ω H) : ∀ {d : D} {v : V} {xs : List D}, Rl K m Ω H d v → asL Ω d = some xs → ∃ a vs, v = .ref a ∧ H a = some (.lst vs) ∧ RlL K m Ω H xs vs := by
  intro d v xs r e
  cases d with
  | lst ys =>
    unfold Rl at r
    cases (Option.some.inj e)
    obtain ⟨a, vs, e1, h1, _, h2⟩ := r
    exact ⟨a, vs, e1, h1, h2⟩
  | ref n =>
    unfold Rl at r
    obtain ⟨a, e1, h1⟩ := r
    unfold asL at e
    dsimp only at e
    cases q : Ω[n]? with
    | none => rw [q] at e; cases e
    | some x =>
      rw [q] at e
      cases x with
      | lst ys =>
        cases (Option.some.inj e)
        obtain ⟨vs, h2, h3⟩ := c.at_ n _ a q h1
        exact ⟨a, vs, e1, h2, h3⟩
      | _ => cases e
  | _ => cases e
theorem RlL.get : ∀ {ds : List D} {vs : List V} {i : Nat} {d : D}, RlL K m Ω H ds vs → ds[i]? = some d → ∃ v, vs[i]? = some v ∧ Rl K m Ω H d v
  | [], vs, i, d, h, e => by simp at e
  | x :: ds, vs, i, d, h, e => by
    unfold RlL at h
    obtain ⟨v, r, e1, h1, h2⟩ := h
    subst e1
    cases i with
    | zero => simp at e; subst e; exact ⟨v, rfl, h1⟩
    | succ i =>
      obtain ⟨w, h3, h4⟩ := RlL.get (i := i) h2 (by simpa using e)
      exact ⟨w, by simpa using h3, h4⟩
theorem RlL.atI {ds : List D} {vs : List V} {i : Int} {d : D} (h : RlL K m Ω H ds vs) (e : L2.atI ds i = some d) : ∃ v, L2.atI vs i = some v ∧ Rl K m Ω H d v := by
  unfold L2.atI at e ⊢
  rw [h.length] at e
  cases q : ixN vs.length i with
  | none => rw [q] at e; cases e
  | some j => rw [q] at e; exact h.get e
theorem RlL.append : ∀ {ds es : List D} {vs ws : List V}, RlL K m Ω H ds vs → RlL K m Ω H es ws → RlL K m Ω H (ds ++ es) (vs ++ ws)
  | [], es, vs, ws, h, h' => by unfold RlL at h; subst h; exact h'
  | x :: ds, es, vs, ws, h, h' => by
    unfold RlL at h
    obtain ⟨v, r, e1, h1, h2⟩ := h
    subst e1
    show RlL K m Ω H (x :: (ds ++ es)) (v :: (r ++ ws))
    unfold RlL
    exact ⟨v, _, rfl, h1, h2.append h'⟩
theorem RlL.one {d : D} {v : V} (h : Rl K m Ω H d v) : RlL K m Ω H [d] [v] := by
  unfold RlL
  exact ⟨v, [], rfl, h, by unfold RlL; rfl⟩
theorem RlL.set : ∀ {ds : List D} {vs : List V} (i : Nat) {d : D} {v : V}, RlL K m Ω H ds vs → Rl K m Ω H d v → RlL K m Ω H (ds.set i d) (vs.set i v)
  | [], vs, i, d, v, h, _ => by unfold RlL at h; subst h; unfold RlL; rfl
  | x :: ds, vs, i, d, v, h, h' => by
    unfold RlL at h
    obtain ⟨w, r, e1, h1, h2⟩ := h
    subst e1
    cases i with
    | zero =>
      show RlL K m Ω H (d :: ds) (v :: r)
      unfold RlL
      exact ⟨v, _, rfl, h', h2⟩
    | succ i =>
      show RlL K m Ω H (x :: ds.set i d) (w :: r.set i v)
      unfold RlL
      exact ⟨w, _, rfl, h1, RlL.set i h2 h'⟩
/-- x[i] of a list, a cell, a tuple, the script -/
def dIx : Op2 := fun x y Ω => match x, y with
  | .tup xs, .int i => match L2.atI xs i with
    | some d => some (.ok d, Ω)
    | none => none
  | .scr xs, .int i => match L2.atI xs i with
    | some d => some (.ok (.int d), Ω)
    | none => none
  | x, .int i => match asL Ω x with
    | some xs => match L2.atI xs i with
      | some d => some (.ok d, Ω)
      | none => none
    | none => none
  | _, _ => none
theorem od_ix : OpD K dIx (r2or (rIxL K) (rIxT K)) := by
  intro E m Ω H x y v u Q c rx ry q
  cases y with
  | int i =>
    unfold Rl at ry
    have one : ∀ (d : D) (xs : List D), d = x → asL Ω d = some xs → Af K (Rl K) E Q m Ω H (match L2.atI xs i with | some d => some (.ok d, Ω) | none => none) → r2or (rIxL K) (rIxT K) v u H Q := fun d xs ed e qq => by
      clear q
      subst ed
      obtain ⟨a, vs, e1, h1, h2⟩ := asL_ok c rx e
      cases e2 : L2.atI xs i with
      | none => rw [e2] at qq; exact qq.elim
      | some d =>
        rw [e2] at qq
        obtain ⟨w, h3, h4⟩ := h2.atI e2
        exact .inl ⟨a, vs, i, w, e1, ry, SqL.of h1, h3, qq.now c h4⟩
    cases x with
    | tup xs =>
      unfold Rl at rx
      obtain ⟨a, vs, e1, h1, h2⟩ := rx
      unfold dIx at q
      dsimp only at q
      cases e2 : L2.atI xs i with
      | none => rw [e2] at q; exact q.elim
      | some d =>
        rw [e2] at q
        obtain ⟨w, h3, h4⟩ := h2.atI e2
        exact .inr ⟨a, vs, i, w, e1, ry, h1.sq, h3, q.now c h4⟩
    | scr xs =>
      unfold Rl at rx
      obtain ⟨a, e1, h1⟩ := rx
      unfold dIx at q
      dsimp only at q
      cases e2 : L2.atI xs i with
      | none => rw [e2] at q; exact q.elim
      | some d =>
        rw [e2] at q
        refine .inl ⟨a, xs.map V.int, i, .int d, e1, ry, h1.sq, ?_, q.now c rl_int⟩
        unfold L2.atI at e2 ⊢
        rw [List.length_map]
        cases e3 : ixN xs.length i with
        | none => rw [e3] at e2; cases e2
        | some j =>
          rw [e3] at e2
          show (xs.map V.int)[j]? = some (.int d)
          rw [List.getElem?_map, show xs[j]? = some d from e2] <;> rfl
    | lst xs => exact one (.lst xs) xs rfl rfl q
    | ref n =>
      unfold dIx at q
      dsimp only at q
      cases e : asL Ω (.ref n) with
      | none => rw [e] at q; exact q.elim
      | some xs => rw [e] at q; exact one (.ref n) xs rfl e q
    | _ => exact q.elim
  | _ => cases x <;> exact q.elim
/-- a + b -/
def dAdd : Op2 := fun x y Ω => match x, y with
  | .int i, .int j => some (.ok (.int (i + j)), Ω)
  | .str a, .str b => if a.length + b.length ≤ 100000 then some (.ok (.str (a ++ b)), Ω) else none
  | x, y => match asL Ω x with
    | some xs => match asL Ω y with
      | some ys => if xs.length + ys.length ≤ 100000 then some (.ok (.lst (xs ++ ys)), Ω) else none
      | none => none
    | none => none
def rAddS : R2 := fun x y H Q => ∃ i j, x = .str i ∧ y = .str j ∧ i.length + j.length ≤ sizeLine ∧ Q (.str (i ++ j)) H
theorem od_add : OpD K dAdd (r2or (rI0 fun i j => .int (i + j)) (r2or rAddS rCat)) := by
  intro E m Ω H x y v u Q c rx ry q
  have cat : ∀ (d e : D), d = x → e = y → Af K (Rl K) E Q m Ω H (match asL Ω d with
    | some xs => match asL Ω e with
      | some ys => if xs.length + ys.length ≤ 100000 then some (.ok (.lst (xs ++ ys)), Ω) else none
      | none => none
    | none => none) → rCat v u H Q := fun d e ed ee qq => by
    clear q
    subst ed ee
    cases e1 : asL Ω d with
    | none => rw [e1] at qq; exact qq.elim
    | some xs =>
      rw [e1] at qq
      cases e2 : asL Ω e with
      | none => rw [e2] at qq; exact qq.elim
      | some ys =>
        rw [e2] at qq
        obtain ⟨hz, qq⟩ := Af.guard qq
        obtain ⟨a, vs, e3, h1, h2⟩ := asL_ok c rx e1
        obtain ⟨b, ws, e4, h3, h4⟩ := asL_ok c ry e2
        exact ⟨a, b, vs, ws, e3, e4, h1, h3, by rw [← h2.length, ← h4.length]; exact sz hz, fun p hp => qq m _ _ (Go.new c hp) (Rl.newL c hp (h2.append h4))⟩
  cases x with
  | int i =>
    cases y with
    | int j =>
      unfold Rl at rx ry
      exact .inl ⟨i, j, rx, ry, q.now c rl_int⟩
    | _ => exact q.elim
  | str i =>
    cases y with
    | str j =>
      unfold Rl at rx ry
      obtain ⟨hz, q⟩ := Af.guard q
      exact .inr (.inl ⟨i, j, rx, ry, sz hz, q.now c (by unfold Rl; rfl)⟩)
    | _ => exact q.elim
  | lst xs => cases y <;> first | exact q.elim | exact .inr (.inr (cat _ _ rfl rfl q))
  | ref n => cases y <;> exact .inr (.inr (cat _ _ rfl rfl q))
  | _ => cases y <;> exact q.elim
end
section
variable {X : Cx} {E : St → XK} {a b e : Expr} {f g : Den D} {pos : Pos}
theorem op_addX : OpR X (binaryOp .Add) (r2or (rI0 fun i j => .int (i + j)) (r2or rAddS rCat)) := opR_or op_add (opR_or op_add_str op_cat)
theorem ixR_or {r r' : R2} (h : IxR X r) (h' : IxR X r') : IxR X (r2or r r') := fun value slice pins s σ H x y v u Q I rx ry q hs => q.elim (fun q => h value slice pins s σ H x y v u Q I rx ry q hs) (fun q => h' value slice pins s σ H x y v u Q I rx ry q hs)
theorem de_add (ha : DE X E a f) (hb : DE X E b g) : DE X E (.BinOp a .Add b pos) (fBin dAdd f g) := de_bin op_addX od_add ha hb
theorem de_sub (ha : DE X E a f) (hb : DE X E b g) : DE X E (.BinOp a .Sub b pos) (fBin dSub f g) := de_bin op_sub od_sub ha hb
theorem de_mul (ha : DE X E a f) (hb : DE X E b g) : DE X E (.BinOp a .Mult b pos) (fBin dMul f g) := de_bin op_mul od_mul ha hb
theorem de_fdiv (ha : DE X E a f) (hb : DE X E b g) : DE X E (.BinOp a .FloorDiv b pos) (fBin dFdiv f g) := de_bin op_fdiv od_fdiv ha hb
theorem de_mod (ha : DE X E a f) (hb : DE X E b g) : DE X E (.BinOp a .Mod b pos) (fBin dMod f g) := de_bin op_mod od_mod ha hb
theorem de_pow (ha : DE X E a f) (hb : DE X E b g) : DE X E (.BinOp a .Pow b pos) (fBin dPow f g) := de_bin op_pow od_pow ha hb
theorem de_lt (ha : DE X E a f) (hb : DE X E b g) : DE X E (.Compare a [.Lt] [b] pos) (fBin dLt f g) := de_cmp op_lt od_lt ha hb (nomark _)
theorem de_le (ha : DE X E a f) (hb : DE X E b g) : DE X E (.Compare a [.LtE] [b] pos) (fBin dLe f g) := de_cmp op_le od_le ha hb (nomark _)
theorem de_gt (ha : DE X E a f) (hb : DE X E b g) : DE X E (.Compare a [.Gt] [b] pos) (fBin dGt f g) := de_cmp op_gt od_gt ha hb (nomark _)
theorem de_ge (ha : DE X E a f) (hb : DE X E b g) : DE X E (.Compare a [.GtE] [b] pos) (fBin dGe f g) := de_cmp op_ge od_ge ha hb (nomark _)
theorem dt_lt (ha : DE X E a f) (hb : DE X E b g) : DT X E (.Compare a [.Lt] [b] pos) (fT (fBin dLt f g)) := dt_cmp op_lt od_lt ha hb (nomark _)
theorem dt_le (ha : DE X E a f) (hb : DE X E b g) : DT X E (.Compare a [.LtE] [b] pos) (fT (fBin dLe f g)) := dt_cmp op_le od_le ha hb (nomark _)
theorem dt_gt (ha : DE X E a f) (hb : DE X E b g) : DT X E (.Compare a [.Gt] [b] pos) (fT (fBin dGt f g)) := dt_cmp op_gt od_gt ha hb (nomark _)
theorem dt_ge (ha : DE X E a f) (hb : DE X E b g) : DT X E (.Compare a [.GtE] [b] pos) (fT (fBin dGe f g)) := dt_cmp op_ge od_ge ha hb (nomark _)
theorem de_sq (ha : DE X E a f) (hb : DE X E b g) (hp : PlainIx b := by intro _ _; rfl) : DE X E (.Subscript a b pos) (fBin dIx f g) := de_ix (ixR_or ix_list ix_tup) od_ix ha hb hp
def dNeg : Op1 := fun x Ω => match x with
  | .int i => some (.ok (.int (-i)), Ω)
  | _ => none
theorem de_neg (ha : DE X E a f) : DE X E (.UnaryOp .USub a pos) (fUn dNeg f) := de_un un_neg (by
  intro E m Ω H x v Q c rx q
  cases x with
  | int i => unfold Rl at rx; exact ⟨i, rx, q.now c rl_int⟩
  | _ => exact q.elim) ha
end
end Dn


set_option Elab.async false
set_option linter.all false
set_option maxRecDepth 100000
/-! DnStm: statements, targets, walks. -/
namespace Dn
open PySem L2

inductive Fl where
  | nx | rt (d : D) | bk | ct | ex (e : Xn)
abbrev DenS := Gm → Om → Option (Fl × Gm × Om)
def AfS (K : PySem.W.Frag) (E : St → XK) (D : Ends) (m : Mp) (Ω : Om) (H : Hp) (r : Option (Fl × Gm × Om)) : Prop := match r with
  | none => False
  | some (.nx, Γ', Ω') => ∀ m' σ' H', Go K m Ω H m' Ω' H' → Slots K m' Ω' H' Γ' σ' → D.nx σ' H'
  | some (.bk, Γ', Ω') => ∀ m' σ' H', Go K m Ω H m' Ω' H' → Slots K m' Ω' H' Γ' σ' → D.bk σ' H'
  | some (.ct, Γ', Ω') => ∀ m' σ' H', Go K m Ω H m' Ω' H' → Slots K m' Ω' H' Γ' σ' → D.ct σ' H'
  | some (.rt d, _, Ω') => ∀ m' v H', Go K m Ω H m' Ω' H' → Rl K m' Ω' H' d v → D.rt v H'
  | some (.ex e, Γ', Ω') => ∀ m' σ' H' cls dd, Go K m Ω H m' Ω' H' → Slots K m' Ω' H' Γ' σ' → XRel K m' Ω' H' e cls dd → E σ' cls dd H'
def tS (K : PySem.W.Frag) (E : St → XK) (g : DenS) : TS := fun D σ H => ∃ m Γ Ω, SR K m Γ Ω σ H ∧ AfS K E D m Ω H (g Γ Ω)
abbrev DS (X : Cx) (E : St → XK) (st : Stmt) (g : DenS) : Prop := PS X st (tS X.K E g)
abbrev DSs (X : Cx) (E : St → XK) (st : List Stmt) (g : DenS) : Prop := PSs X st (tS X.K E g)
section
variable {K : PySem.W.Frag} {m m1 m' : Mp} {Ω Ω1 Ω' : Om} {H H1 H' : Hp} {Γ : Gm} {σ : St} {E : St → XK} {D D' : Ends}
theorem AfS.go (g : Go K m Ω H m1 Ω1 H1) : ∀ {r : Option (Fl × Gm × Om)}, AfS K E D m Ω H r → AfS K E D m1 Ω1 H1 r
  | none, h => h
  | some (.nx, Γ', Ω'), h => fun m' b H' g2 r => h m' b H' (g.trans g2) r
  | some (.bk, Γ', Ω'), h => fun m' b H' g2 r => h m' b H' (g.trans g2) r
  | some (.ct, Γ', Ω'), h => fun m' b H' g2 r => h m' b H' (g.trans g2) r
  | some (.rt d, Γ', Ω'), h => fun m' b H' g2 r => h m' b H' (g.trans g2) r
  | some (.ex e, Γ', Ω'), h => fun m' σ' H' c d g2 sl r => h m' σ' H' c d (g.trans g2) sl r
theorem Slots.set (s : Slots K m Ω H Γ σ) {i : Nat} {d : Dn.D} {v : V} (r : Rl K m Ω H d v) : Slots K m Ω H (Γ.set i (some d)) (σ.set i (some v)) := by
  refine ⟨by rw [List.length_set, List.length_set, s.1], fun j e h => ?_⟩
  by_cases hj : j = i
  · subst hj
    have hl : j < Γ.length := by
      have := (List.getElem?_eq_some_iff.mp h).1
      rwa [List.length_set] at this
    rw [List.getElem?_set_self hl] at h
    cases h
    exact ⟨v, by rw [List.getElem?_set_self (by rw [← s.1]; exact hl)], r⟩
  · rw [List.getElem?_set_ne (Ne.symm hj)] at h ⊢
    exact s.2 j e h
end
/-! ### blocks -/
def sSkip : DenS := fun Γ Ω => some (.nx, Γ, Ω)
def bS (r : Option (Fl × Gm × Om)) (k : DenS) : Option (Fl × Gm × Om) := match r with
  | none => none
  | some (.nx, Γ, Ω) => k Γ Ω
  | some x => some x
@[simp] theorem bS_none (k : DenS) : bS none k = none := rfl
@[simp] theorem bS_nx (Γ : Gm) (Ω : Om) (k : DenS) : bS (some (.nx, Γ, Ω)) k = k Γ Ω := rfl
@[simp] theorem bS_rt (d : D) (Γ : Gm) (Ω : Om) (k : DenS) : bS (some (.rt d, Γ, Ω)) k = some (.rt d, Γ, Ω) := rfl
@[simp] theorem bS_bk (Γ : Gm) (Ω : Om) (k : DenS) : bS (some (.bk, Γ, Ω)) k = some (.bk, Γ, Ω) := rfl
@[simp] theorem bS_ct (Γ : Gm) (Ω : Om) (k : DenS) : bS (some (.ct, Γ, Ω)) k = some (.ct, Γ, Ω) := rfl
@[simp] theorem bS_ex (e : Xn) (Γ : Gm) (Ω : Om) (k : DenS) : bS (some (.ex e, Γ, Ω)) k = some (.ex e, Γ, Ω) := rfl
def sSeq (g k : DenS) : DenS := fun Γ Ω => bS (g Γ Ω) k
/-- a value, then a statement's end -/
def eS (r : Option (Rs D × Om)) (Γ : Gm) (k : D → Om → Option (Fl × Gm × Om)) : Option (Fl × Gm × Om) := match r with
  | none => none
  | some (.ok d, Ω) => k d Ω
  | some (.ex e, Ω) => some (.ex e, Γ, Ω)
@[simp] theorem eS_none (Γ : Gm) (k : D → Om → Option (Fl × Gm × Om)) : eS none Γ k = none := rfl
@[simp] theorem eS_ok (d : D) (Ω : Om) (Γ : Gm) (k : D → Om → Option (Fl × Gm × Om)) : eS (some (.ok d, Ω)) Γ k = k d Ω := rfl
@[simp] theorem eS_ex (e : Xn) (Ω : Om) (Γ : Gm) (k : D → Om → Option (Fl × Gm × Om)) : eS (some (.ex e, Ω)) Γ k = some (.ex e, Γ, Ω) := rfl
def sSet (i : Nat) (f : Den D) : DenS := fun Γ Ω => eS (f Γ Ω) Γ fun d Ω1 => some (.nx, Γ.set i (some d), Ω1)
def sRet (f : Den D) : DenS := fun Γ Ω => eS (f Γ Ω) Γ fun d Ω1 => some (.rt d, Γ, Ω1)
def sExp (f : Den D) : DenS := fun Γ Ω => eS (f Γ Ω) Γ fun _ Ω1 => some (.nx, Γ, Ω1)
def sIf (c : Den Bool) (g k : DenS) : DenS := fun Γ Ω => match c Γ Ω with
  | none => none
  | some (.ok b, Ω1) => if b = true then g Γ Ω1 else k Γ Ω1
  | some (.ex e, Ω1) => some (.ex e, Γ, Ω1)
def sNever : DenS := fun _ _ => none
section
variable {X : Cx} {E : St → XK} {st : Stmt} {rest a b : List Stmt} {e c : Expr} {f : Den D} {g k : DenS} {p : Den Bool} {pos : Pos}
/-- from a value's end to a statement's -/
theorem AfS.val {K : PySem.W.Frag} {D : Ends} {m : Mp} {Ω : Om} {H : Hp} {Γ : Gm} {σ : St} {kk : Dn.D → Om → Option (Fl × Gm × Om)} (sl : Slots K m Ω H Γ σ) (c : CellsOk K m Ω H) : ∀ {r : Option (Rs Dn.D × Om)}, AfS K E D m Ω H (eS r Γ kk) →
    Af K (Rl K) (E σ) (fun v H1 => ∃ m1 Ω1 d, Go K m Ω H m1 Ω1 H1 ∧ Rl K m1 Ω1 H1 d v ∧ AfS K E D m1 Ω1 H1 (kk d Ω1)) m Ω H r
  | none, h => h
  | some (.ok d, Ω'), h => fun m' v H' g r => ⟨m', Ω', d, g, r, AfS.go g h⟩
  | some (.ex e, Ω'), h => fun m' H' cls dd g r => h m' σ H' cls dd g ((SR.mk c sl).go g).slots r
theorem ds_nil : DSs X E [] sSkip := PSs.mono pss_nil fun D σ H h => by
  obtain ⟨m, Γ, Ω, s, h⟩ := h
  exact h m σ H (Go.refl s.cells) s.slots
theorem ds_cons (h1 : DS X E st g) (h2 : DSs X E rest k) : DSs X E (st :: rest) (sSeq g k) := PSs.mono (pss_cons h1 h2) fun D σ H h => by
  obtain ⟨m, Γ, Ω, s, h⟩ := h
  refine ⟨m, Γ, Ω, s, ?_⟩
  show AfS X.K E { D with nx := tS X.K E k D } m Ω H (g Γ Ω)
  unfold sSeq at h
  cases e : g Γ Ω with
  | none => rw [e] at h; exact h
  | some x =>
    obtain ⟨fl, Γ', Ω'⟩ := x
    rw [e] at h
    cases fl with
    | nx => exact fun m' σ' H' g2 sl => ⟨m', Γ', Ω', ⟨g2.ok, sl⟩, AfS.go g2 h⟩
    | _ => exact h
theorem ds_one (h1 : DS X E st g) : DSs X E [st] g := PSs.mono (pss_cons h1 (ds_nil (E := E))) fun D σ H h => by
  obtain ⟨m, Γ, Ω, s, h⟩ := h
  refine ⟨m, Γ, Ω, s, ?_⟩
  show AfS X.K E { D with nx := tS X.K E sSkip D } m Ω H (g Γ Ω)
  cases e : g Γ Ω with
  | none => rw [e] at h; exact h
  | some x =>
    obtain ⟨fl, Γ', Ω'⟩ := x
    rw [e] at h
    cases fl with
    | nx => exact fun m' σ' H' g2 sl => ⟨m', Γ', Ω', ⟨g2.ok, sl⟩, fun m2 σ2 H2 g3 sl3 => h m2 σ2 H2 (g2.trans g3) sl3⟩
    | _ => exact h
theorem ds_set (i : Nat) {x : Str} {pos' : Pos} (hN : X.N.Nodup) (he : DE X E e f) (hi : X.N[i]? = some x := by rfl) (hx : Loc X.env.scope x := by first | exact Or.inl rfl | exact Or.inr rfl) (hs : swapsWith e (some (.Name x pos')) pos.line X.env = pure false := by rfl) (hf : X.fn x = true ∨ X.env.scope.names.lookup x = some .local := by first | exact .inl rfl | exact .inr rfl | assumption) :
    DS X E (.Assign [.Name x pos'] e pos) (sSet i f) := PS.mono (ps_set (i := i) hN hi hx he hs hf) fun D σ H h => by
  obtain ⟨m, Γ, Ω, s, h⟩ := h
  refine ⟨m, Γ, Ω, s, (AfS.val s.slots s.cells h).imp fun _ _ _ _ _ _ _ _ ⟨m1, Ω1, d, g1, r1, q⟩ => ?_⟩
  exact q m1 _ _ (Go.refl g1.ok) ((s.go g1).slots.set r1)
theorem ds_ret (he : DE X E e f) : DS X E (.Return (some e) pos) (sRet f) := PS.mono (ps_ret he) fun D σ H h => by
  obtain ⟨m, Γ, Ω, s, h⟩ := h
  refine ⟨m, Γ, Ω, s, (AfS.val s.slots s.cells h).imp fun _ _ _ _ _ _ _ _ ⟨m1, Ω1, d, g1, r1, q⟩ => ?_⟩
  exact q m1 _ _ (Go.refl g1.ok) r1
theorem ds_exp (he : DE X E e f) (hs : swapsWith e none pos.line X.env = pure false := by rfl) : DS X E (.Expr e pos) (sExp f) := PS.mono (ps_expr he hs) fun D σ H h => by
  obtain ⟨m, Γ, Ω, s, h⟩ := h
  refine ⟨m, Γ, Ω, s, (AfS.val s.slots s.cells h).imp fun _ _ _ _ _ _ _ _ ⟨m1, Ω1, d, g1, r1, q⟩ => ?_⟩
  exact q m1 _ _ (Go.refl g1.ok) (s.go g1).slots
theorem ds_if (hc : DT X E c p) (h1 : DSs X E a g) (h2 : DSs X E b k) : DS X E (.If c a b pos) (sIf p g k) := PS.mono (ps_if hc h1 h2) fun D σ H h => by
  obtain ⟨m, Γ, Ω, s, h⟩ := h
  refine ⟨m, Γ, Ω, s, ?_⟩
  unfold sIf at h
  cases e : p Γ Ω with
  | none => rw [e] at h; exact h
  | some x =>
    obtain ⟨r, Ω'⟩ := x
    rw [e] at h
    cases r with
    | ok b =>
      intro m' b' H' g2 eb
      subst eb
      cases b with
      | true => exact ⟨m', Γ, Ω', s.go g2, AfS.go g2 h⟩
      | false => exact ⟨m', Γ, Ω', s.go g2, AfS.go g2 h⟩
    | ex e => exact fun m' H' cls dd g2 r => h m' σ H' cls dd g2 (s.go g2).slots r
theorem ds_never : DS X E st sNever := PS.mono ps_never fun D σ H h => by
  obtain ⟨m, Γ, Ω, s, h⟩ := h
  exact h
theorem ds_pass : DS X E (.Pass pos) sSkip := PS.mono ps_pass fun D σ H h => by
  obtain ⟨m, Γ, Ω, s, h⟩ := h
  exact h m σ H (Go.refl s.cells) s.slots
def sBreak : DenS := fun Γ Ω => some (.bk, Γ, Ω)
def sCont : DenS := fun Γ Ω => some (.ct, Γ, Ω)
theorem ds_break : DS X E (.Break pos) sBreak := PS.mono ps_break fun D σ H h => by
  obtain ⟨m, Γ, Ω, s, h⟩ := h
  exact h m σ H (Go.refl s.cells) s.slots
theorem ds_cont : DS X E (.Continue pos) sCont := PS.mono ps_continue fun D σ H h => by
  obtain ⟨m, Γ, Ω, s, h⟩ := h
  exact h m σ H (Go.refl s.cells) s.slots
end

/-! ### targets -/
abbrev DenG := D → Gm → Option Gm
def gN (i : Nat) : DenG := fun d Γ => some (Γ.set i (some d))
def gNil : List D → Gm → Option Gm := fun ds Γ => match ds with
  | [] => some Γ
  | _ => none
def gCons (t : DenG) (u : List D → Gm → Option Gm) : List D → Gm → Option Gm := fun ds Γ => match ds with
  | d :: r => match t d Γ with
    | some Γ1 => u r Γ1
    | none => none
  | [] => none
def gT (n : Nat) (u : List D → Gm → Option Gm) : DenG := fun d Γ => match d with
  | .tup ds => if ds.length = n then u ds Γ else none
  | _ => none
def tTg (K : PySem.W.Frag) (t : DenG) : TG := fun v σ H Q => ∃ m Γ Ω d Γ', SR K m Γ Ω σ H ∧ Rl K m Ω H d v ∧ t d Γ = some Γ' ∧ ∀ σ', Slots K m Ω H Γ' σ' → Q σ' H
def tTgs (K : PySem.W.Frag) (t : List D → Gm → Option Gm) : TGs := fun vs σ H Q => ∃ m Γ Ω ds Γ', SR K m Γ Ω σ H ∧ RlL K m Ω H ds vs ∧ t ds Γ = some Γ' ∧ ∀ σ', Slots K m Ω H Γ' σ' → Q σ' H
abbrev DG (X : Cx) (tg : Expr) (t : DenG) : Prop := PG X tg (tTg X.K t)
abbrev DGs (X : Cx) (tg : List Expr) (t : List D → Gm → Option Gm) : Prop := PGs X tg (tTgs X.K t)
theorem PG.mono {X : Cx} {e : Expr} {t t' : TG} (h : PG X e t) (i : ∀ v σ H Q, t' v σ H Q → t v σ H Q) : PG X e t' := ⟨fun pins s σ H v u Q I r q => h.run pins s σ H v u Q I r (i v σ H Q q)⟩
theorem PGs.mono {X : Cx} {e : List Expr} {t t' : TGs} (h : PGs X e t) (i : ∀ v σ H Q, t' v σ H Q → t v σ H Q) : PGs X e t' := ⟨fun pins s σ H v u Q I r q => h.run pins s σ H v u Q I r (i v σ H Q q)⟩
section
variable {X : Cx} {E : St → XK} {e : Expr} {es : List Expr} {pos : Pos} {t : DenG} {u : List D → Gm → Option Gm}
theorem dg_n (i : Nat) {x : Str} (hN : X.N.Nodup) (hi : X.N[i]? = some x := by rfl) (hx : Loc X.env.scope x := by first | exact Or.inl rfl | exact Or.inr rfl) (hf : X.fn x = true ∨ X.env.scope.names.lookup x = some .local := by first | exact .inl rfl | exact .inr rfl | assumption) : DG X (.Name x pos) (gN i) := PG.mono (pg_name (i := i) hN hi hx hf) fun v σ H Q h => by
  obtain ⟨m, Γ, Ω, d, Γ', s, r, e, q⟩ := h
  cases e
  exact q _ (s.slots.set r)
theorem dgs_nil : DGs X [] gNil := PGs.mono pgs_nil fun v σ H Q h => by
  obtain ⟨m, Γ, Ω, ds, Γ', s, r, e, q⟩ := h
  cases ds with
  | nil =>
    unfold RlL at r
    cases e
    exact ⟨r, q _ s.slots⟩
  | cons d ds => cases e
theorem dgs_cons (h1 : DG X e t) (h2 : DGs X es u) (hs : (assignEach (e :: es) X.env).map (·.2) = assign e X.env :: (assignEach es X.env).map (·.2) := by rfl) : DGs X (e :: es) (gCons t u) := PGs.mono (pgs_cons h1 h2 hs) fun v σ H Q h => by
  obtain ⟨m, Γ, Ω, ds, Γ', s, r, e, q⟩ := h
  cases ds with
  | nil => cases e
  | cons d ds =>
    unfold RlL at r
    obtain ⟨w, ws, ev, r1, r2⟩ := r
    unfold gCons at e
    dsimp only at e
    cases e1 : t d Γ with
    | none => rw [e1] at e; cases e
    | some Γ1 =>
      rw [e1] at e
      exact ⟨w, ws, ev, m, Γ, Ω, d, Γ1, s, r1, e1, fun σ' sl => ⟨m, Γ1, Ω, ds, Γ', ⟨s.cells, sl⟩, r2, e, q⟩⟩
theorem dg_t {n : Nat} {k : Nat} (hc : X.calm = true) (h : DGs X es u) (hn : (assignEach es X.env).length = n := by rfl) (hst : (assignEach es X.env).findIdx? (·.1) = none := by rfl) : DG X (.Tuple es k pos) (gT n u) := PG.mono (pg_tup hc h hn hst) fun v σ H Q h => by
  obtain ⟨m, Γ, Ω, d, Γ', s, r, e, q⟩ := h
  cases d with
  | tup ds =>
    unfold Rl at r
    obtain ⟨a, vs, ev, h1, h2⟩ := r
    unfold gT at e
    dsimp only at e
    by_cases hl : ds.length = n
    · rw [if_pos hl] at e
      exact ⟨a, vs, ev, h1.sq, by rw [← h2.length]; exact hl, m, Γ, Ω, ds, Γ', s, h2, e, q⟩
    · rw [if_neg hl] at e; cases e
  | _ => cases e
/-- target = value -/
def sAsg (f : Den D) (t : DenG) : DenS := fun Γ Ω => eS (f Γ Ω) Γ fun d Ω1 => match t d Γ with
  | some Γ1 => some (.nx, Γ1, Ω1)
  | none => none
theorem ds_asg {tg : Expr} {f : Den D} (he : DE X E e f) (hg : DG X tg t) (hs : swapsWithSole [tg] e pos.line X.env = pure false := by rfl) (hw : swappedStores [tg] e X.env = pure none := by rfl)
    (h1 : (assignEach [tg] X.env).map (·.2) = [assign tg X.env] := by rfl) : DS X E (.Assign [tg] e pos) (sAsg f t) := PS.mono (ps_asg he hg hs hw h1) fun D σ H h => by
  obtain ⟨m, Γ, Ω, s, h⟩ := h
  refine ⟨m, Γ, Ω, s, (AfS.val s.slots s.cells h).imp fun _ _ _ _ _ _ _ _ ⟨m1, Ω1, d, g1, r1, q⟩ => ?_⟩
  cases e1 : t d Γ with
  | none => rw [e1] at q; exact q.elim
  | some Γ1 =>
    rw [e1] at q
    exact ⟨m1, Γ, Ω1, d, Γ1, s.go g1, r1, e1, fun σ' sl => q m1 σ' _ (Go.refl g1.ok) sl⟩
/-- a, b = x, y; a, b, c = x, y, z by plain local names -/
def sPar (is : List Nat) (r : Den (List D)) : DenS := fun Γ Ω => match r Γ Ω with
  | none => none
  | some (.ok ds, Ω1) => match is, ds with
    | [i, j], [x, y] => some (.nx, (Γ.set i (some x)).set j (some y), Ω1)
    | [i, j, l], [x, y, z] => some (.nx, ((Γ.set i (some x)).set j (some y)).set l (some z), Ω1)
    | _, _ => none
  | some (.ex e, Ω1) => some (.ex e, Γ, Ω1)
theorem ds_par2 (i j : Nat) {x y : Str} {a b : Expr} {r : Den (List D)} {px py pt : Pos} {kt k2 pt2} (hc : X.calm = true) (hN : X.N.Nodup) (ha : DA X E [a, b] r) (hi : X.N[i]? = some x := by rfl) (hj : X.N[j]? = some y := by rfl) (hij : i ≠ j := by decide)
    (hx : X.env.scope.names.lookup x = some .local := by rfl) (hy : X.env.scope.names.lookup y = some .local := by rfl)
    (hw : swappedStores [.Tuple [.Name x px, .Name y py] kt pt] (.Tuple [a, b] k2 pt2) X.env = pure (some [x, y]) := by rfl)
    (hs : swapsWithSole [.Tuple [.Name x px, .Name y py] kt pt] (.Tuple [a, b] k2 pt2) pos.line X.env = pure false := by rfl) :
    DS X E (.Assign [.Tuple [.Name x px, .Name y py] kt pt] (.Tuple [a, b] k2 pt2) pos) (sPar [i, j] r) := PS.mono (ps_par hc hN hi hj hij hx hy ha hw hs) fun D σ H h => by
  obtain ⟨m, Γ, Ω, s, h⟩ := h
  refine ⟨m, Γ, Ω, s, ?_⟩
  unfold sPar at h
  cases e : r Γ Ω with
  | none => rw [e] at h; exact h
  | some z =>
    obtain ⟨q, Ω'⟩ := z
    rw [e] at h
    cases q with
    | ok ds =>
      intro m' vs H' g2 rr
      match ds, h, rr with
      | [d1, d2], h, rr =>
        unfold RlL at rr
        obtain ⟨v1, w1, e1, r1, q1⟩ := rr
        unfold RlL at q1
        obtain ⟨v2, w2, e2, r2, q2⟩ := q1
        unfold RlL at q2
        subst q2 e2 e1
        exact ⟨v1, v2, rfl, h m' _ _ g2 (((s.go g2).slots.set r1).set r2)⟩
      | [], h, rr => exact h.elim
      | [_], h, rr => exact h.elim
      | _ :: _ :: _ :: _, h, rr => exact h.elim
    | ex e => exact fun m' H' cls dd g2 r => h m' σ H' cls dd g2 (s.go g2).slots r
theorem ds_par3 (i j l : Nat) {x y z : Str} {a b c : Expr} {r : Den (List D)} {px py pz pt : Pos} {kt k2 pt2} (hc : X.calm = true) (hN : X.N.Nodup) (ha : DA X E [a, b, c] r) (hi : X.N[i]? = some x := by rfl) (hj : X.N[j]? = some y := by rfl) (hl : X.N[l]? = some z := by rfl) (hij : i ≠ j := by decide) (hil : i ≠ l := by decide) (hjl : j ≠ l := by decide)
    (hx : X.env.scope.names.lookup x = some .local := by rfl) (hy : X.env.scope.names.lookup y = some .local := by rfl) (hz : X.env.scope.names.lookup z = some .local := by rfl)
    (hw : swappedStores [.Tuple [.Name x px, .Name y py, .Name z pz] kt pt] (.Tuple [a, b, c] k2 pt2) X.env = pure (some [x, y, z]) := by rfl)
    (hs : swapsWithSole [.Tuple [.Name x px, .Name y py, .Name z pz] kt pt] (.Tuple [a, b, c] k2 pt2) pos.line X.env = pure false := by rfl) :
    DS X E (.Assign [.Tuple [.Name x px, .Name y py, .Name z pz] kt pt] (.Tuple [a, b, c] k2 pt2) pos) (sPar [i, j, l] r) := PS.mono (ps_par3 hc hN hi hj hl hij hil hjl hx hy hz ha hw hs) fun D σ H h => by
  obtain ⟨m, Γ, Ω, s, h⟩ := h
  refine ⟨m, Γ, Ω, s, ?_⟩
  unfold sPar at h
  cases e : r Γ Ω with
  | none => rw [e] at h; exact h
  | some z =>
    obtain ⟨q, Ω'⟩ := z
    rw [e] at h
    cases q with
    | ok ds =>
      intro m' vs H' g2 rr
      match ds, h, rr with
      | [d1, d2, d3], h, rr =>
        unfold RlL at rr
        obtain ⟨v1, w1, e1, r1, q1⟩ := rr
        unfold RlL at q1
        obtain ⟨v2, w2, e2, r2, q2⟩ := q1
        unfold RlL at q2
        obtain ⟨v3, w3, e3, r3, q3⟩ := q2
        unfold RlL at q3
        subst q3 e3 e2 e1
        exact ⟨v1, v2, v3, rfl, h m' _ _ g2 ((((s.go g2).slots.set r1).set r2).set r3)⟩
      | [], h, rr => exact h.elim
      | [_], h, rr => exact h.elim
      | [_, _], h, rr => exact h.elim
      | _ :: _ :: _ :: _ :: _, h, rr => exact h.elim
    | ex e => exact fun m' H' cls dd g2 r => h m' σ H' cls dd g2 (s.go g2).slots r
end

/-! ### walks -/
/-- J gives the items, one by one -/
def Yields (K : PySem.W.Frag) (m : Mp) (Ω : Om) (H : Hp) (ds : List D) (J : It) : Prop := ∀ (i : Nat) (m' : Mp) (Ω' : Om) (H' : Hp), Gw K m Ω H m' Ω' H' → CellsOk K m' Ω' H' →
  (∀ d, ds[i]? = some d → J.go i H' ∧ ∀ x H'', J.yld i H' x H'' → Go K m' Ω' H' m' Ω' H'' ∧ Rl K m' Ω' H'' d x) ∧ (ds.length ≤ i → J.stop i H')
def tIt (K : PySem.W.Frag) (E : St → XK) (f : Den (List D)) : TI := fun σ H R => tG K (fun m Ω H ds J => Yields K m Ω H ds J) E f σ H fun J H' => R J H'
abbrev DI (X : Cx) (E : St → XK) (tg iter : Expr) (f : Den (List D)) : Prop := PI X tg iter (tIt X.K E f)
def loopS (t : DenG) (b : DenS) : List D → Gm → Om → Option (Fl × Gm × Om)
  | [], Γ, Ω => some (.nx, Γ, Ω)
  | d :: r, Γ, Ω => match t d Γ with
    | none => none
    | some Γ1 => match b Γ1 Ω with
      | none => none
      | some (.nx, Γ2, Ω2) => loopS t b r Γ2 Ω2
      | some (.ct, Γ2, Ω2) => loopS t b r Γ2 Ω2
      | some (.bk, Γ2, Ω2) => some (.nx, Γ2, Ω2)
      | some x => some x
def sFor (f : Den (List D)) (t : DenG) (b : DenS) : DenS := fun Γ Ω => match f Γ Ω with
  | none => none
  | some (.ok ds, Ω1) => loopS t b ds Γ Ω1
  | some (.ex e, Ω1) => some (.ex e, Γ, Ω1)
section
variable {X : Cx} {E : St → XK} {tg iter : Expr} {body : List Stmt} {pos : Pos} {t : DenG} {f : Den (List D)} {b : DenS}
theorem ds_for (hp : PassesOwn (model X.prog X.w) X.A X.env X.xe) (hc : X.calm = true) (hi : DI X E tg iter f) (hg : DG X tg t) (hb : DSs X E body b)
    (hs : ∀ x, foldedSetIterable iter X.env x = pure x := by intro _; rfl) : DS X E (.For tg iter body [] pos) (sFor f t b) := PS.mono (ps_for hp hc hi hg hb hs) fun D σ H h => by
  obtain ⟨m, Γ, Ω, s, h⟩ := h
  refine ⟨m, Γ, Ω, s, ?_⟩
  unfold sFor at h
  cases e : f Γ Ω with
  | none => rw [e] at h; exact h
  | some z =>
    obtain ⟨q, Ω0⟩ := z
    rw [e] at h
    cases q with
    | ex e => exact fun m' H' cls dd g2 r => h m' σ H' cls dd g2 (s.go g2).slots r
    | ok ds =>
      intro m0 J H0 g0 Y
      have h : AfS X.K E D m Ω H (loopS t b ds Γ Ω0) := h
      refine ⟨fun i k σ' H' => k = ds.length - i ∧ i ≤ ds.length ∧ ∃ m' Γ' Ω', Go X.K m0 Ω0 H0 m' Ω' H' ∧ SR X.K m' Γ' Ω' σ' H' ∧ AfS X.K E D m' Ω' H' (loopS t b (ds.drop i) Γ' Ω'), ⟨ds.length, rfl, Nat.zero_le _, m0, Γ, Ω0, Go.refl g0.ok, s.go g0, AfS.go g0 h⟩, ?_⟩
      rintro i k σ' H' ⟨rfl, hi, m', Γ', Ω', g', s', a'⟩
      by_cases hlt : i < ds.length
      · right
        have e1 : ds[i]? = some ds[i] := List.getElem?_eq_getElem hlt
        obtain ⟨y1, _⟩ := Y i m' Ω' H' g'.toGw g'.ok
        obtain ⟨go1, yl⟩ := y1 _ e1
        rw [List.drop_eq_getElem_cons hlt] at a'
        refine ⟨go1, fun σ2 H2 => ∃ m2 Γ2 Ω2, Go X.K m0 Ω0 H0 m2 Ω2 H2 ∧ SR X.K m2 Γ2 Ω2 σ2 H2 ∧ AfS X.K E D m2 Ω2 H2 (loopS t b (ds.drop (i + 1)) Γ2 Ω2), fun σ2 H2 ⟨m2, Γ2, Ω2, z1, z2, z3⟩ => ⟨ds.length - (i + 1), by omega, rfl, hlt, m2, Γ2, Ω2, z1, z2, z3⟩, fun x H2 y2 => ?_⟩
        obtain ⟨g2, r2⟩ := yl x H2 y2
        have a2 : AfS X.K E D m' Ω' H2 (loopS t b (ds[i] :: ds.drop (i + 1)) Γ' Ω') := AfS.go g2 a'
        unfold loopS at a2
        cases e2 : t ds[i] Γ' with
        | none => rw [e2] at a2; exact a2.elim
        | some Γ1 =>
          rw [e2] at a2
          refine ⟨m', Γ', Ω', ds[i], Γ1, s'.go g2, r2, e2, fun σ3 sl3 => ⟨m', Γ1, Ω', ⟨g2.ok, sl3⟩, ?_⟩⟩
          dsimp only at a2
          cases e3 : b Γ1 Ω' with
          | none => rw [e3] at a2; exact a2.elim
          | some z =>
            obtain ⟨fl, Γ2, Ω2⟩ := z
            rw [e3] at a2
            cases fl with
            | nx => exact fun m3 σ4 H3 g3 sl4 => ⟨m3, Γ2, Ω2, (g'.trans g2).trans g3, ⟨g3.ok, sl4⟩, AfS.go g3 a2⟩
            | ct => exact fun m3 σ4 H3 g3 sl4 => ⟨m3, Γ2, Ω2, (g'.trans g2).trans g3, ⟨g3.ok, sl4⟩, AfS.go g3 a2⟩
            | bk => exact a2
            | rt d => exact a2
            | ex e => exact a2
      · left
        have ei : i = ds.length := by omega
        obtain ⟨_, y2⟩ := Y i m' Ω' H' g'.toGw g'.ok
        refine ⟨y2 (by omega), ?_⟩
        rw [List.drop_of_length_le (by omega)] at a'
        exact a' m' σ' H' (Go.refl s'.cells) s'.slots
end
end Dn


set_option Elab.async false
set_option linter.all false
set_option maxRecDepth 100000
/-! DnGuard: room without a repr under way; a def's promise under it. (The layer's FnOk knows nothing of what is shown at the time.) -/
namespace Dn
open PySem PySem.Spec PyProof.Rows L2
structure RoomG (k : Nat) (A : Around) : Prop extends Room k A where
  gd : A.guards = some []
theorem RoomG.mono {j k : Nat} {A : Around} (r : RoomG k A) (h : j ≤ k) : RoomG j A := ⟨r.toRoom.mono h, r.gd⟩
theorem RoomG.deeper {k : Nat} {A : Around} (r : RoomG (k + 1) A) (env : Env) : RoomG k (A.deeper env) := ⟨r.toRoom.deeper env, r.gd⟩
theorem RoomG.make {k : Nat} {A : Around} (r : RoomG (k + 1) A) (C : Addr) (us : List Value) (kw : List (Str × Value)) : RoomG k (A.under (.builtin "type.__call__" ⟨.ref C :: us, kw⟩)) :=
  ⟨r.toRoom.make C us kw, by
    have g := r.gd
    have no : ¬ ("type.__call__" ∈ guardIds) := by decide
    simp [Around.under, Code.guards, Code.isGuard, pushGuards, g, no]⟩
structure FnOkG (P : Program) (w : World) (K : PySem.W.Frag) (mg : Str → Option Value) (base : Heap) (T : CXT) (k : Nat) (f : Addr) (fd : FuncData) (ps : List Str) (sp : Sp) : Prop where
  len : ∀ vs H Q E, sp vs H Q E → vs.length = ps.length
  run : ∀ (A : Around) (out : List Env) (s : Shared) (H : Hp) (ar : Args) (us : List Value) (vs : List V) (Q : VK) (E : XK), RoomG k A → Env0 P w K mg base A out s H → BindsTo s fd ar (ps.zip us) → Vals vs us →
    sp vs H Q E → codeAny (model P w) A (.call (.ref f) ar) (CR T out P w H s Q E) s
section
variable {P : Program} {w : World} {K : PySem.W.Frag} {mg : Str → Option Value} {base : Heap} {T : CXT} {k : Nat} {f : Addr} {fd : FuncData} {ps : List Str} {sp sp' : Sp}
theorem FnOkG.imp (F : FnOkG P w K mg base T k f fd ps sp) (i : ∀ vs H Q E, sp' vs H Q E → sp vs H Q E) : FnOkG P w K mg base T k f fd ps sp' where
  len := fun vs H Q E z => F.len vs H Q E (i _ _ _ _ z)
  run := fun A out s H ar us vs Q E r0 r1 r2 r3 z => F.run A out s H ar us vs Q E r0 r1 r2 r3 (i _ _ _ _ z)
/-- a def by its body -/
theorem fn_ofG {x qual : Str} {params : Arguments} {body : List Stmt} {scope : Scope} {N : List Str} (G : FunD K x qual params body scope [] [] f fd) (S : FnScope N ps scope)
    (hlen : ∀ vs H Q E, sp vs H Q E → vs.length = ps.length)
    (hbody : ∀ (cdv : Value) (A : Around) (out : List Env) (s : Shared) (H : Hp) (vs : List V) (Q : VK) (E : XK), RoomG k (A.deeper (envOfC qual scope s.heap.objs.size f cdv)) → sp vs H Q E →
      ∃ t, PSs (cxOf T P w K mg base N qual scope f cdv A out s H E) body t ∧ t { nx := fun _ Hz => Q .non Hz, rt := Q } (L2.start N vs) H) :
    FnOkG P w K mg base T (k + 1) f fd ps sp := by
  obtain ⟨oc, od, dV, kV, doc, pm, an, cdv, ct, osl, rfl, lk, hcd, _, _⟩ := G.ex
  refine ⟨hlen, fun A out s H ar us vs Q E room env bnd vals z => ?_⟩
  have nps := hlen _ _ _ _ z
  have kin : K.In s.heap := env.mod.kin.keeps fun b o q => (env.bs b o q).1
  have nolim : s.heap.NoLimit := env.mod.nolimit.keeps fun b o q => (env.bs b o q).1
  have kinds : ∀ y ∈ ps.zip us, scope.names.lookup y.1 = some .local ∨
      (scope.names.lookup y.1 = some .cell ∧ ((cellsFrom (s.heap.objs.size + 1) scope.names []).lookup y.1).isSome = true) := fun y hy =>
    (S.par y.1 (List.of_mem_zip (a := y.1) (b := y.2) hy).1).imp (fun z => z) fun z => ⟨z, PySem.W.cellsFrom_some _ _ _ (.inl z)⟩
  refine codeAny_call_function room.depth (kin _ _ lk) rfl S.co S.gen rfl (PySem.W.codeRec_of kin hcd)
    (bnd _ _ _ _ (wpAny_newFunctionEnv_cells S.kind kinds fun ev hev s1 ic => ?_))
  subst hev
  obtain ⟨t, ht, hz⟩ := hbody cdv A out s H vs Q E (room.deeper _) z
  have inv : Inv (cxOf T P w K mg base N qual scope f cdv A out s H E) [] (L2.start N vs) H s1 :=
    inv_start S room.hd env nps vals ic
  refine ⟨nolim.keeps ic.toInCall.keep, codeAny_func (wpAny_mono (ht.run [] s1 _ H _ inv hz) (fun fl s' q => ?_) fun _ _ q => q)⟩
  match fl, q with
  | .ret u, ⟨v, σ', H', J, rv, q⟩ => exact ⟨v, H', J.os, J.bare, J.base, J.hok, rv, q⟩
  | .next, ⟨σ', H', J, q⟩ => exact ⟨V.non, H', J.os, J.bare, J.base, J.hok, rfl, q⟩
  | .brk, ⟨_, _, _, q⟩ => exact q.elim
  | .cont, ⟨_, _, _, q⟩ => exact q.elim
end
section
variable {X : Cx} {T : CXT} {k : Nat} {f : Addr} {fd : FuncData} {ps : List Str} {sp : Sp} {E : L2.St → XK}
/-- the callee runs -/
theorem run_fnG {pins : List (Addr × Obj)} {σ : L2.St} {H : Hp} {s : Shared} {Q : VK} {us : List Value} {vs : List V} (F : FnOkG X.prog X.w X.K X.mg X.base T k f fd ps sp) (hr : RoomG k X.A) (hb : Binds X.K fd ps [])
    (hx : PassesAt T X σ (E σ)) (I : Inv X pins σ H s) (r : Vals vs us) (h : sp vs H Q (E σ)) : wpAny (model X.prog X.w) X.A (call (.ref f) us) (EP X pins σ Q) X.xe s := by
  have n1 := F.len _ _ _ _ h
  have n2 := r.length
  have b := hb s us I.kIn (by rw [List.append_nil]; omega)
  rw [List.append_nil] at b
  refine wpAny_call (codeAny_mono (F.run X.A X.stack s H ⟨us, []⟩ us vs Q (E σ) hr I.env0 b r h) fun out s' q => ?_)
  match out, q with
  | .error e, q => exact hx pins H s e s' I q
  | .ok (.ret u), q => exact I.after q
  | .ok .next, q => exact q.elim
  | .ok .brk, q => exact q.elim
  | .ok .cont, q => exact q.elim
theorem pe_callG {x : Str} {e : Expr} {es : List Expr} {t : TA} {p pos : Pos} (F : FnOkG X.prog X.w X.K X.mg X.base T k f fd ps sp) (hr : RoomG k X.A) (hg : Gl X x) (hm : X.mg x = some (.ref f)) (hk : PySem.W.keepIn X.K (.ref f) = true) (hb : Binds X.K fd ps [])
    (hx : ∀ σ, PassesAt T X σ (E σ)) (ha : PA X (e :: es) t) (hdb : (x == ("__debug__" : Str)) = false) (he : starEach (e :: es) X.env = (false, eval e X.env) :: starEach es X.env) (hpl : (backTo pos (starEach es X.env)).any (·.1) = false) :
    PE X (.Call (.Name x p) (e :: es) [] pos) (fun σ H Q => t σ H fun vs H1 => sp vs H1 Q (E σ)) := ⟨fun pins s σ H Q I h =>
  wpAny_Call_Name_kw (ld_glob I hg hm (PySem.W.callWith_K (h₀ := X.base) I.ok.mod.kin hk
    (thn (ha.run pos pins s σ H _ I h) fun us s1 ⟨vs, H1, I1, r, q⟩ => ⟨I1.kIn, run_fnG (E := E) F hr hb (hx σ) I1 r q⟩) he hpl) hdb)⟩
end
/-! ### the law's call -/
theorem law_callG {P : Program} {w : World} {K : PySem.W.Frag} {mg mb : Str → Option Value} {T : CXT} {k : Nat} {fa a : Addr} {fd : FuncData} {x : Str} {sp : Sp} {s1 : Shared} {vs : List Value} {ns : List Int}
    (kin : K.In s1.heap) (gl : s1.heap.Ns mainGlobals mg) (bl : s1.heap.Ns builtinsNs mb) (bb : ∀ y : Str, y ≠ "__name__" → mb y = bootBuiltins y) (lim : s1.heap.NoLimit) (gens : s1.gens = #[])
    (at_ : s1.heap.get? a = some { cls := .type "list", data := .seq vs.toArray }) (intA : IntsAre vs ns) (few : ns.length ≤ sizeLine) (room : RoomG k callerA)
    (F : ∀ base : Heap, K.In base → base.Ns mainGlobals mg → FnOkG P w K mg base T k fa fd [x] sp) (bnd : ∀ (s : Shared) (u : Value), BindsTo s fd ⟨[u], []⟩ [(x, u)])
    (goal : ∀ H : Hp, Only H → SqL K H a (ns.map V.int) → sp [.ref a] H (fun v _ => v = .bl true) fun _ _ _ => False)
    (none_ : ∀ H e s', T [] H s1 (fun _ _ _ => False) e s' → False) :
    codeAny (model P w) callerA (.call (.ref fa) ⟨[.ref a], []⟩) (fun r s' => r = .ok (.ret (.bool true)) ∧ OldK s1.heap s'.heap ∧ s'.os = s1.os ∧ AllBare s'.gens) s1 := by
  have vals := vals_ints intA
  have cnt := intA.length
  suffices main : ∀ H : Hp, Only H → SqL K H a (ns.map V.int) → HOk P w H s1.heap → (∀ b, H b ≠ none → b = a) → (H a ≠ none → K.lookup a = none) →
      codeAny (model P w) callerA (.call (.ref fa) ⟨[.ref a], []⟩) (fun r s' => r = .ok (.ret (.bool true)) ∧ OldK s1.heap s'.heap ∧ s'.os = s1.os ∧ AllBare s'.gens) s1 by
    cases lk : K.lookup a with
    | some o =>
      have q := kin a o lk
      rw [at_] at q
      cases q
      exact main (fun _ => none) (fun _ => .inl rfl) (.inr ⟨_, vs.toArray, _, lk, rfl, rfl, rfl, by rw [List.size_toArray, cnt]; exact few, by simpa using vals⟩)
        (fun b u z => by cases (show (none : Option HO) = some u from z)) (fun b z => (z rfl).elim) fun z => (z rfl).elim
    | none =>
      let ob : Obj := { cls := .type "list", data := .seq vs.toArray }
      have yes : ∀ b, b = a → (if b = a then some (HO.frz ob (.lst (ns.map V.int))) else none) = some (HO.frz ob (.lst (ns.map V.int))) := fun b e => if_pos e
      have no : ∀ b, b ≠ a → (if b = a then some (HO.frz ob (.lst (ns.map V.int))) else none) = none := fun b e => if_neg e
      refine main (fun b => if b = a then some (HO.frz ob (.lst (ns.map V.int))) else none) (fun b => ?_) (.inl (.inr ⟨ob, yes a rfl⟩)) (fun b u z => ?_) (fun b z => ?_) fun _ => lk
      · exact (Classical.em (b = a)).elim (fun e => .inr ⟨_, _, yes b e⟩) fun e => .inl (no b e)
      · rcases Classical.em (b = a) with e | e
        · have q := (yes b e).symm.trans z
          cases q
          subst e
          exact ⟨at_, by rw [List.length_map]; exact few, vs, _, vals, at_⟩
        · cases (no b e).symm.trans z
      · exact Classical.byContradiction fun e => z (no b e)
  intro H only sq hok onlyA outK
  have see : ∀ {b : Addr} {o : Obj}, s1.heap.get? b = some o → H b = none → (hidT s1.heap H).get? b = some o := fun q n => hidT_get q n
  have isA : ∀ {b : Addr} {u : HO}, H b = some u → b = a := fun {b u} q => onlyA b (by rw [q]; simp)
  have dictNo : ∀ {b : Addr} {o : Obj} {es : Array DictEntry} {ep : Nat}, s1.heap.get? b = some o → o.data = .dict es ep → H b = none := fun {b o es ep} q d => by
    cases hb : H b with
    | none => rfl
    | some u =>
      have e := isA hb
      subst e
      rw [at_] at q
      cases q
      cases (show Data.seq vs.toArray _ = Data.dict es ep from d)
  have nsOf : ∀ {b : Addr} {m : Str → Option Value}, s1.heap.Ns b m → (hidT s1.heap H).Ns b m := fun ⟨o, es, ep, q, d, r⟩ => ⟨o, es, ep, see q (dictNo q d), d, r⟩
  have kinB : K.In (hidT s1.heap H) := fun b o q => see (kin b o q) (by
    cases hb : H b with
    | none => rfl
    | some u =>
      have e := isA hb
      subst e
      rw [outK (by rw [hb]; simp)] at q
      cases q)
  obtain ⟨mc, lim1, lim2⟩ := lim
  have env : Env0 P w K mg (hidT s1.heap H) callerA [] s1 H :=
    ⟨rfl, ⟨kinB, nsOf gl, ⟨mb, nsOf bl, bb⟩, ⟨mc, nsOf lim1, lim2⟩⟩, fun b o q => of_hidT q, Nat.le_of_eq (hidT_size _ _), trivial, fun b hb => (List.not_mem_nil (a := b) hb).elim, hok, .of_eq gens⟩
  refine codeAny_mono ((F _ kinB (nsOf gl)).run callerA [] s1 H ⟨[.ref a], []⟩ [.ref a] [.ref a] _ _ room env (bnd s1 (.ref a)) (.cons rfl .nil) (goal H only sq)) fun r s' q => ?_
  match r, q with
  | .error e, q => exact (none_ H e s' q).elim
  | .ok .next, q => exact q.elim
  | .ok .brk, q => exact q.elim
  | .ok .cont, q => exact q.elim
  | .ok (.ret u), q =>
    obtain ⟨v, H', os, bare, un, hok', rv, e⟩ := q
    have e' : v = .bl true := e
    subst e'
    obtain rfl : u = Value.bool true := rv
    refine ⟨rfl, OldK.of_keep fun b o q => ?_, os, bare⟩
    cases hb : H b with
    | none => exact un.keep b o q hb (fun z => List.not_mem_nil (a := b) z) (fun z => List.not_mem_nil (a := b) z)
    | some y =>
      rcases only b with z | ⟨ob, xs, z⟩
      · rw [hb] at z; cases z
      · obtain ⟨e1, _⟩ := hok b _ z
        obtain ⟨e2, _⟩ := hok' b _ (un.frzs b ob _ z)
        rw [q] at e1
        cases e1
        exact e2
end Dn


set_option Elab.async false
set_option linter.all false
set_option maxRecDepth 100000
/-! DnCall: defs and calls. -/
namespace Dn
open PySem PySem.Spec PyProof.Rows L2

abbrev FD := List D → Om → Option (Rs D × Om)
/-- a def's promise by its denotation -/
def spD (K : PySem.W.Frag) (n : Nat) (F : FD) : Sp := fun vs H Q E => vs.length = n ∧ ∃ m Ω ds, CellsOk K m Ω H ∧ RlL K m Ω H ds vs ∧ Af K (Rl K) E Q m Ω H (F ds Ω)
def endF (r : Option (Fl × Gm × Om)) : Option (Rs D × Om) := match r with
  | none => none
  | some (.nx, _, Ω) => some (.ok .non, Ω)
  | some (.rt d, _, Ω) => some (.ok d, Ω)
  | some (.ex e, _, Ω) => some (.ex e, Ω)
  | _ => none
@[simp] theorem endF_none : endF none = none := rfl
@[simp] theorem endF_nx (Γ : Gm) (Ω : Om) : endF (some (.nx, Γ, Ω)) = some (.ok .non, Ω) := rfl
@[simp] theorem endF_rt (d : D) (Γ : Gm) (Ω : Om) : endF (some (.rt d, Γ, Ω)) = some (.ok d, Ω) := rfl
@[simp] theorem endF_ex (e : Xn) (Γ : Gm) (Ω : Om) : endF (some (.ex e, Γ, Ω)) = some (.ex e, Ω) := rfl
def startG (n : Nat) (ds : List D) : Gm := ds.map some ++ List.replicate (n - ds.length) none
def fnD (n : Nat) (b : DenS) : FD := fun ds Ω => endF (b (startG n ds) Ω)
theorem slots_start {K : PySem.W.Frag} {m : Mp} {Ω : Om} {H : Hp} {N : List Str} {ds : List D} {vs : List V} (r : RlL K m Ω H ds vs) : Slots K m Ω H (startG N.length ds) (L2.start N vs) := by
  have hl := r.length
  refine ⟨by unfold startG L2.start; simp [hl], fun i d h => ?_⟩
  unfold startG at h
  by_cases hi : i < ds.length
  · rw [List.getElem?_append_left (by simpa using hi), List.getElem?_map] at h
    cases e : ds[i]? with
    | none => rw [e] at h; cases h
    | some x =>
      rw [e] at h
      cases h
      obtain ⟨v, h1, h2⟩ := r.get e
      refine ⟨v, ?_, h2⟩
      unfold L2.start
      rw [List.getElem?_append_left (by simp; omega), List.getElem?_map, h1]
      rfl
  · rw [List.getElem?_append_right (by simpa using hi), List.getElem?_replicate] at h
    split at h <;> cases h
section
variable {P : Program} {w : World} {K : PySem.W.Frag} {mg : Str → Option Value} {base : Heap} {x qual : Str} {params : Arguments} {body : List Stmt} {scope : Scope} {f : Addr} {fd : FuncData}
/-- a def by its body's denotation -/
theorem fn_def {N ps : List Str} {k : Nat} {b : DenS} (F : FunD K x qual params body scope [] [] f fd) (S : FnScope N ps scope)
    (hb : ∀ (cdv : Value) (A : Around) (outer : List Env) (s : Shared) (H : Hp) (E : XK), RoomG k (A.deeper (envOfC qual scope s.heap.objs.size f cdv)) → DSs (cxOf (L2N.CX P w) P w K mg base N qual scope f cdv A outer s H E) (fun _ => E) body b) :
    FnOkG P w K mg base (L2N.CX P w) (k + 1) f fd ps (spD K ps.length (fnD N.length b)) := by
  refine fn_ofG F S (fun vs H Q E h => h.1) (fun cdv A outer s H vs Q E hr h => ⟨_, hb cdv A outer s H E hr, ?_⟩)
  obtain ⟨hl, m, Ω, ds, c, r, q⟩ := h
  refine ⟨m, startG N.length ds, Ω, ⟨c, slots_start r⟩, ?_⟩
  unfold fnD at q
  show AfS K (fun _ => E) _ m Ω H (b (startG N.length ds) Ω)
  cases e : b (startG N.length ds) Ω with
  | none => rw [e] at q; exact q
  | some z =>
    obtain ⟨fl, Γ', Ω'⟩ := z
    rw [e] at q
    cases fl with
    | nx => exact fun m' σ' H' g sl => q m' .non H' g (by unfold Rl; rfl)
    | rt d => exact q
    | ex e => exact fun m' σ' H' cls dd g sl r => q m' H' cls dd g r
    | bk => exact q.elim
    | ct => exact q.elim
end
/-! ### the local cells are left behind -/
def frz (k : Nat) (Ω : Om) (d : D) : D := match d with
  | .ref n => if n < k then .ref n else match Ω[n]? with
    | some (.lst xs) => .lst xs
    | some (.dct kvs) => .dct kvs
    | some (.ins c fs) => .obj c fs
    | _ => .ref n
  | d => d
def clean (F : FD) : FD := fun ds Ω => match F ds Ω with
  | none => none
  | some (Rs.ok d, Ω') => if below Ω.length (frz Ω.length Ω' d) = true ∧ cellsBelow Ω.length Ω' = true then some (.ok (frz Ω.length Ω' d), Ω'.take Ω.length) else none
  | some (.ex e, Ω') => if belowF Ω.length e.fs = true ∧ cellsBelow Ω.length Ω' = true then some (.ex e, Ω'.take Ω.length) else none
section
variable {K : PySem.W.Frag} {m : Mp} {Ω : Om} {H : Hp} {E : XK} {Q : VK}
theorem frz_ok {k : Nat} (c : CellsOk K m Ω H) {d : D} {v : V} (r : Rl K m Ω H d v) (hb : below k (frz k Ω d) = true) : Rl K (Mp.take k m) (Ω.take k) H (frz k Ω d) v := by
  cases d with
  | ref n =>
    unfold frz at hb ⊢
    dsimp only at hb ⊢
    by_cases hn : n < k
    · rw [if_pos hn] at hb ⊢
      exact Rl.take _ v hb r
    · rw [if_neg hn] at hb ⊢
      unfold Rl at r
      obtain ⟨a, ev, ha⟩ := r
      have hl : ¬ Live (Mp.take k m) (Ω.take k) a := fun l => by
        rcases l with ⟨i, x, h1, _⟩ | l
        · have h1 : (m.l.take k)[i]? = some a := h1
          rw [List.getElem?_take] at h1
          by_cases hi : i < k
          · rw [if_pos hi] at h1
            exact hn (c.nodup_ix h1 ha ▸ hi)
          · rw [if_neg hi] at h1
            cases h1
        · exact (c.hl a l).2 (List.mem_of_getElem? ha)
      cases e : Ω[n]? with
      | none =>
        rw [e] at hb
        have z : below k (.ref n) = true := hb
        unfold below at z
        exact (hn (of_decide_eq_true z)).elim
      | some x =>
        rw [e] at hb
        have ck := c.at_ n x a e ha
        cases x with
        | lst xs =>
          obtain ⟨vs, h1, h2⟩ := ck
          have z : below k (.lst xs) = true := hb
          unfold below at z
          show Rl K (Mp.take k m) (Ω.take k) H (.lst xs) v
          unfold Rl
          exact ⟨a, vs, ev, h1, hl, RlL.take xs vs z h2⟩
        | dct xs =>
          obtain ⟨vs, h1, h2⟩ := ck
          have z : below k (.dct xs) = true := hb
          unfold below at z
          show Rl K (Mp.take k m) (Ω.take k) H (.dct xs) v
          unfold Rl
          exact ⟨a, vs, ev, .inl h1, hl, RlK.take xs vs z h2⟩
        | ins cc xs =>
          obtain ⟨dx, vs, h1, h2⟩ := ck
          have z : below k (.obj cc xs) = true := hb
          unfold below at z
          show Rl K (Mp.take k m) (Ω.take k) H (.obj cc xs) v
          unfold Rl
          exact ⟨a, dx, vs, ev, h1, hl, RlF.take xs vs z h2⟩
        | dead =>
          have z : below k (.ref n) = true := hb
          unfold below at z
          exact (hn (of_decide_eq_true z)).elim
  | _ => exact Rl.take _ v hb r
theorem XRel.take {k : Nat} {e : Xn} {cls : Value} {dd : Option Addr} (r : XRel K m Ω H e cls dd) (hb : belowF k e.fs = true) : XRel K (Mp.take k m) (Ω.take k) H e cls dd := by
  obtain ⟨h1, h2⟩ := r
  refine ⟨h1, h2.imp (fun z => z) fun ⟨d, gs, z1, z2, z3⟩ => ⟨d, gs, z1, z2, RlF.take _ _ hb z3⟩⟩
theorem clean_ok {F : FD} {ds : List D} (c : CellsOk K m Ω H) (h : Af K (Rl K) E Q m Ω H (clean F ds Ω)) : Af K (Rl K) E Q m Ω H (F ds Ω) := by
  unfold clean at h
  cases e : F ds Ω with
  | none => rw [e] at h; exact h
  | some z =>
    obtain ⟨r, Ω'⟩ := z
    rw [e] at h
    cases r with
    | ok d =>
      obtain ⟨⟨b1, b2⟩, h⟩ := Af.guard h
      intro m' v H' g r
      exact h (Mp.take Ω.length m') v H' (Go.take g (by rw [c.len]; exact Nat.le_refl _) b2) (frz_ok g.ok r b1)
    | ex e =>
      obtain ⟨⟨b1, b2⟩, h⟩ := Af.guard h
      intro m' H' cls dd g r
      exact h (Mp.take Ω.length m') H' cls dd (Go.take g (by rw [c.len]; exact Nat.le_refl _) b2) (r.take b1)
theorem spD_clean {n : Nat} {F : FD} {vs : List V} (h : spD K n (clean F) vs H Q E) : spD K n F vs H Q E := by
  obtain ⟨hl, m, Ω, ds, c, r, q⟩ := h
  exact ⟨hl, m, Ω, ds, c, r, clean_ok c q⟩
end
theorem FnOkG.clean {P : Program} {w : World} {K : PySem.W.Frag} {mg : Str → Option Value} {base : Heap} {CX : CXT} {k n : Nat} {f : Addr} {fd : FuncData} {ps : List Str} {F : FD} (G : FnOkG P w K mg base CX k f fd ps (spD K n F)) : FnOkG P w K mg base CX k f fd ps (spD K n (Dn.clean F)) := G.imp fun _ _ _ _ h => spD_clean h

/-! ### calls -/
/-- the module's name x is a def with this denotation -/
structure FnG (P : Program) (w : World) (K : PySem.W.Frag) (mg : Str → Option Value) (base : Heap) (x : Str) (ps : List Str) (k : Nat) (F : FD) : Prop where
  ex : ∃ f fd, mg x = some (.ref f) ∧ FnOkG P w K mg base (L2N.CX P w) k f fd ps (spD K ps.length F) ∧ PySem.W.keepIn K (.ref f) = true ∧ Binds K fd ps []
def fCall (n : Nat) (F : FD) (r : Den (List D)) : Den D := bnd r fun ds _ Ω => if ds.length = n then F ds Ω else none
section
variable {X : Cx} {E : L2.St → XK} {x : Str} {ps : List Str} {k : Nat} {F : FD} {e : Expr} {es : List Expr} {r : Den (List D)} {p pos : Pos}
theorem sp_of {n : Nat} {σ : L2.St} {H : Hp} {Q : VK} {m : Mp} {Ω : Om} {ds : List D} {vs : List V} (c : CellsOk X.K m Ω H) (rr : RlL X.K m Ω H ds vs) (q : Af X.K (Rl X.K) (E σ) Q m Ω H (if ds.length = n then F ds Ω else none)) : spD X.K n F vs H Q (E σ) := by
  obtain ⟨hl, q⟩ := Af.guard q
  exact ⟨by rw [← rr.length]; exact hl, m, Ω, ds, c, rr, q⟩
theorem de_call (G : FnG X.prog X.w X.K X.mg X.base x ps k F) (hr : RoomG k X.A) (hx : ∀ σ, PassesAt (L2N.CX X.prog X.w) X σ (E σ)) (ha : DA X E (e :: es) r) (hg : Gl X x := by rfl)
    (hdb : (x == ("__debug__" : Str)) = false := by decide) (he : starEach (e :: es) X.env = (false, eval e X.env) :: starEach es X.env := by rfl) (hpl : (backTo pos (starEach es X.env)).any (·.1) = false := by rfl) :
    DE X E (.Call (.Name x p) (e :: es) [] pos) (fCall ps.length F r) := by
  obtain ⟨f, fd, hm, ok, kp, bi⟩ := G.ex
  refine PE.mono (pe_callG (E := E) ok hr hg hm kp bi hx ha hdb he hpl) fun σ H Q h => ?_
  obtain ⟨m, Γ, Ω, s, h⟩ := h
  refine ⟨m, Γ, Ω, s, (Af.bind (R := RlL X.K) h).imp fun _ _ _ _ _ _ _ _ ⟨m1, Ω1, ds, g1, r1, q⟩ => ?_⟩
  exact sp_of g1.ok r1 q
end
/-- nothing is let out of a comprehension's block -/
abbrev E0S : L2.St → XK := fun _ _ _ _ => False
theorem pass00 {X : Cx} (σ : L2.St) : PassesAt (L2N.CX X.prog X.w) X σ (E0S σ) := fun _ _ _ _ _ _ h => by
  obtain ⟨_, _, _, _, _, _, _, _, _, _, _, _, z⟩ := h
  exact z.elim
end Dn


set_option Elab.async false
set_option linter.all false
set_option maxRecDepth 100000
/-! DnEq: == of data. -/
namespace Dn
open PySem L2

section
variable (g : Nat → Option PyData)
mutual
def toPg : D → Option PyData
  | .non => some .none
  | .bl b => some (.bool b)
  | .int i => some (.int i)
  | .str x => some (.str x)
  | .tup xs => (toPLg xs).map .tuple
  | .lst xs => (toPLg xs).map .list
  | .ref n => g n
  | .dct _ => none
  | .obj _ _ => none
  | .scr _ => none
  | .cl _ => none
def toPLg : List D → Option (List PyData)
  | [] => some []
  | d :: ds => match toPg d with
    | none => none
    | some p => match toPLg ds with
      | none => none
      | some ps => some (p :: ps)
end
end
def toP (Ω : Om) : Nat → D → Option PyData
  | 0 => toPg fun _ => none
  | k + 1 => toPg fun n => match Ω[n]? with
    | some (.lst xs) => (toPLg (fun n => toP Ω k (.ref n)) xs).map .list
    | _ => none
section
variable {K : PySem.W.Frag} {m : Mp} {Ω : Om} {H : Hp} {g : Nat → Option PyData}
mutual
theorem toPg_ok (c : CellsOk K m Ω H) (hg : ∀ n p v, Rl K m Ω H (.ref n) v → g n = some p → Dp K H v p) : ∀ (d : D) (v : V) (p : PyData), Rl K m Ω H d v → toPg g d = some p → Dp K H v p
  | .non, v, p, r, e => by unfold Rl at r; unfold toPg at e; cases e; subst r; exact .non
  | .bl b, v, p, r, e => by unfold Rl at r; unfold toPg at e; cases e; subst r; exact .bl b
  | .int b, v, p, r, e => by unfold Rl at r; unfold toPg at e; cases e; subst r; exact .int b
  | .str b, v, p, r, e => by unfold Rl at r; unfold toPg at e; cases e; subst r; exact .str b
  | .tup xs, v, p, r, e => by
    unfold Rl at r
    unfold toPg at e
    obtain ⟨a, vs, ev, h1, h2⟩ := r
    cases q : toPLg g xs with
    | none => rw [q] at e; cases e
    | some ps =>
      rw [q] at e
      cases e
      subst ev
      exact .tup h1.sq (toPLg_ok c hg xs vs ps h2 q)
  | .lst xs, v, p, r, e => by
    unfold Rl at r
    unfold toPg at e
    obtain ⟨a, vs, ev, h1, _, h2⟩ := r
    cases q : toPLg g xs with
    | none => rw [q] at e; cases e
    | some ps =>
      rw [q] at e
      cases e
      subst ev
      exact .lst (SqL.of h1) (toPLg_ok c hg xs vs ps h2 q)
  | .ref n, v, p, r, e => by unfold toPg at e; exact hg n p v r e
  | .dct _, v, p, r, e => by unfold toPg at e; cases e
  | .obj _ _, v, p, r, e => by unfold toPg at e; cases e
  | .scr _, v, p, r, e => by unfold toPg at e; cases e
  | .cl _, v, p, r, e => by unfold toPg at e; cases e
theorem toPLg_ok (c : CellsOk K m Ω H) (hg : ∀ n p v, Rl K m Ω H (.ref n) v → g n = some p → Dp K H v p) : ∀ (ds : List D) (vs : List V) (ps : List PyData), RlL K m Ω H ds vs → toPLg g ds = some ps → DpAll K H vs ps
  | [], vs, ps, r, e => by unfold RlL at r; unfold toPLg at e; cases e; subst r; exact .nil
  | d :: ds, vs, ps, r, e => by
    unfold RlL at r
    unfold toPLg at e
    obtain ⟨v, w, ev, h1, h2⟩ := r
    subst ev
    cases q : toPg g d with
    | none => rw [q] at e; cases e
    | some p =>
      rw [q] at e
      dsimp only at e
      cases q2 : toPLg g ds with
      | none => rw [q2] at e; cases e
      | some qs =>
        rw [q2] at e
        cases e
        exact .cons (toPg_ok c hg d v p h1 q) (toPLg_ok c hg ds w qs h2 q2)
end
theorem toP_ok (c : CellsOk K m Ω H) : ∀ (k : Nat) (d : D) (v : V) (p : PyData), Rl K m Ω H d v → toP Ω k d = some p → Dp K H v p
  | 0, d, v, p, r, e => toPg_ok c (fun n p v _ e => by cases e) d v p r e
  | k + 1, d, v, p, r, e => by
    refine toPg_ok c (fun n p v r e => ?_) d v p r e
    cases q : Ω[n]? with
    | none => rw [q] at e; cases e
    | some x =>
      rw [q] at e
      cases x with
      | lst xs =>
        dsimp only at e
        cases q2 : toPLg (fun n => toP Ω k (.ref n)) xs with
        | none => rw [q2] at e; cases e
        | some ps =>
          rw [q2] at e
          cases e
          unfold Rl at r
          obtain ⟨a, ev, ha⟩ := r
          obtain ⟨vs, h1, h2⟩ := c.at_ n _ a q ha
          subst ev
          exact .lst (SqL.of h1) (toPLg_ok c (fun n p v r e => toP_ok c k (.ref n) v p r e) xs vs ps h2 q2)
      | _ => cases e
def eqG (b : Bool → D) : Op2 := fun x y Ω => match x, y with
  | .int i, .int j => some (.ok (b (decide (i = j))), Ω)
  | x, y => match toP Ω 3 x with
    | some p => match toP Ω 3 y with
      | some q => if SeqAt.shaped p = true ∧ SeqAt.shaped q = true then some (.ok (b (PyData.eqv p q)), Ω) else none
      | none => none
    | none => none
def dEq : Op2 := eqG fun b => .bl b
def dNe : Op2 := eqG fun b => .bl (!b)
theorem eqG_ok {b : Bool → D} {E : XK} {x y : D} {v u : V} {Q : VK} (c : CellsOk K m Ω H) (rx : Rl K m Ω H x v) (ry : Rl K m Ω H y u) (q : Af K (Rl K) E Q m Ω H (eqG b x y Ω)) :
    ∃ d e, Dp K H v d ∧ Dp K H u e ∧ SeqAt.shaped d = true ∧ SeqAt.shaped e = true ∧ Af K (Rl K) E Q m Ω H (some (.ok (b (PyData.eqv d e)), Ω)) := by
  have gen : ∀ x' y', x' = x → y' = y → Af K (Rl K) E Q m Ω H (match toP Ω 3 x' with
    | some p => match toP Ω 3 y' with
      | some q => if SeqAt.shaped p = true ∧ SeqAt.shaped q = true then some (.ok (b (PyData.eqv p q)), Ω) else none
      | none => none
    | none => none) → ∃ d e, Dp K H v d ∧ Dp K H u e ∧ SeqAt.shaped d = true ∧ SeqAt.shaped e = true ∧ Af K (Rl K) E Q m Ω H (some (.ok (b (PyData.eqv d e)), Ω)) := fun x' y' e1 e2 qq => by
    clear q
    subst e1 e2
    cases h1 : toP Ω 3 x' with
    | none => rw [h1] at qq; exact qq.elim
    | some p =>
      rw [h1] at qq
      dsimp only at qq
      cases h2 : toP Ω 3 y' with
      | none => rw [h2] at qq; exact qq.elim
      | some z =>
        rw [h2] at qq
        obtain ⟨⟨s1, s2⟩, qq⟩ := Af.guard qq
        exact ⟨p, z, toP_ok c 3 _ _ _ rx h1, toP_ok c 3 _ _ _ ry h2, s1, s2, qq⟩
  cases x with
  | int i =>
    cases y with
    | int j =>
      unfold Rl at rx ry
      subst rx ry
      exact ⟨_, _, .int i, .int j, rfl, rfl, by
        have e : PyData.eqv (.int i) (.int j) = decide (i = j) := by
          simp only [PyData.eqv]
          by_cases h : i = j
          · simp [h]
          · simp [h]
        rw [e]
        exact q⟩
    | _ => exact gen _ _ rfl rfl q
  | _ => cases y <;> exact gen _ _ rfl rfl q
theorem od_eq : OpD K dEq (rEqD K) := by
  intro E m Ω H x y v u Q c rx ry q
  obtain ⟨d, e, h1, h2, s1, s2, q⟩ := eqG_ok c rx ry q
  exact ⟨d, e, h1, h2, s1, s2, q.now c rl_bl⟩
theorem od_ne : OpD K dNe (rNeD K) := by
  intro E m Ω H x y v u Q c rx ry q
  obtain ⟨d, e, h1, h2, s1, s2, q⟩ := eqG_ok c rx ry q
  exact ⟨d, e, h1, h2, s1, s2, q.now c rl_bl⟩
/-- is None -/
def isNon : D → Bool
  | .non => true
  | _ => false
def dIsN : Op2 := fun x y Ω => match y with
  | .non => some (.ok (.bl (isNon x)), Ω)
  | _ => none
def dNotN : Op2 := fun x y Ω => match y with
  | .non => some (.ok (.bl (!(isNon x))), Ω)
  | _ => none
theorem isN_of {x : D} {v : V} (r : Rl K m Ω H x v) : (isNon x) = decide (v = .non) := by
  cases x with
  | non => unfold Rl at r; subst r; rfl
  | bl b => unfold Rl at r; subst r; rfl
  | int b => unfold Rl at r; subst r; rfl
  | str b => unfold Rl at r; subst r; rfl
  | tup b => unfold Rl at r; obtain ⟨a, _, e, _⟩ := r; subst e; rfl
  | lst b => unfold Rl at r; obtain ⟨a, _, e, _⟩ := r; subst e; rfl
  | dct b => unfold Rl at r; obtain ⟨a, _, e, _⟩ := r; subst e; rfl
  | obj b fs => unfold Rl at r; obtain ⟨a, _, _, e, _⟩ := r; subst e; rfl
  | ref b => unfold Rl at r; obtain ⟨a, e, _⟩ := r; subst e; rfl
  | scr b => unfold Rl at r; obtain ⟨a, e, _⟩ := r; subst e; rfl
  | cl b => unfold Rl at r; subst r; rfl
theorem od_isN : OpD K dIsN (fun x y H Q => y = .non ∧ Q (.bl (decide (x = .non))) H) := by
  intro E m Ω H x y v u Q c rx ry q
  cases y with
  | non =>
    unfold Rl at ry
    have q2 : Af K (Rl K) E Q m Ω H (some (.ok (.bl (isNon x)), Ω)) := q
    rw [isN_of rx] at q2
    exact ⟨ry, q2.now c rl_bl⟩
  | _ => exact q.elim
theorem od_notN : OpD K dNotN (fun x y H Q => y = .non ∧ Q (.bl (!decide (x = .non))) H) := by
  intro E m Ω H x y v u Q c rx ry q
  cases y with
  | non =>
    unfold Rl at ry
    have q2 : Af K (Rl K) E Q m Ω H (some (.ok (.bl (!isNon x)), Ω)) := q
    rw [isN_of rx] at q2
    exact ⟨ry, q2.now c rl_bl⟩
  | _ => exact q.elim
end
section
variable {X : Cx} {E : St → XK} {a b e : Expr} {f g : Den D} {pos : Pos} {k : Nat}
theorem de_eq (hr : RoomG k X.A) (ha : DE X E a f) (hb : DE X E b g) : DE X E (.Compare a [.Eq] [b] pos) (fBin dEq f g) := de_cmp (op_eqD hr.units) od_eq ha hb (nomark _)
theorem de_ne (hr : RoomG k X.A) (ha : DE X E a f) (hb : DE X E b g) : DE X E (.Compare a [.NotEq] [b] pos) (fBin dNe f g) := de_cmp (op_neD hr.units) od_ne ha hb (nomark _)
theorem dt_eq (hr : RoomG k X.A) (ha : DE X E a f) (hb : DE X E b g) : DT X E (.Compare a [.Eq] [b] pos) (fT (fBin dEq f g)) := dt_cmp (op_eqD hr.units) od_eq ha hb (nomark _)
theorem dt_ne (hr : RoomG k X.A) (ha : DE X E a f) (hb : DE X E b g) : DT X E (.Compare a [.NotEq] [b] pos) (fT (fBin dNe f g)) := dt_cmp (op_neD hr.units) od_ne ha hb (nomark _)
theorem de_isN (ha : DE X E a f) (hb : DE X E b g) : DE X E (.Compare a [.Is] [b] pos) (fBin dIsN f g) := de_cmp op_isN od_isN ha hb (nomark _)
theorem de_notN (ha : DE X E a f) (hb : DE X E b g) : DE X E (.Compare a [.IsNot] [b] pos) (fBin dNotN f g) := de_cmp op_notN od_notN ha hb (nomark _)
theorem dt_isN (ha : DE X E a f) (hb : DE X E b g) : DT X E (.Compare a [.Is] [b] pos) (fT (fBin dIsN f g)) := dt_cmp op_isN od_isN ha hb (nomark _)
theorem dt_notN (ha : DE X E a f) (hb : DE X E b g) : DT X E (.Compare a [.IsNot] [b] pos) (fT (fBin dNotN f g)) := dt_cmp op_notN od_notN ha hb (nomark _)
/-- a < b < c -/
def fChain (o o' : Op2) (f g h : Den D) : Den D := bnd f fun x => bnd g fun y => bnd (fT fun _ Ω => o x y Ω) fun b => if b = true then bnd h fun z _ Ω => o' y z Ω else fC (.bl false)
theorem chain_of {o o' : Op2} {r r' : R2} {f g h : Den D} (od : OpD X.K o r) (od' : OpD X.K o' r') {σ : St} {H : Hp} {Q : VK} (hh : tD X.K E (fChain o o' f g h) σ H Q) : tChain r r' (tD X.K E f) (tD X.K E g) (tD X.K E h) σ H Q := by
  obtain ⟨m, Γ, Ω, s, hh⟩ := hh
  refine ⟨m, Γ, Ω, s, (Af.bind (R := Rl X.K) hh).imp fun _ _ _ _ _ _ _ _ ⟨m1, Ω1, x, g1, r1, q⟩ => ⟨m1, Γ, Ω1, s.go g1, (Af.bind (R := Rl X.K) q).imp fun _ _ _ _ _ _ _ _ ⟨m2, Ω2, y, g2, r2, q2⟩ => ?_⟩⟩
  refine od (E σ) m2 Ω2 _ x y _ _ _ g2.ok (Rl.go g2.toGw g1.ok x _ r1) r2 ?_
  have q3 := Af.bind (R := fun _ _ _ a b => a = b) (β := Bool) q2
  have q4 := Af.bind (R := Rl X.K) q3
  refine q4.imp fun _ _ H3 _ v3 _ _ _ ⟨m3, Ω3, d3, g3, r3, q5⟩ => ?_
  cases d3 with
  | bl b =>
    unfold Rl at r3
    refine ⟨b, r3, ?_⟩
    obtain ⟨m4, Ω4, b4, g4, e4, q6⟩ := q5 m3 b H3 (Go.refl g3.ok) rfl
    subst e4
    cases b4 with
    | false => exact q6.now g4.ok rl_bl
    | true =>
      show tD X.K E h σ H3 _
      refine ⟨m4, Γ, Ω4, ((s.go g1).go g2).go g4, (Af.bind (R := Rl X.K) q6).imp fun _ _ _ _ _ _ _ _ ⟨m5, Ω5, z, g5, r5, q7⟩ => ?_⟩
      exact od' (E σ) m5 Ω5 _ y z _ _ _ g5.ok (Rl.go (g4.trans g5).toGw g2.ok y _ r2) r5 q7
  | _ => exact q5.elim
theorem de_chain {c : Expr} {op op' : CmpOp} {o o' : Op2} {r r' : R2} {h : Den D} (hr : OpR X (compareOp op) r) (hr' : OpR X (compareOp op') r') (od : OpD X.K o r) (od' : OpD X.K o' r') (ha : DE X E a f) (hb : DE X E b g) (hc : DE X E c h)
    (hl : lastMarks [op, op'] [b, c] = false := by rfl) : DE X E (.Compare a [op, op'] [b, c] pos) (fChain o o' f g h) := PE.mono (pe_chain hr hr' ha hb hc hl) fun _ _ _ hh => chain_of od od' hh
theorem dt_chain {c : Expr} {op op' : CmpOp} {o o' : Op2} {r r' : R2} {h : Den D} (hr : OpR X (compareOp op) r) (hr' : OpR X (compareOp op') r') (od : OpD X.K o r) (od' : OpD X.K o' r') (ha : DE X E a f) (hb : DE X E b g) (hc : DE X E c h)
    (hl : lastMarks [op, op'] [b, c] = false := by rfl) : DT X E (.Compare a [op, op'] [b, c] pos) (fT (fChain o o' f g h)) := PT.mono (pt_chain hr hr' ha hb hc hl) fun _ _ _ hh => by
  have h2 := tT_of hh
  exact chain_of od od' h2
theorem dt_leLt {c : Expr} {h : Den D} (ha : DE X E a f) (hb : DE X E b g) (hc : DE X E c h) (hl : lastMarks [CmpOp.LtE, CmpOp.Lt] [b, c] = false := by rfl) : DT X E (.Compare a [.LtE, .Lt] [b, c] pos) (fT (fChain dLe dLt f g h)) := dt_chain op_le op_lt od_le od_lt ha hb hc hl
theorem dt_leLe {c : Expr} {h : Den D} (ha : DE X E a f) (hb : DE X E b g) (hc : DE X E c h) (hl : lastMarks [CmpOp.LtE, CmpOp.LtE] [b, c] = false := by rfl) : DT X E (.Compare a [.LtE, .LtE] [b, c] pos) (fT (fChain dLe dLe f g h)) := dt_chain op_le op_le od_le od_le ha hb hc hl
end
end Dn


set_option Elab.async false
set_option linter.all false
set_option maxRecDepth 100000
set_option maxHeartbeats 1000000
/-! DnEnumT: enumerate(tuple). -/
namespace Dn
open PySem PySem.Spec PyProof.Rows L2
/-- the tuple at a, each item in a new pair -/
def IteT (K : PySem.W.Frag) (a : Addr) : It :=
  ⟨fun i H => ∃ (xs : List V) (x : V), SqT K H a xs ∧ xs[i]? = some x, fun i H v H' => ∃ T x, v = .ref T ∧ H T = none ∧ H' = upd H T (.tup [.int (i : Nat), x]) ∧ ∀ xs, SqT K H a xs → xs[i]? = some x, fun i H => ∃ xs : List V, SqT K H a xs ∧ xs.length ≤ i⟩
theorem turn_enumT {P : Program} {w : World} {K : PySem.W.Frag} {elts : List Expr} {kk : Nat} {tpos : Pos} (a e it : Addr) :
    Turn P w K (.Tuple elts kk tpos) (IteT K a) [e, it] e (fun i h => (∃ old, IsEnum h e it ((i : Nat) : Int) old) ∧ h.IsTupleIter it a i ∧ e ≠ it) where
  mem := by simp
  obj := fun i h st b hb => by
    obtain ⟨⟨old, he⟩, ⟨o, ho, hc, hd⟩, _⟩ := st
    have e' : b = e ∨ b = it := by simpa using hb
    rcases e' with z | z
    · rw [z]; exact ⟨_, he, fun v q => nomatch q⟩
    · rw [z]; exact ⟨o, ho, fun v q => by rw [hd] at q; cases q⟩
  keep := fun i h h' st k => let ⟨⟨old, he⟩, hi, hne⟩ := st; ⟨⟨old, k e (by simp) _ he⟩, hi.at fun o q => k it (by simp) o q, hne⟩
  item := by
    intro X hP hw hK hc i pins s σ H E I hf st hg
    subst hP hw hK
    obtain ⟨⟨old, he⟩, hit, hne⟩ := st
    obtain ⟨xs, x, hq, hx⟩ := hg
    obtain ⟨its, rv, p, hz⟩ := I.tuple hq
    obtain ⟨u, hu, ru⟩ := rv.get hx
    have hel : e < s.heap.objs.size := Heap.lt_size he
    have hil : it < s.heap.objs.size := by obtain ⟨_, q, _⟩ := hit; exact Heap.lt_size q
    obtain ⟨oa, ha, hca, na, hda⟩ := p
    have hai : a ≠ it := fun z => by
      obtain ⟨o, ho, hco, _⟩ := hit
      rw [← z, ha] at ho
      cases ho
      rw [hca] at hco
      exact absurd (Value.type.inj hco) (by decide)
    have hae : e ≠ a := fun z => by
      have he2 := he
      unfold IsEnum at he2
      rw [z, ha] at he2
      cases he2
      exact absurd (Value.type.inj hca) (by decide)
    have hlt : i < its.toArray.size := by
      have := (List.getElem?_eq_some_iff.mp hu).1
      simpa using this
    refine wpAny_pyNext_enum_itemD (Draws.tuple (prog := X.prog) (w := X.w) (A := X.A.in1) (I.ok.hd hc) it a hai its.toArray) he ⟨hit, ⟨oa, ha, hca, na, hda⟩⟩ hlt hne (by simp [hne, hae]) fun x' h' tk hP' ho hst' hT hsz hk => ?_
    have ex : x' = u := by
      have h1 : its.toArray[i]? = some u := by simpa using hu
      rw [h1] at hP'
      exact (Option.some.inj hP').symm
    subst ex
    have hit' := hst'.1
    refine ⟨_, rfl, wpAny_letOwnedTupleGo_enum (s := { s with heap := h', toks := tk + 1 }) ho fun h'' he' sb => ?_⟩
    have hT2 : h''.get? s.heap.objs.size = some { cls := .type "tuple", data := .seq #[.int i tk, x'] } := (sb.2 _ (Nat.ne_of_gt hel)).trans hT
    have new : ObjOk X.prog X.w (upd H s.heap.objs.size (.tup [.int (i : Nat), x])) h'' s.heap.objs.size (.tup [.int (i : Nat), x]) :=
      ⟨by show 2 ≤ sizeLine; decide, [.int i tk, x'], .cons ⟨_, rfl⟩ (.cons ru .nil), ⟨_, hT2, rfl, _, rfl⟩⟩
    have I1 : Inv X pins σ (upd H s.heap.objs.size (.tup [.int (i : Nat), x])) { s with heap := h'', toks := tk + 1 } :=
      I.turnedNew (ch := [e, it]) (fun b ob hb q => (sb.2 b (fun z => hb (by simp [z]))).trans (hk b ob (fun z => hb (by simp [z])) (fun z => hb (by simp [z])) q)) hf (Nat.le_refl _) new
    refine ⟨.ref s.heap.objs.size, _, I1, rfl, ⟨_, x, rfl, I.hok.fresh (Nat.le_refl _), rfl, fun ys hy => by rw [I.tuple_inj hy hq]; exact hx⟩, ⟨⟨x', ?_⟩, hit'.at fun o q => (sb.2 it (Ne.symm hne)).trans q, hne⟩, fun b hb => ?_⟩
    · have e1 : ((i + 1 : Nat) : Int) = (i : Int) + 1 := by omega
      rw [e1]; exact he'
    · have hb' : b < s.heap.objs.size := by
        have e' : b = e ∨ b = it := by simpa using hb
        rcases e' with z | z
        · rw [z]; exact hel
        · rw [z]; exact hil
      rw [upd_ne (Nat.ne_of_lt hb')]
      exact (hf b hb).1
  done := by
    intro X hP hw hK hc i pins s σ H E I hf st hg
    subst hP hw hK
    obtain ⟨⟨old, he⟩, hit, hne⟩ := st
    obtain ⟨xs, hq, hx⟩ := hg
    obtain ⟨its, rv, p, hz⟩ := I.tuple hq
    obtain ⟨f0, f1, f2, f3, f4, f5⟩ := hf it (by simp)
    have hl := rv.length
    obtain ⟨oa, ha, hca, na, hda⟩ := p
    have hT : s.TypeIs (.ref e) "enumerate" := ⟨_, he, rfl⟩
    unfold pyNext
    refine wpAny_bind (wpAny_attempt (wpAny_callSpecial?_slot (name := Str.ofString "__next__") hT F.slot_enumerate_next
      (wpAny_call_entry F.slot_enumerate_next hT F.entry_enumerate_next ?_ (F.args_enumerate_next_1 _))))
    show wpAny _ _ (PySem.field (.ref e) 2 >>= _) _ _ _
    refine wpAny_bind (wpAny_field he rfl (x := .ref it) rfl ?_)
    refine wpAny_bind (wpAny_nextOf_tuple_end (I.ok.hd hc) hit ⟨oa, ha, hca, na, hda⟩ (by simp; omega) fun h' x he' hx' => ?_)
    obtain ⟨o, ho, hco⟩ := hx'
    refine wpAny_bind (wpAny_isInstance (T := "StopIteration") (b := true) ⟨o, ho, hco⟩ isSubtype_stop ?_)
    exact wpAny_pure ⟨rfl, I.turned (t' := s.toks) (fun b o hb q => he' b o hb q) f0 f1 f3 f4 f5⟩
  self := fun A i s Q E st h => let ⟨⟨_, he⟩, _⟩ := st; wpAny_pyIter_enum he h
theorem meets_enumerate_newT {v : Value} {o : Obj} {H : Heap → Prop} (B : Begins v o H) :
    Meets (Builtin.«enumerate.__new__» ⟨[.type "enumerate", v], []⟩) (fun _ R s => H s.heap ∧
      R (.ok (.ret (.ref (s.heap.push o).objs.size))) { s with heap := (s.heap.push o).push { cls := .type "enumerate", data := .fields #[.none, .bool false, .ref s.heap.objs.size, rawInt 0, .none, .none] } }) :=
  .of_wp fun prog w A R s h => by
    obtain ⟨hp, g, d, tk, os⟩ := s; obtain ⟨h1, h⟩ := h
    have hsub := sub_enumerate
    have q1 : ∀ {A' : Around} {E : Value → Shared → Prop} {Q : Value → Shared → Prop}, Q (.ref hp.objs.size) ⟨hp.push o, g, d, tk, os⟩ → wpAny (model prog w) A' (pyIter v) Q E ⟨hp, g, d, tk, os⟩ :=
      fun q => B.iter prog w _ _ ⟨hp, g, d, tk, os⟩ _ h1 q
    wp_walk using q1
    refine wpAny_stack_any fun st => wpAny_pure ?_
    split
    · rename_i c _ _ _ _ _
      cases (c == Value.type "enumerate")
      · wp_walk using q1
        exact ⟨_, rfl, h⟩
      · wp_walk using q1
        exact ⟨_, rfl, h⟩
    · wp_walk using q1
      exact ⟨_, rfl, h⟩
theorem enum_beginsT {prog : Program} {w : World} {A : Around} {E : Value → Shared → Prop} {s : Shared} {v : Value} {o : Obj} {H : Heap → Prop} {Q : Value → Shared → Prop} (B : Begins v o H) (h1 : H s.heap)
    (h : ∀ h', IsEnum h' (s.heap.objs.size + 1) s.heap.objs.size 0 .none → h'.get? s.heap.objs.size = some o → h'.objs.size = s.heap.objs.size + 2 →
      (∀ b o, s.heap.get? b = some o → h'.get? b = some o) → Q (.ref (s.heap.objs.size + 1)) { s with heap := h' }) :
    wpAny (model prog w) A (call (.type "enumerate") [v]) Q E s := by
  refine callType_new F.called_enumerate (by decide) (F.typeCall_enumerate_1 _) (F.newCall_enumerate_1 _) (fun obj => F.args_object_init_2 obj _) F.entry_enumerate_new
    (meets_enumerate_newT B) ⟨h1, ?_⟩
  have hz : (s.heap.push o).objs.size = s.heap.objs.size + 1 := Heap.size_push ..
  show _ ∧ _
  rw [hz]
  have he : IsEnum ((s.heap.push o).push { cls := .type "enumerate", data := .fields #[.none, .bool false, .ref s.heap.objs.size, rawInt 0, .none, .none] }) (s.heap.objs.size + 1) s.heap.objs.size 0 .none := by
    have := Heap.get?_push_size (s.heap.push o) (o := { cls := .type "enumerate", data := .fields #[.none, .bool false, .ref s.heap.objs.size, rawInt 0, .none, .none] }) rfl
    rw [hz] at this; exact this
  refine ⟨⟨_, he, rfl⟩, h _ he (Heap.get?_push_of_some _ (Heap.get?_push_size _ B.free)) (by rw [Heap.size_push, hz]) fun b o x => Heap.get?_push_of_some _ (Heap.get?_push_of_some _ x)⟩
def iEnumT (K : PySem.W.Frag) (ta : TA) : TI := fun σ H R => ta σ H fun vs H1 => ∃ a xs, vs = [.ref a] ∧ SqT K H1 a xs ∧ R (IteT K a) H1
theorem pi_enumT {X : Cx} {e : Expr} {ta : TA} {p pos tpos : Pos} {elts : List Expr} {kk : Nat} (hg : Gl X "enumerate") (hm : X.mg "enumerate" = none) (ha : PA X [e] ta) (hs : starEach [e] X.env = [(false, eval e X.env)] := by rfl) :
    PI X (.Tuple elts kk tpos) (.Call (.Name "enumerate" p) [e] [] pos) (iEnumT X.K ta) := by
  refine ⟨fun pins s σ H R I h => ?_⟩
  refine Call_ (ld_blt I hg hm boot_enumerate (PyProof.Rows.callWith_type1 (thn (ha.run pos pins s σ H _ I h) fun us s1 ⟨vs, H1, I1, r1, q1⟩ => ?_) hs rfl))
  obtain ⟨a, xs, ex, hq, q⟩ := q1
  subst ex
  cases r1 with
  | cons r rr =>
    cases rr
    cases r
    obtain ⟨its, rv, p', hz⟩ := I1.tuple hq
    refine enum_beginsT (begins_tuple a its.toArray) p' fun h' he hit hsz hk => wpAny_pyIter_enum he ?_
    have I2 : Inv X pins σ H1 { s1 with heap := h' } := I1.kept (t' := s1.toks) hk
    refine ⟨s1.heap.objs.size + 1, [s1.heap.objs.size + 1, s1.heap.objs.size], _, _, H1, rfl, I2, turn_enumT a (s1.heap.objs.size + 1) s1.heap.objs.size, ⟨⟨.none, he⟩, ⟨_, hit, rfl, rfl⟩, Nat.succ_ne_self _⟩, fun b hb => ?_, q⟩
    have e' : b = s1.heap.objs.size + 1 ∨ b = s1.heap.objs.size := by simpa using hb
    have hle : s1.heap.objs.size ≤ b := by
      rcases e' with z | z
      · rw [z]; exact Nat.le_add_right _ _
      · rw [z]; exact Nat.le_refl _
    exact I1.fpOk hle (I1.hok.fresh hle)
end Dn


set_option Elab.async false
set_option linter.all false
set_option maxRecDepth 100000
/-! DnIter: what is walked; list comprehensions. -/
namespace Dn
open PySem L2
theorem PI.mono {X : Cx} {tg iter : Expr} {w w' : TI} (h : PI X tg iter w) (i : ∀ σ H R, w' σ H R → w σ H R) : PI X tg iter w' := ⟨fun pins s σ H R I q => h.run pins s σ H R I (i σ H R q)⟩
theorem PI.or {X : Cx} {tg iter : Expr} {w w' : TI} (h : PI X tg iter w) (h' : PI X tg iter w') : PI X tg iter (fun σ H R => w σ H R ∨ w' σ H R) := ⟨fun pins s σ H R I q => q.elim (h.run pins s σ H R I) (h'.run pins s σ H R I)⟩
section
variable {K : PySem.W.Frag} {m : Mp} {Ω : Om} {H : Hp}
theorem yields_list {a : Addr} {vs : List V} {ds : List D} (c : CellsOk K m Ω H) (h1 : H a = some (.lst vs)) (hl : ¬ Live m Ω a) (h2 : RlL K m Ω H ds vs) : Yields K m Ω H ds (Itl K a) := fun i m' Ω' H' g ok => by
  have e1 := g.frame _ _ h1 hl
  have e2 := RlL.go g c ds vs h2
  refine ⟨fun d hd => ?_, fun hi => ⟨vs, SqL.of e1, by rw [← h2.length]; exact hi⟩⟩
  obtain ⟨v, hv, rv⟩ := e2.get hd
  refine ⟨⟨vs, v, SqL.of e1, hv⟩, fun x H'' y => ?_⟩
  obtain ⟨e, y⟩ := y
  subst e
  have z := y vs (SqL.of e1)
  rw [hv] at z
  cases z
  exact ⟨Go.refl ok, rv⟩
theorem yields_tup {a : Addr} {vs : List V} {ds : List D} (c : CellsOk K m Ω H) (h1 : SqT K H a vs) (h2 : RlL K m Ω H ds vs) : Yields K m Ω H ds (Itt K a) := fun i m' Ω' H' g ok => by
  have e1 := g.sqT c h1
  have e2 := RlL.go g c ds vs h2
  refine ⟨fun d hd => ?_, fun hi => ⟨vs, e1, by rw [← h2.length]; exact hi⟩⟩
  obtain ⟨v, hv, rv⟩ := e2.get hd
  refine ⟨⟨vs, v, e1, hv⟩, fun x H'' y => ?_⟩
  obtain ⟨e, y⟩ := y
  subst e
  have z := y vs e1
  rw [hv] at z
  cases z
  exact ⟨Go.refl ok, rv⟩
def rangeD (lo : Int) (n : Nat) : List D := (List.range n).map fun (i : Nat) => .int (lo + (i : Int))
theorem yields_range {lo : Int} {n : Nat} : Yields K m Ω H (rangeD lo n) (Itr lo n) := fun i m' Ω' H' g ok => by
  refine ⟨fun d hd => ?_, fun hi => by unfold rangeD at hi; rw [List.length_map, List.length_range] at hi; exact hi⟩
  unfold rangeD at hd
  rw [List.getElem?_map] at hd
  cases e : (List.range n)[i]? with
  | none => rw [e] at hd; cases hd
  | some j =>
    rw [e] at hd
    have hi : i < n := by simpa using (List.getElem?_eq_some_iff.mp e).1
    have ej : j = i := by
      have := (List.getElem?_eq_some_iff.mp e).2
      simpa using this.symm
    subst ej
    cases hd
    refine ⟨hi, fun x H'' y => ?_⟩
    obtain ⟨e1, e2⟩ := y
    subst e1 e2
    exact ⟨Go.refl ok, rl_int⟩
def enumD (k : Nat) : List D → List D
  | [] => []
  | d :: ds => .tup [.int (k : Int), d] :: enumD (k + 1) ds
theorem enumD_get : ∀ (ds : List D) (k i : Nat) (d : D), (enumD k ds)[i]? = some d → ∃ e, ds[i]? = some e ∧ d = .tup [.int ((k + i : Nat) : Int), e]
  | [], k, i, d, h => by unfold enumD at h; simp at h
  | e :: ds, k, 0, d, h => by
    unfold enumD at h
    simp at h
    exact ⟨e, rfl, by rw [← h]; rfl⟩
  | e :: ds, k, i + 1, d, h => by
    unfold enumD at h
    obtain ⟨x, h1, h2⟩ := enumD_get ds (k + 1) i d (by simpa using h)
    exact ⟨x, by simpa using h1, by rw [h2, show k + 1 + i = k + (i + 1) by omega]⟩
theorem enumD_length : ∀ (ds : List D) (k : Nat), (enumD k ds).length = ds.length
  | [], k => rfl
  | e :: ds, k => by unfold enumD; rw [List.length_cons, List.length_cons, enumD_length ds]
theorem yields_enum {a : Addr} {vs : List V} {ds : List D} (c : CellsOk K m Ω H) (h1 : H a = some (.lst vs)) (hl : ¬ Live m Ω a) (h2 : RlL K m Ω H ds vs) : Yields K m Ω H (enumD 0 ds) (Ite K a) := fun i m' Ω' H' g ok => by
  have e1 := g.frame _ _ h1 hl
  have e2 := RlL.go g c ds vs h2
  refine ⟨fun d hd => ?_, fun hi => ⟨vs, SqL.of e1, by rw [← h2.length]; rw [enumD_length] at hi; exact hi⟩⟩
  obtain ⟨e, hd, ed⟩ := enumD_get ds 0 i d hd
  obtain ⟨v, hv, rv⟩ := e2.get hd
  refine ⟨⟨vs, v, SqL.of e1, hv⟩, fun x H'' y => ?_⟩
  obtain ⟨T, x', ex, hT, eH, y⟩ := y
  have z := y vs (SqL.of e1)
  rw [hv] at z
  cases z
  subst ex eH ed
  refine ⟨Go.new ok hT, ?_⟩
  unfold Rl
  refine ⟨T, _, rfl, .inl upd_same, ?_⟩
  unfold RlL
  refine ⟨_, _, rfl, by rw [Nat.zero_add]; exact rl_int, RlL.new ok hT (RlL.one rv)⟩
theorem yields_enumT {a : Addr} {vs : List V} {ds : List D} (c : CellsOk K m Ω H) (h1 : SqT K H a vs) (h2 : RlL K m Ω H ds vs) : Yields K m Ω H (enumD 0 ds) (IteT K a) := fun i m' Ω' H' g ok => by
  have e1 := g.sqT c h1
  have e2 := RlL.go g c ds vs h2
  refine ⟨fun d hd => ?_, fun hi => ⟨vs, e1, by rw [← h2.length]; rw [enumD_length] at hi; exact hi⟩⟩
  obtain ⟨e, hd, ed⟩ := enumD_get ds 0 i d hd
  obtain ⟨v, hv, rv⟩ := e2.get hd
  refine ⟨⟨vs, v, e1, hv⟩, fun x H'' y => ?_⟩
  obtain ⟨T, x', ex, hT, eH, y⟩ := y
  have z := y vs e1
  rw [hv] at z
  cases z
  subst ex eH ed
  refine ⟨Go.new ok hT, ?_⟩
  unfold Rl
  refine ⟨T, _, rfl, .inl upd_same, ?_⟩
  unfold RlL
  refine ⟨_, _, rfl, by rw [Nat.zero_add]; exact rl_int, RlL.new ok hT (RlL.one rv)⟩
end
def fSeq (f : Den D) : Den (List D) := bnd f fun d _ Ω => match d with
  | .lst xs => some (.ok xs, Ω)
  | .tup xs => some (.ok xs, Ω)
  | _ => none
def fRange1 (r : Den (List D)) : Den (List D) := bnd r fun ds _ Ω => match ds with
  | [d] => match d with
    | .int j => if -(2 ^ 62) ≤ j ∧ j < 2 ^ 62 then some (.ok (rangeD 0 j.toNat), Ω) else none
    | _ => none
  | _ => none
def fRange2 (r : Den (List D)) : Den (List D) := bnd r fun ds _ Ω => match ds with
  | [d, e] => match d, e with
    | .int i, .int j => if -(2 ^ 62) ≤ i ∧ i < 2 ^ 62 ∧ -(2 ^ 62) ≤ j ∧ j < 2 ^ 62 then some (.ok (rangeD i (j - i).toNat), Ω) else none
    | _, _ => none
  | _ => none
def fEnum (r : Den (List D)) : Den (List D) := bnd r fun ds _ Ω => match ds with
  | [d] => match d with
    | .lst xs => some (.ok (enumD 0 xs), Ω)
    | .tup xs => some (.ok (enumD 0 xs), Ω)
    | _ => none
  | _ => none
section
variable {X : Cx} {E : St → XK} {tg e a b : Expr} {f : Den D} {r : Den (List D)} {p pos : Pos}
theorem di_seq (h : DE X E e f) : DI X E tg e (fSeq f) := PI.mono (PI.or (pi_list h) (pi_tup h)) fun σ H R h => by
  obtain ⟨m, Γ, Ω, s, h⟩ := h
  unfold fSeq bnd at h
  cases e : f Γ Ω with
  | none => rw [e] at h; exact h.elim
  | some z =>
    obtain ⟨q, Ω1⟩ := z
    rw [e] at h
    cases q with
    | ex x =>
      refine .inl ⟨m, Γ, Ω, s, ?_⟩
      rw [e]
      exact h
    | ok d =>
      cases d with
      | lst xs =>
        refine .inl ⟨m, Γ, Ω, s, ?_⟩
        rw [e]
        intro m1 v H1 g1 r1
        unfold Rl at r1
        obtain ⟨a, vs, ev, h1, hl, h2⟩ := r1
        exact ⟨a, ev, ⟨vs, SqL.of h1⟩, h m1 _ H1 g1 (yields_list g1.ok h1 hl h2)⟩
      | tup xs =>
        refine .inr ⟨m, Γ, Ω, s, ?_⟩
        rw [e]
        intro m1 v H1 g1 r1
        unfold Rl at r1
        obtain ⟨a, vs, ev, h1, h2⟩ := r1
        exact ⟨a, ev, ⟨vs, h1.sq⟩, h m1 _ H1 g1 (yields_tup g1.ok h1.sq h2)⟩
      | _ => exact h.elim
theorem di_range1 (ha : DA X E [a] r) (hm : X.mg "range" = none) (hg : Gl X "range" := by rfl) (hs : starEach [a] X.env = [(false, eval a X.env)] := by rfl) : DI X E tg (.Call (.Name "range" p) [a] [] pos) (fRange1 r) := PI.mono (pi_range1 hg hm ha hs) fun σ H R h => by
  obtain ⟨m, Γ, Ω, s, h⟩ := h
  refine ⟨m, Γ, Ω, s, (Af.bind (R := RlL X.K) h).imp fun _ _ H1 _ vs _ _ _ ⟨m1, Ω1, ds, g1, r1, q⟩ => ?_⟩
  match ds, q, r1 with
  | [.int j], q, r1 =>
    obtain ⟨⟨b1, b2⟩, q⟩ := Af.guard q
    unfold RlL at r1
    obtain ⟨v, w, ev, q1, q2⟩ := r1
    unfold RlL at q2
    unfold Rl at q1
    subst q2 q1 ev
    exact ⟨j, rfl, b1, b2, q m1 _ H1 (Go.refl g1.ok) yields_range⟩
  | [], q, _ => exact q.elim
  | _ :: _ :: _, q, _ => exact q.elim
  | [.non], q, _ | [.bl _], q, _ | [.str _], q, _ | [.tup _], q, _ | [.lst _], q, _ | [.dct _], q, _ | [.obj _ _], q, _ | [.ref _], q, _ | [.scr _], q, _ | [.cl _], q, _ => exact q.elim
theorem RlL.two {K : PySem.W.Frag} {m : Mp} {Ω : Om} {H : Hp} {x y : D} {vs : List V} (r : RlL K m Ω H [x, y] vs) : ∃ v w, vs = [v, w] ∧ Rl K m Ω H x v ∧ Rl K m Ω H y w := by
  unfold RlL at r
  obtain ⟨v, r1, e1, h1, r⟩ := r
  unfold RlL at r
  obtain ⟨w, r2, e2, h2, r⟩ := r
  unfold RlL at r
  subst r e2 e1
  exact ⟨v, w, rfl, h1, h2⟩
theorem RlL.single {K : PySem.W.Frag} {m : Mp} {Ω : Om} {H : Hp} {x : D} {vs : List V} (r : RlL K m Ω H [x] vs) : ∃ v, vs = [v] ∧ Rl K m Ω H x v := by
  unfold RlL at r
  obtain ⟨v, r1, e1, h1, r⟩ := r
  unfold RlL at r
  subst r e1
  exact ⟨v, rfl, h1⟩
theorem di_range2 (ha : DA X E [a, b] r) (hm : X.mg "range" = none) (hg : Gl X "range" := by rfl) (hs : starEach [a, b] X.env = [(false, eval a X.env), (false, eval b X.env)] := by rfl) (hs2 : starEach [b] X.env = [(false, eval b X.env)] := by rfl) : DI X E tg (.Call (.Name "range" p) [a, b] [] pos) (fRange2 r) := PI.mono (pi_range2 hg hm ha hs hs2) fun σ H R h => by
  obtain ⟨m, Γ, Ω, s, h⟩ := h
  refine ⟨m, Γ, Ω, s, (Af.bind (R := RlL X.K) h).imp fun _ _ H1 _ vs _ _ _ ⟨m1, Ω1, ds, g1, r1, q⟩ => ?_⟩
  have two : ∃ i j, ds = [.int i, .int j] := by
    match ds, q with
    | [x, y], q => cases x <;> cases y <;> first | exact ⟨_, _, rfl⟩ | exact q.elim
    | [], q => exact q.elim
    | [_], q => exact q.elim
    | _ :: _ :: _ :: _, q => exact q.elim
  obtain ⟨i, j, ed⟩ := two
  subst ed
  obtain ⟨bb, q⟩ := Af.guard q
  obtain ⟨v, w, ev, h1, h2⟩ := r1.two
  unfold Rl at h1 h2
  subst h1 h2 ev
  exact ⟨i, j, rfl, bb, q m1 _ H1 (Go.refl g1.ok) yields_range⟩
theorem di_enum {elts : List Expr} {kk : Nat} {tpos : Pos} (ha : DA X E [e] r) (hm : X.mg "enumerate" = none) (hg : Gl X "enumerate" := by rfl) (hs : starEach [e] X.env = [(false, eval e X.env)] := by rfl) : DI X E (.Tuple elts kk tpos) (.Call (.Name "enumerate" p) [e] [] pos) (fEnum r) := PI.mono (PI.or (pi_enum hg hm ha hs) (pi_enumT hg hm ha hs)) fun σ H R h => by
  obtain ⟨m, Γ, Ω, s, h⟩ := h
  unfold fEnum bnd at h
  cases e : r Γ Ω with
  | none => rw [e] at h; exact h.elim
  | some z =>
    obtain ⟨q, Ω1⟩ := z
    rw [e] at h
    cases q with
    | ex x =>
      refine .inl ⟨m, Γ, Ω, s, ?_⟩
      rw [e]
      exact h
    | ok ds =>
      match ds, e, h with
      | [.lst xs], e, h =>
        refine .inl ⟨m, Γ, Ω, s, ?_⟩
        rw [e]
        intro m1 vs H1 g1 r1
        obtain ⟨v, ev, h1⟩ := r1.single
        unfold Rl at h1
        obtain ⟨a, ws, e1, h2, hl, h3⟩ := h1
        subst e1 ev
        exact ⟨a, ws, rfl, SqL.of h2, h m1 _ H1 g1 (yields_enum g1.ok h2 hl h3)⟩
      | [.tup xs], e, h =>
        refine .inr ⟨m, Γ, Ω, s, ?_⟩
        rw [e]
        intro m1 vs H1 g1 r1
        obtain ⟨v, ev, h1⟩ := r1.single
        unfold Rl at h1
        obtain ⟨a, ws, e1, h2, h3⟩ := h1
        subst e1 ev
        exact ⟨a, ws, rfl, h2.sq, h m1 _ H1 g1 (yields_enumT g1.ok h2.sq h3)⟩
      | [], _, h => exact h.elim
      | _ :: _ :: _, _, h => exact h.elim
      | [.non], _, h | [.bl _], _, h | [.int _], _, h | [.str _], _, h | [.dct _], _, h | [.obj _ _], _, h | [.ref _], _, h | [.scr _], _, h | [.cl _], _, h => exact h.elim
end

/-! ### comprehensions -/
def wipeG (Γ : Gm) : List Nat → Gm
  | [] => Γ
  | v :: vs => (wipeG Γ vs).set v none
def setAll (Γ : Gm) : List Nat → List D → Gm
  | i :: is, d :: ds => setAll (Γ.set i (some d)) is ds
  | _, _ => Γ
def setAllV (σ : St) : List Nat → List V → St
  | i :: is, v :: vs => setAllV (σ.set i (some v)) is vs
  | _, _ => σ
/-- the target: one name, or a tuple of names -/
inductive Tg where
  | nm (i : Nat) | tp (is : List Nat)
def Tg.slots : Tg → List Nat
  | .nm i => [i]
  | .tp is => is
def Tg.den : Tg → DenG
  | .nm i => fun d Γ => some (Γ.set i (some d))
  | .tp is => fun d Γ => match d with
    | .tup ds => if ds.length = is.length then some (setAll Γ is ds) else none
    | _ => none
def gNames : List Nat → TGs
  | [] => L2.gNil
  | i :: is => L2.gCons (L2.gName i) (gNames is)
def Tg.rd (K : PySem.W.Frag) : Tg → TG
  | .nm i => L2.gName i
  | .tp is => L2.gTup K is.length (gNames is)
def loopC (t : DenG) (ft : Den Bool) (fe : Den D) (Γ : Gm) : List D → List D → Om → Option (Rs D × Om)
  | [], acc, Ω => some (.ok (.lst acc), Ω)
  | d :: r, acc, Ω => match t d Γ with
    | none => none
    | some Γ1 => match ft Γ1 Ω with
      | some (.ok true, Ω1) => match fe Γ1 Ω1 with
        | some (.ok y, Ω2) => if acc.length < 100000 then loopC t ft fe Γ r (acc ++ [y]) Ω2 else none
        | _ => none
      | some (.ok false, Ω1) => loopC t ft fe Γ r acc Ω1
      | _ => none
def fLc (fi : Den (List D)) (t : Tg) (ft : Den Bool) (fe : Den D) (vs : List Nat) : Den D := fun Γ Ω => bR (fi Γ Ω) fun ds Ω1 => loopC t.den ft fe (wipeG Γ vs) ds [] Ω1
section
variable {K : PySem.W.Frag} {m : Mp} {Ω : Om} {H : Hp} {Γ : Gm} {σ : St}
theorem Slots.wipe (s : Slots K m Ω H Γ σ) : ∀ vs : List Nat, Slots K m Ω H (wipeG Γ vs) (L2.wipe σ vs)
  | [] => s
  | v :: vs => by
    have ih := Slots.wipe s vs
    refine ⟨by unfold wipeG L2.wipe; rw [List.length_set, List.length_set, ih.1], fun i d h => ?_⟩
    unfold wipeG at h
    by_cases hi : i = v
    · subst hi
      by_cases hl : i < (wipeG Γ vs).length
      · rw [List.getElem?_set_self hl] at h; cases h
      · have := (List.getElem?_eq_some_iff.mp h).1
        rw [List.length_set] at this
        exact (hl this).elim
    · rw [List.getElem?_set_ne (Ne.symm hi)] at h
      obtain ⟨x, h1, h2⟩ := ih.2 i d h
      refine ⟨x, ?_, h2⟩
      unfold L2.wipe
      rw [List.getElem?_set_ne (Ne.symm hi)]
      exact h1
theorem wipe_set {i : Nat} {o : Option V} : ∀ {vs : List Nat} {σ : St}, i ∈ vs → L2.wipe (σ.set i o) vs = L2.wipe σ vs
  | v :: vs, σ, h => by
    unfold L2.wipe
    by_cases hi : i ∈ vs
    · rw [wipe_set hi]
    · have e : i = v := by
        rcases List.mem_cons.mp h with h | h
        · exact h
        · exact (hi h).elim
      subst e
      have z : ∀ (vs : List Nat), L2.wipe (σ.set i o) vs = (L2.wipe σ vs).set i (((L2.wipe (σ.set i o) vs)[i]?).getD none) ∨ True := fun _ => .inr trivial
      have y : ∀ (vs : List Nat), (L2.wipe (σ.set i o) vs).set i none = (L2.wipe σ vs).set i none := by
        intro vs
        induction vs with
        | nil => unfold L2.wipe; rw [List.set_set]
        | cons v vs ih =>
          unfold L2.wipe
          by_cases hv : v = i
          · subst hv; rw [List.set_set, List.set_set]; exact ih
          · rw [List.set_comm _ _ hv, ih, List.set_comm _ _ (Ne.symm hv)]
      exact y vs
theorem wipe_wipe : ∀ (vs : List Nat) (σ : St), L2.wipe (L2.wipe σ vs) vs = L2.wipe σ vs := by
  intro vs
  have key : ∀ (us : List Nat) (σ : St), (∀ u ∈ us, u ∈ vs) → L2.wipe (L2.wipe σ us) vs = L2.wipe σ vs := by
    intro us
    induction us with
    | nil => intro σ _; rfl
    | cons u us ih =>
      intro σ h
      show L2.wipe ((L2.wipe σ us).set u none) vs = _
      rw [wipe_set (h u (List.mem_cons_self ..))]
      exact ih σ fun x hx => h x (List.mem_cons_of_mem _ hx)
  exact fun σ => key vs σ fun _ h => h
theorem wipe_setAll : ∀ {is : List Nat} {ws : List V} {vs : List Nat} {σ : St}, (∀ i ∈ is, i ∈ vs) → L2.wipe (setAllV σ is ws) vs = L2.wipe σ vs
  | [], ws, vs, σ, _ => by unfold setAllV; rfl
  | i :: is, [], vs, σ, _ => by unfold setAllV; rfl
  | i :: is, w :: ws, vs, σ, h => by
    unfold setAllV
    rw [wipe_setAll fun x hx => h x (List.mem_cons_of_mem _ hx), wipe_set (h i (List.mem_cons_self ..))]
theorem Slots.setAll : ∀ {is : List Nat} {ds : List D} {ws : List V} {Γ : Gm} {σ : St}, Slots K m Ω H Γ σ → RlL K m Ω H ds ws → Slots K m Ω H (Dn.setAll Γ is ds) (setAllV σ is ws)
  | [], ds, ws, Γ, σ, s, _ => by unfold Dn.setAll setAllV; exact s
  | i :: is, [], ws, Γ, σ, s, r => by unfold RlL at r; subst r; unfold Dn.setAll setAllV; exact s
  | i :: is, d :: ds, ws, Γ, σ, s, r => by
    unfold RlL at r
    obtain ⟨w, r', e, h1, h2⟩ := r
    subst e
    unfold Dn.setAll setAllV
    exact Slots.setAll (s.set h1) h2
theorem gNames_of : ∀ {is : List Nat} {ws : List V} {σ : St} {Q : St → Hp → Prop}, ws.length = is.length → Q (setAllV σ is ws) H → gNames is ws σ H Q
  | [], ws, σ, Q, hl, q => ⟨List.eq_nil_of_length_eq_zero hl, by cases List.eq_nil_of_length_eq_zero hl; exact q⟩
  | i :: is, [], σ, Q, hl, q => by cases hl
  | i :: is, w :: ws, σ, Q, hl, q => ⟨w, ws, rfl, gNames_of (is := is) (Nat.succ.inj hl) q⟩
/-- the target's reading, from its denotation -/
theorem Tg.of {t : Tg} {d : D} {v : V} {Γ1 : Gm} {vs : List Nat} {Q : St → Hp → Prop} (s : Slots K m Ω H Γ σ) (r : Rl K m Ω H d v) (e : t.den d Γ = some Γ1) (hv : ∀ i ∈ t.slots, i ∈ vs)
    (q : ∀ σ', Slots K m Ω H Γ1 σ' → L2.wipe σ' vs = L2.wipe σ vs → Q σ' H) : t.rd K v σ H Q := by
  cases t with
  | nm i =>
    cases e
    exact q _ (s.set r) (wipe_set (hv i (List.mem_cons_self ..)))
  | tp is =>
    cases d with
    | tup ds =>
      have e : (if ds.length = is.length then some (Dn.setAll Γ is ds) else none) = some Γ1 := e
      by_cases hl : ds.length = is.length
      · rw [if_pos hl] at e
        cases e
        unfold Rl at r
        obtain ⟨a, ws, ev, h1, h2⟩ := r
        have hw : ws.length = is.length := by rw [← h2.length]; exact hl
        exact ⟨a, ws, ev, h1.sq, hw, gNames_of hw (q _ (s.setAll h2) (wipe_setAll hv))⟩
      · rw [if_neg hl] at e; cases e
    | _ => cases e
end
abbrev DTs (X : Cx) (E : St → XK) (ifs : List Expr) (f : Den Bool) : Prop := PTs X ifs (tDT X.K E f)
theorem PTs.mono {X : Cx} {e : List Expr} {t t' : TT} (h : PTs X e t) (i : ∀ σ H Q, t' σ H Q → t σ H Q) : PTs X e t' := ⟨fun pins s σ H Q I q => h.run pins s σ H Q I (i σ H Q q)⟩
theorem dts_nil {X : Cx} {E : St → XK} : DTs X E [] (fC true) := PTs.mono pts_nil fun σ H Q h => by
  obtain ⟨m, Γ, Ω, s, h⟩ := h
  exact h m true H (Go.refl s.cells) rfl
theorem dts_one {X : Cx} {E : St → XK} {c : Expr} {f : Den Bool} (h : DT X E c f) : DTs X E [c] f := pts_one h
theorem pg_nm {X : Cx} (i : Nat) {x : Str} {pos : Pos} (hN : X.N.Nodup) (hi : X.N[i]? = some x := by rfl) (hx : Loc X.env.scope x := by first | exact Or.inl rfl | exact Or.inr rfl) (hf : X.fn x = true ∨ X.env.scope.names.lookup x = some .local := by first | exact .inl rfl | exact .inr rfl | assumption) : PG X (.Name x pos) ((Tg.nm i).rd X.K) := pg_name (i := i) hN hi hx hf
theorem pgs_n0 {X : Cx} : PGs X [] (gNames []) := pgs_nil
theorem pgs_n1 {X : Cx} (i : Nat) {is : List Nat} {x : Str} {pos : Pos} {es : List Expr} (hN : X.N.Nodup) (h2 : PGs X es (gNames is)) (hi : X.N[i]? = some x := by rfl) (hx : Loc X.env.scope x := by first | exact Or.inl rfl | exact Or.inr rfl) (hf : X.fn x = true ∨ X.env.scope.names.lookup x = some .local := by first | exact .inl rfl | exact .inr rfl | assumption)
    (hs : (assignEach (.Name x pos :: es) X.env).map (·.2) = assign (.Name x pos) X.env :: (assignEach es X.env).map (·.2) := by rfl) : PGs X (.Name x pos :: es) (gNames (i :: is)) := pgs_cons (pg_name (i := i) hN hi hx hf) h2 hs
theorem pg_tp {X : Cx} {es : List Expr} {is : List Nat} {k : Nat} {pos : Pos} (hc : X.calm = true) (h : PGs X es (gNames is)) (hn : (assignEach es X.env).length = is.length := by rfl) (hst : (assignEach es X.env).findIdx? (·.1) = none := by rfl) : PG X (.Tuple es k pos) ((Tg.tp is).rd X.K) := pg_tup hc h hn hst
/-- between two turns: the list at p is filled, hidden -/
structure LcI (K : PySem.W.Frag) (Γ : Gm) (σ : St) (m1 : Mp) (Ω1 : Om) (H1 : Hp) (p : Addr) (m2 : Mp) (Ω2 : Om) (acc : List D) (ws : List V) (H2 : Hp) : Prop where
  gw : Gw K m1 Ω1 H1 m2 Ω2 H2
  c : CellsOk K m2 Ω2 H2
  hh : ∀ a, m1.hid a → m2.hid a
  hk : ∀ a o, m1.hid a → H1 a = some o → H2 a = some o
  hD : m2.hid p
  eD : H2 p = some (.lst ws)
  racc : RlL K m2 Ω2 H2 acc ws
  sl : Slots K m2 Ω2 H2 Γ σ
theorem LcI.step {K : PySem.W.Frag} {Γ : Gm} {σ : St} {m1 : Mp} {Ω1 : Om} {H1 : Hp} {p : Addr} {m2 m3 : Mp} {Ω2 Ω3 : Om} {acc : List D} {ws : List V} {H2 H3 : Hp}
    (I : LcI K Γ σ m1 Ω1 H1 p m2 Ω2 acc ws H2) (g : Go K m2 Ω2 H2 m3 Ω3 H3) : LcI K Γ σ m1 Ω1 H1 p m3 Ω3 acc ws H3 :=
  ⟨I.gw.trans g.toGw, g.ok, fun a h => g.hs a (I.hh a h), fun a o h e => g.hk a o (I.hh a h) (I.hk a o h e), g.hs p I.hD, g.hk p _ I.hD I.eD, RlL.go g.toGw I.c _ _ I.racc, ((SR.mk I.c I.sl).go g).slots⟩
section
variable {X : Cx} {E : St → XK} {elt tg iter : Expr} {ifs : List Expr} {scope : Scope} {own : List (Str × Nat)} {pos : Pos} {fi : Den (List D)} {t : Tg} {ft : Den Bool} {fe : Den D}
theorem lc_of (hv : ∀ i ∈ t.slots, i ∈ own.map (·.2)) {σ : St} {H : Hp} {Q : VK} (h : tD X.K E (fLc fi t ft fe (own.map (·.2))) σ H Q) :
    tLc (tIt X.K E fi) (t.rd X.K) (tDT X.K E0S ft) (tD X.K E0S fe) (own.map (·.2)) σ H Q := by
  obtain ⟨m, Γ, Ω, s, h⟩ := h
  refine ⟨m, Γ, Ω, s, (Af.bind (R := fun m Ω H ds J => Yields X.K m Ω H ds J) h).imp fun _ _ H1 _ J _ _ _ ⟨m1, Ω1, ds, g1, Y, q⟩ => ?_⟩
  intro D hD
  have c1 := g1.ok
  refine ⟨fun i k H2 => k = ds.length - i ∧ i ≤ ds.length ∧ ∃ (m2 : Mp) (Ω2 : Om) (acc : List Dn.D) (ws : List V), LcI X.K (wipeG Γ (own.map (·.2))) (L2.wipe σ (own.map (·.2))) m1 Ω1 H1 D m2 Ω2 acc ws H2 ∧ Af X.K (Rl X.K) (E σ) Q m1 Ω1 H1 (loopC t.den ft fe (wipeG Γ (own.map (·.2))) (ds.drop i) acc Ω2), ⟨ds.length, rfl, Nat.zero_le _, ?_⟩, ?_⟩
  · have gw := Gw.hide (K := X.K) (o := .lst []) c1 hD
    have sl := (s.go g1).slots.wipe (own.map (·.2))
    exact ⟨m1.hide D, Ω1, [], [], ⟨gw, c1.hide hD, fun a h => .inl h, fun a o _ q => by rw [upd_ne (ne_of_none q hD)]; exact q, .inr rfl, upd_same, by unfold RlL; rfl, ⟨sl.1, fun i d h => let ⟨v, h1, h2⟩ := sl.2 i d h; ⟨v, h1, Rl.go gw c1 d v h2⟩⟩⟩, q⟩
  · rintro i k H2 ⟨rfl, hi, m2, Ω2, acc, ws, I2, q2⟩
    by_cases hlt : i < ds.length
    · right
      have e1 : ds[i]? = some ds[i] := List.getElem?_eq_getElem hlt
      obtain ⟨y1, _⟩ := Y i m2 Ω2 H2 I2.gw I2.c
      obtain ⟨go1, yl⟩ := y1 _ e1
      rw [List.drop_eq_getElem_cons hlt] at q2
      refine ⟨go1, fun H3 => ∃ (m3 : Mp) (Ω3 : Om) (acc : List Dn.D) (ws : List V), LcI X.K (wipeG Γ (own.map (·.2))) (L2.wipe σ (own.map (·.2))) m1 Ω1 H1 D m3 Ω3 acc ws H3 ∧ Af X.K (Rl X.K) (E σ) Q m1 Ω1 H1 (loopC t.den ft fe (wipeG Γ (own.map (·.2))) (ds.drop (i + 1)) acc Ω3), fun H3 z => ⟨ds.length - (i + 1), by omega, rfl, hlt, z⟩, fun x H3 y2 => ?_⟩
      obtain ⟨g3, r3⟩ := yl x H3 y2
      unfold loopC at q2
      cases e2 : t.den ds[i] (wipeG Γ (own.map (·.2))) with
      | none => rw [e2] at q2; exact q2.elim
      | some Γ1 =>
        rw [e2] at q2
        dsimp only at q2
        have sl3 := ((SR.mk I2.c I2.sl).go g3)
        refine Tg.of sl3.slots r3 e2 hv fun σ' sl' ew => ⟨by rw [ew, wipe_wipe], m2, Γ1, Ω2, ⟨g3.ok, sl'⟩, ?_⟩
        cases e3 : ft Γ1 Ω2 with
        | none => rw [e3] at q2; exact q2.elim
        | some z =>
          obtain ⟨rr, Ω3⟩ := z
          rw [e3] at q2
          cases rr with
          | ex e => exact q2.elim
          | ok b =>
            intro m4 b' H4 g4 eb
            subst eb
            have g24 := g3.trans g4
            cases b with
            | false => exact ⟨m4, Ω3, acc, ws, I2.step g24, q2⟩
            | true =>
              show tD X.K E0S fe σ' H4 _
              dsimp only at q2
              refine ⟨m4, Γ1, Ω3, ⟨g4.ok, ((SR.mk g3.ok sl').go g4).slots⟩, ?_⟩
              cases e4 : fe Γ1 Ω3 with
              | none => rw [e4] at q2; exact q2.elim
              | some z =>
                obtain ⟨rr, Ω5⟩ := z
                rw [e4] at q2
                cases rr with
                | ex e => exact q2.elim
                | ok y =>
                  obtain ⟨hz, q2⟩ := Af.guard q2
                  intro m5 v H5 g5 r5
                  have I5 := I2.step (g24.trans g5)
                  have hl : ws.length < sizeLine := by rw [← I5.racc.length]; exact Nat.lt_of_lt_of_le hz (by decide)
                  refine ⟨ws, I5.eD, hl, m5, Ω5, acc ++ [y], ws ++ [v], ?_⟩
                  have gf := Gw.fill (K := X.K) (o := .lst (ws ++ [v])) I5.c I5.hD
                  exact ⟨⟨I5.gw.trans gf, I5.c.fill I5.hD, I5.hh, fun a o h e => by rw [upd_ne (show a ≠ D from fun z => c1.freshH hD (by rw [← z]; exact h))]; exact I5.hk a o h e, I5.hD, upd_same, RlL.go gf I5.c _ _ (I5.racc.append (RlL.one r5)), ⟨I5.sl.1, fun i d h => let ⟨v, h1, h2⟩ := I5.sl.2 i d h; ⟨v, h1, Rl.go gf I5.c d v h2⟩⟩⟩, q2⟩
    · left
      have ei : i = ds.length := by omega
      obtain ⟨_, y2⟩ := Y i m2 Ω2 H2 I2.gw I2.c
      refine ⟨y2 (by omega), ?_⟩
      rw [List.drop_of_length_le (by omega)] at q2
      unfold loopC at q2
      refine q2 (m2.shown m1.hid) _ H2 ⟨I2.gw.toShown I2.hh, I2.c.shown I2.hh, I2.hk, fun _ h => h⟩ ?_
      unfold Rl
      refine ⟨D, ws, rfl, I2.eD, fun l => ?_, RlL.go (Gw.shown I2.hh) I2.c acc ws I2.racc⟩
      rcases l with ⟨n, cc, h1, _⟩ | l
      · exact (I2.c.hl D I2.hD).2 (List.mem_of_getElem? h1)
      · exact c1.freshH hD l
theorem de_lc (hc : X.calm = true) (hN : X.N.Nodup) (hi : DI X E tg iter fi) (ok : BlkOk X.N X.env.scope scope own) (hv : ∀ i ∈ t.slots, i ∈ own.map (·.2))
    (hg : ∀ (s : Shared) (H : Hp) (C : Addr) (cl : List (Str × Addr)) (fp : List Addr), PG (X.blk s H scope (compEnvC scope cl C X.env) fp) tg (t.rd X.K))
    (ht : ∀ (s : Shared) (H : Hp) (C : Addr) (cl : List (Str × Addr)) (fp : List Addr), DTs (X.blk s H scope (compEnvC scope cl C X.env) fp) E0S ifs ft)
    (he : ∀ (s : Shared) (H : Hp) (C : Addr) (cl : List (Str × Addr)) (fp : List Addr), DE (X.blk s H scope (compEnvC scope cl C X.env) fp) E0S elt fe)
    (hs : ∀ x, foldedSetIterable iter X.env x = pure x := by intro _; rfl) : DE X E (.ListComp elt [⟨tg, iter, ifs, 0⟩] scope pos) (fLc fi t ft fe (own.map (·.2))) :=
  PE.mono (pe_lc hc hN hi ok hg ht he hs) fun σ H Q h => lc_of hv h
theorem ds_setLc (i : Nat) {y : Str} {py spos : Pos} (hc : X.calm = true) (hN : X.N.Nodup) (hi : DI X E tg iter fi) (ok : BlkOk X.N X.env.scope scope own) (hv : ∀ i ∈ t.slots, i ∈ own.map (·.2))
    (hg : ∀ (s : Shared) (H : Hp) (C : Addr) (cl : List (Str × Addr)) (fp : List Addr), PG (X.blk s H scope (compEnvC scope cl C X.env) fp) tg (t.rd X.K))
    (ht : ∀ (s : Shared) (H : Hp) (C : Addr) (cl : List (Str × Addr)) (fp : List Addr), DTs (X.blk s H scope (compEnvC scope cl C X.env) fp) E0S ifs ft)
    (he : ∀ (s : Shared) (H : Hp) (C : Addr) (cl : List (Str × Addr)) (fp : List Addr), DE (X.blk s H scope (compEnvC scope cl C X.env) fp) E0S elt fe)
    (hsw : swapsWith (.ListComp elt [⟨tg, iter, ifs, 0⟩] scope pos) (some (.Name y py)) spos.line X.env = pure true)
    (hy : X.N[i]? = some y := by rfl) (hyl : X.env.scope.names.lookup y = some .local := by rfl)
    (hs : ∀ x, foldedSetIterable iter X.env x = pure x := by intro _; rfl) : DS X E (.Assign [.Name y py] (.ListComp elt [⟨tg, iter, ifs, 0⟩] scope pos) spos) (sSet i (fLc fi t ft fe (own.map (·.2)))) :=
  PS.mono (ps_setLc (i := i) hc hN hy hyl hsw hi ok hg ht he hs) fun D σ H h => by
    obtain ⟨m, Γ, Ω, s, h⟩ := h
    refine lc_of (E := E) hv ⟨m, Γ, Ω, s, (AfS.val s.slots s.cells h).imp fun _ _ _ _ _ _ _ _ ⟨m1, Ω1, d, g1, r1, q⟩ => ?_⟩
    exact q m1 _ _ (Go.refl g1.ok) ((s.go g1).slots.set r1)
end
end Dn


set_option Elab.async false
set_option linter.all false
set_option maxRecDepth 100000
/-! DnMore: built-ins, lists that change, dicts. -/
namespace Dn
open PySem L2
abbrev OpA := List D → Om → Option (Rs D × Om)
def CallD (K : PySem.W.Frag) (op : OpA) (r : List V → Hp → VK → Prop) : Prop := ∀ (E : XK) (m : Mp) (Ω : Om) (H : Hp) (ds : List D) (vs : List V) (Q : VK), CellsOk K m Ω H → RlL K m Ω H ds vs → Af K (Rl K) E Q m Ω H (op ds Ω) → r vs H Q
def fCB (op : OpA) (r : Den (List D)) : Den D := bnd r fun ds _ Ω => op ds Ω
section
variable {X : Cx} {E : St → XK} {x : Str} {e : Expr} {es : List Expr} {r : Den (List D)} {p pos : Pos} {op : OpA} {rr : List V → Hp → VK → Prop}
theorem cb_of (hd : CallD X.K op rr) {σ : St} {H : Hp} {Q : VK} (h : tD X.K E (fCB op r) σ H Q) : tCB rr (tDA X.K E r) σ H Q := by
  obtain ⟨m, Γ, Ω, s, h⟩ := h
  refine ⟨m, Γ, Ω, s, (Af.bind (R := RlL X.K) h).imp fun _ _ _ _ _ _ _ _ ⟨m1, Ω1, ds, g1, r1, q⟩ => ?_⟩
  exact hd (E σ) m1 Ω1 _ ds _ Q g1.ok r1 q
theorem de_callB {id : String} (hr : CallR X (.builtin id) rr) (hd : CallD X.K op rr) (hm : X.mg x = none) (hv : bootBuiltins x = some (.builtin id)) (ha : DA X E (e :: es) r) (hg : Gl X x := by rfl) (hn : x ≠ Str.ofString "__name__" := by decide)
    (hdb : (x == ("__debug__" : Str)) = false := by decide) (he : starEach (e :: es) X.env = (false, eval e X.env) :: starEach es X.env := by rfl) (hpl : (backTo pos (starEach es X.env)).any (·.1) = false := by rfl) : DE X E (.Call (.Name x p) (e :: es) [] pos) (fCB op r) :=
  PE.mono (pe_callB hr hg hm hv ha hn hdb he hpl) fun _ _ _ h => cb_of hd h
theorem de_callTy {T : String} (hr : CallR X (.type T) rr) (hd : CallD X.K op rr) (hm : X.mg x = none) (hv : bootBuiltins x = some (.type T)) (ha : DA X E (e :: es) r) (hg : Gl X x := by rfl) (hn : x ≠ Str.ofString "__name__" := by decide)
    (hdb : (x == ("__debug__" : Str)) = false := by decide) (he : starEach (e :: es) X.env = (false, eval e X.env) :: starEach es X.env := by rfl) (hpl : (backTo pos (starEach es X.env)).any (·.1) = false := by rfl) : DE X E (.Call (.Name x p) (e :: es) [] pos) (fCB op r) :=
  PE.mono (pe_callTy hr hg hm hv ha hn hdb he hpl) fun _ _ _ h => cb_of hd h
end
section
variable {K : PySem.W.Frag} {X : Cx}
def callR_or {v : Value} {r r' : List V → Hp → VK → Prop} (h : CallR X v r) (h' : CallR X v r') : CallR X v (fun xs H Q => r xs H Q ∨ r' xs H Q) := fun pins s σ H xs us Q I rv q => q.elim (h pins s σ H xs us Q I rv) (h' pins s σ H xs us Q I rv)
/-- one argument, two arguments -/
def op1 (g : Op1) : OpA := fun ds Ω => match ds with
  | [d] => g d Ω
  | _ => none
def op2 (g : Op2) : OpA := fun ds Ω => match ds with
  | [d, e] => g d e Ω
  | _ => none
theorem op1_of {g : Op1} {E : XK} {m : Mp} {Ω : Om} {H : Hp} {ds : List D} {vs : List V} {Q : VK} (r : RlL K m Ω H ds vs) (q : Af K (Rl K) E Q m Ω H (op1 g ds Ω)) : ∃ d v, ds = [d] ∧ vs = [v] ∧ Rl K m Ω H d v ∧ Af K (Rl K) E Q m Ω H (g d Ω) := by
  match ds, q, r with
  | [d], q, r =>
    obtain ⟨v, ev, h⟩ := r.single
    exact ⟨d, v, rfl, ev, h, q⟩
  | [], q, _ => exact q.elim
  | _ :: _ :: _, q, _ => exact q.elim
theorem op2_of {g : Op2} {E : XK} {m : Mp} {Ω : Om} {H : Hp} {ds : List D} {vs : List V} {Q : VK} (r : RlL K m Ω H ds vs) (q : Af K (Rl K) E Q m Ω H (op2 g ds Ω)) : ∃ d e v w, ds = [d, e] ∧ vs = [v, w] ∧ Rl K m Ω H d v ∧ Rl K m Ω H e w ∧ Af K (Rl K) E Q m Ω H (g d e Ω) := by
  match ds, q, r with
  | [d, e], q, r =>
    obtain ⟨v, w, ev, h1, h2⟩ := r.two
    exact ⟨d, e, v, w, rfl, ev, h1, h2, q⟩
  | [], q, _ => exact q.elim
  | [_], q, _ => exact q.elim
  | _ :: _ :: _ :: _, q, _ => exact q.elim
/-! ### ints -/
def dAbs : OpA := op1 fun d Ω => match d with
  | .int i => some (.ok (.int (if i < 0 then -i else i)), Ω)
  | _ => none
theorem cd_abs : CallD K dAbs (fun xs H Q => ∃ i, xs = [.int i] ∧ Q (.int (if i < 0 then -i else i)) H) := by
  intro E m Ω H ds vs Q c r q
  obtain ⟨d, v, ed, ev, h, q⟩ := op1_of r q
  subst ed ev
  cases d with
  | int i => unfold Rl at h; subst h; exact ⟨i, rfl, q.now c rl_int⟩
  | _ => exact q.elim
def dMax : OpA := op2 fun d e Ω => match d, e with
  | .int i, .int j => some (.ok (.int (if j > i then j else i)), Ω)
  | _, _ => none
def dMin : OpA := op2 fun d e Ω => match d, e with
  | .int i, .int j => some (.ok (.int (if j < i then j else i)), Ω)
  | _, _ => none
theorem cd_max : CallD K dMax (fun xs H Q => ∃ i j, xs = [.int i, .int j] ∧ Q (.int (if j > i then j else i)) H) := by
  intro E m Ω H ds vs Q c r q
  obtain ⟨d, e, v, w, ed, ev, h, h2, q⟩ := op2_of r q
  subst ed ev
  cases d with
  | int i =>
    cases e with
    | int j => unfold Rl at h h2; subst h h2; exact ⟨i, j, rfl, q.now c rl_int⟩
    | _ => exact q.elim
  | _ => exact q.elim
theorem cd_min : CallD K dMin (fun xs H Q => ∃ i j, xs = [.int i, .int j] ∧ Q (.int (if j < i then j else i)) H) := by
  intro E m Ω H ds vs Q c r q
  obtain ⟨d, e, v, w, ed, ev, h, h2, q⟩ := op2_of r q
  subst ed ev
  cases d with
  | int i =>
    cases e with
    | int j => unfold Rl at h h2; subst h h2; exact ⟨i, j, rfl, q.now c rl_int⟩
    | _ => exact q.elim
  | _ => exact q.elim
def dInt : OpA := op1 fun d Ω => match d with
  | .int i => some (.ok (.int i), Ω)
  | .bl b => some (.ok (.int (if b then 1 else 0)), Ω)
  | _ => none
theorem cd_int : CallD K dInt (fun xs H Q => (∃ i, xs = [.int i] ∧ Q (.int i) H) ∨ ∃ k, xs = [.bl k] ∧ Q (.int (if k then 1 else 0)) H) := by
  intro E m Ω H ds vs Q c r q
  obtain ⟨d, v, ed, ev, h, q⟩ := op1_of r q
  subst ed ev
  cases d with
  | int i => unfold Rl at h; subst h; exact .inl ⟨i, rfl, q.now c rl_int⟩
  | bl b => unfold Rl at h; subst h; exact .inr ⟨b, rfl, q.now c rl_int⟩
  | _ => exact q.elim
def dDivmod : OpA := op2 fun d e Ω => match d, e with
  | .int i, .int j => if 0 < j ∧ j < 1073741824 then some (.ok (.tup [.int (i / j), .int (i % j)]), Ω) else none
  | _, _ => none
theorem rl_tupNew {m : Mp} {Ω : Om} {H : Hp} {p : Addr} {ds : List D} {vs : List V} (c : CellsOk K m Ω H) (hp : H p = none) (h : RlL K m Ω H ds vs) : Rl K m Ω (upd H p (.tup vs)) (.tup ds) (.ref p) := by
  unfold Rl
  exact ⟨p, vs, rfl, .inl upd_same, RlL.new c hp h⟩
theorem rlL_2 {m : Mp} {Ω : Om} {H : Hp} {x y : D} {v w : V} (h1 : Rl K m Ω H x v) (h2 : Rl K m Ω H y w) : RlL K m Ω H [x, y] [v, w] := by
  unfold RlL
  exact ⟨v, [w], rfl, h1, RlL.one h2⟩
theorem cd_divmod : CallD K dDivmod (fun xs H Q => ∃ i j, xs = [.int i, .int j] ∧ CDiv i j ∧ ∀ p, H p = none → Q (.ref p) (upd H p (.tup [.int (i / j), .int (i % j)]))) := by
  intro E m Ω H ds vs Q c r q
  obtain ⟨d, e, v, w, ed, ev, h, h2, q⟩ := op2_of r q
  subst ed ev
  cases d with
  | int i =>
    cases e with
    | int j =>
      unfold Rl at h h2
      subst h h2
      obtain ⟨hc, q⟩ := Af.guard q
      exact ⟨i, j, rfl, hc, fun p hp => q m _ _ (Go.new c hp) (rl_tupNew c hp (rlL_2 rl_int rl_int))⟩
    | _ => exact q.elim
  | _ => exact q.elim
/-! ### sequences -/
def dLen : OpA := op1 fun d Ω => match d with
  | .str x => if x.length ≤ 100000 then some (.ok (.int x.length), Ω) else none
  | .tup xs => some (.ok (.int xs.length), Ω)
  | .scr xs => some (.ok (.int xs.length), Ω)
  | d => match asL Ω d with
    | some xs => some (.ok (.int xs.length), Ω)
    | none => none
theorem cd_len : CallD K dLen (fun xs H Q => ∃ x n, xs = [x] ∧ LenV K x H n ∧ Q (.int n) H) := by
  intro E m Ω H ds vs Q c r q
  obtain ⟨d, v, ed, ev, h, q⟩ := op1_of r q
  subst ed ev
  have gen : ∀ d', d' = d → Af K (Rl K) E Q m Ω H (match asL Ω d' with | some xs => some (.ok (.int xs.length), Ω) | none => none) → ∃ x n, [v] = [x] ∧ LenV K x H n ∧ Q (.int n) H := fun d' e qq => by
    clear q
    subst e
    cases e1 : asL Ω d' with
    | none => rw [e1] at qq; exact qq.elim
    | some xs =>
      rw [e1] at qq
      obtain ⟨a, ws, ea, h1, h2⟩ := asL_ok c h e1
      subst ea
      exact ⟨.ref a, ws.length, rfl, .inl ⟨ws, SqL.of h1, rfl⟩, by rw [← h2.length]; exact qq.now c rl_int⟩
  cases d with
  | str x =>
    unfold Rl at h
    subst h
    obtain ⟨hz, q⟩ := Af.guard q
    exact ⟨.str x, x.length, rfl, ⟨sz hz, rfl⟩, q.now c rl_int⟩
  | tup xs =>
    unfold Rl at h
    obtain ⟨a, ws, ea, h1, h2⟩ := h
    subst ea
    exact ⟨.ref a, ws.length, rfl, .inr ⟨ws, h1.sq, rfl⟩, by rw [← h2.length]; exact q.now c rl_int⟩
  | scr xs =>
    unfold Rl at h
    obtain ⟨a, ea, h1⟩ := h
    subst ea
    exact ⟨.ref a, (xs.map V.int).length, rfl, .inl ⟨_, h1.sq, rfl⟩, by rw [List.length_map]; exact q.now c rl_int⟩
  | lst xs => exact gen _ rfl q
  | ref n => exact gen _ rfl q
  | _ => exact q.elim
/-- tuple(x), list(x): new ones, pure -/
def dTuple : OpA := op1 fun d Ω => match d with
  | .tup xs => some (.ok (.tup xs), Ω)
  | d => match asL Ω d with
    | some xs => some (.ok (.tup xs), Ω)
    | none => none
theorem cd_tuple : CallD K dTuple (fun xs H Q => ∃ p ys, xs = [.ref p] ∧ ((SqL K H p ys ∧ ∀ l, H l = none → Q (.ref l) (upd H l (.tup ys))) ∨ (SqT K H p ys ∧ Q (.ref p) H))) := by
  intro E m Ω H ds vs Q c r q
  obtain ⟨d, v, ed, ev, h, q⟩ := op1_of r q
  subst ed ev
  have gen : ∀ d', d' = d → Af K (Rl K) E Q m Ω H (match asL Ω d' with | some xs => some (.ok (.tup xs), Ω) | none => none) → ∃ p ys, [v] = [.ref p] ∧ ((SqL K H p ys ∧ ∀ l, H l = none → Q (.ref l) (upd H l (.tup ys))) ∨ (SqT K H p ys ∧ Q (.ref p) H)) := fun d' e qq => by
    clear q
    subst e
    cases e1 : asL Ω d' with
    | none => rw [e1] at qq; exact qq.elim
    | some xs =>
      rw [e1] at qq
      obtain ⟨a, ws, ea, h1, h2⟩ := asL_ok c h e1
      subst ea
      exact ⟨a, ws, rfl, .inl ⟨SqL.of h1, fun l hl => qq m _ _ (Go.new c hl) (rl_tupNew c hl h2)⟩⟩
  cases d with
  | tup xs =>
    have h0 := h
    unfold Rl at h
    obtain ⟨a, ws, ea, h1, h2⟩ := h
    subst ea
    exact ⟨a, ws, rfl, .inr ⟨h1.sq, q.now c h0⟩⟩
  | lst xs => exact gen _ rfl q
  | ref n => exact gen _ rfl q
  | _ => exact q.elim
def dList : OpA := op1 fun d Ω => match d with
  | .tup xs => some (.ok (.lst xs), Ω)
  | d => match asL Ω d with
    | some xs => some (.ok (.lst xs), Ω)
    | none => none
theorem cd_list : CallD K dList (fun xs H Q => ∃ p ys, xs = [.ref p] ∧ (SqL K H p ys ∨ SqT K H p ys) ∧ ∀ l, H l = none → Q (.ref l) (upd H l (.lst ys))) := by
  intro E m Ω H ds vs Q c r q
  obtain ⟨d, v, ed, ev, h, q⟩ := op1_of r q
  subst ed ev
  have gen : ∀ d', d' = d → Af K (Rl K) E Q m Ω H (match asL Ω d' with | some xs => some (.ok (.lst xs), Ω) | none => none) → ∃ p ys, [v] = [.ref p] ∧ (SqL K H p ys ∨ SqT K H p ys) ∧ ∀ l, H l = none → Q (.ref l) (upd H l (.lst ys)) := fun d' e qq => by
    clear q
    subst e
    cases e1 : asL Ω d' with
    | none => rw [e1] at qq; exact qq.elim
    | some xs =>
      rw [e1] at qq
      obtain ⟨a, ws, ea, h1, h2⟩ := asL_ok c h e1
      subst ea
      exact ⟨a, ws, rfl, .inl (SqL.of h1), fun l hl => qq m _ _ (Go.new c hl) (Rl.newL c hl h2)⟩
  cases d with
  | tup xs =>
    unfold Rl at h
    obtain ⟨a, ws, ea, h1, h2⟩ := h
    subst ea
    exact ⟨a, ws, rfl, .inr h1.sq, fun l hl => q m _ _ (Go.new c hl) (Rl.newL c hl h2)⟩
  | lst xs => exact gen _ rfl q
  | ref n => exact gen _ rfl q
  | _ => exact q.elim
/-! ### lists of ints, of truths -/
def asInts : List D → Option (List Int)
  | [] => some []
  | .int i :: r => match asInts r with
    | some l => some (i :: l)
    | none => none
  | _ :: _ => none
theorem asInts_ok {m : Mp} {Ω : Om} {H : Hp} : ∀ {ds : List D} {vs : List V} {ns : List Int}, RlL K m Ω H ds vs → asInts ds = some ns → vs = ns.map V.int
  | [], vs, ns, r, e => by unfold RlL at r; unfold asInts at e; cases e; exact r
  | d :: ds, vs, ns, r, e => by
    unfold RlL at r
    obtain ⟨v, w, ev, h1, h2⟩ := r
    cases d with
    | int i =>
      unfold asInts at e
      cases e1 : asInts ds with
      | none => rw [e1] at e; cases e
      | some l =>
        rw [e1] at e
        cases e
        unfold Rl at h1
        rw [ev, h1, asInts_ok h2 e1]
        rfl
    | _ => unfold asInts at e; cases e
theorem rlL_ints {m : Mp} {Ω : Om} {H : Hp} : ∀ (ns : List Int), RlL K m Ω H (ns.map D.int) (ns.map V.int)
  | [] => by unfold RlL; rfl
  | n :: ns => by
    show RlL K m Ω H (.int n :: ns.map D.int) (.int n :: ns.map V.int)
    unfold RlL
    exact ⟨_, _, rfl, rl_int, rlL_ints ns⟩
def asBools : List D → Option (List Bool)
  | [] => some []
  | .bl i :: r => match asBools r with
    | some l => some (i :: l)
    | none => none
  | _ :: _ => none
theorem asBools_ok {m : Mp} {Ω : Om} {H : Hp} : ∀ {ds : List D} {vs : List V} {ns : List Bool}, RlL K m Ω H ds vs → asBools ds = some ns → vs = ns.map V.bl
  | [], vs, ns, r, e => by unfold RlL at r; unfold asBools at e; cases e; exact r
  | d :: ds, vs, ns, r, e => by
    unfold RlL at r
    obtain ⟨v, w, ev, h1, h2⟩ := r
    cases d with
    | bl i =>
      unfold asBools at e
      cases e1 : asBools ds with
      | none => rw [e1] at e; cases e
      | some l =>
        rw [e1] at e
        cases e
        unfold Rl at h1
        rw [ev, h1, asBools_ok h2 e1]
        rfl
    | _ => unfold asBools at e; cases e
/-- an operation on a list of ints, of truths -/
def onInts (g : List Int → Om → Option (Rs D × Om)) : OpA := op1 fun d Ω => match asL Ω d with
  | some xs => match asInts xs with
    | some ns => g ns Ω
    | none => none
  | none => none
def onBools (g : List Bool → Om → Option (Rs D × Om)) : OpA := op1 fun d Ω => match asL Ω d with
  | some xs => match asBools xs with
    | some ns => g ns Ω
    | none => none
  | none => none
theorem onInts_of {g : List Int → Om → Option (Rs D × Om)} {E : XK} {m : Mp} {Ω : Om} {H : Hp} {ds : List D} {vs : List V} {Q : VK} (c : CellsOk K m Ω H) (r : RlL K m Ω H ds vs) (q : Af K (Rl K) E Q m Ω H (onInts g ds Ω)) :
    ∃ a ns, vs = [.ref a] ∧ H a = some (.lst (ns.map V.int)) ∧ Af K (Rl K) E Q m Ω H (g ns Ω) := by
  obtain ⟨d, v, ed, ev, h, q1⟩ := op1_of r q
  clear q
  subst ed ev
  cases e1 : asL Ω d with
  | none => rw [e1] at q1; exact q1.elim
  | some xs =>
    rw [e1] at q1
    obtain ⟨a, ws, ea, h1, h2⟩ := asL_ok c h e1
    subst ea
    dsimp only at q1
    cases e2 : asInts xs with
    | none => rw [e2] at q1; exact q1.elim
    | some ns =>
      rw [e2] at q1
      rw [asInts_ok h2 e2] at h1
      exact ⟨a, ns, rfl, h1, q1⟩
theorem onBools_of {g : List Bool → Om → Option (Rs D × Om)} {E : XK} {m : Mp} {Ω : Om} {H : Hp} {ds : List D} {vs : List V} {Q : VK} (c : CellsOk K m Ω H) (r : RlL K m Ω H ds vs) (q : Af K (Rl K) E Q m Ω H (onBools g ds Ω)) :
    ∃ a ns, vs = [.ref a] ∧ H a = some (.lst (ns.map V.bl)) ∧ Af K (Rl K) E Q m Ω H (g ns Ω) := by
  obtain ⟨d, v, ed, ev, h, q1⟩ := op1_of r q
  clear q
  subst ed ev
  cases e1 : asL Ω d with
  | none => rw [e1] at q1; exact q1.elim
  | some xs =>
    rw [e1] at q1
    obtain ⟨a, ws, ea, h1, h2⟩ := asL_ok c h e1
    subst ea
    dsimp only at q1
    cases e2 : asBools xs with
    | none => rw [e2] at q1; exact q1.elim
    | some ns =>
      rw [e2] at q1
      rw [asBools_ok h2 e2] at h1
      exact ⟨a, ns, rfl, h1, q1⟩
def dSum : OpA := onInts fun ns Ω => some (.ok (.int ns.sum), Ω)
def dAll : OpA := onBools fun bs Ω => some (.ok (.bl (bs.all id)), Ω)
def dAny : OpA := onBools fun bs Ω => some (.ok (.bl (bs.any id)), Ω)
theorem cd_sum : CallD K dSum (rSum K) := by
  intro E m Ω H ds vs Q c r q
  obtain ⟨a, ns, ev, h, q⟩ := onInts_of c r q
  exact ⟨a, ns, ev, SqL.of h, q.now c rl_int⟩
theorem cd_all : CallD K dAll (rAll K) := by
  intro E m Ω H ds vs Q c r q
  obtain ⟨a, ns, ev, h, q⟩ := onBools_of c r q
  exact ⟨a, ns, ev, SqL.of h, q.now c rl_bl⟩
theorem cd_any : CallD K dAny (rAny K) := by
  intro E m Ω H ds vs Q c r q
  obtain ⟨a, ns, ev, h, q⟩ := onBools_of c r q
  exact ⟨a, ns, ev, SqL.of h, q.now c rl_bl⟩
/-! ### sorted -/
def sortI (ns : List Int) : List Int := ns.mergeSort (fun a b => decide (a ≤ b))
theorem sortI_perm (ns : List Int) : (sortI ns).Perm ns := List.mergeSort_perm ns _
theorem sortI_le (ns : List Int) : (sortI ns).Pairwise (· ≤ ·) := by
  have h := List.pairwise_mergeSort (le := fun (a b : Int) => decide (a ≤ b)) (fun a b c h1 h2 => by simp at *; omega) (fun a b => by simp; omega) ns
  exact h.imp fun h => by simpa using h
theorem sorted_unique : ∀ {xs ys : List Int}, xs.Perm ys → xs.Pairwise (· ≤ ·) → ys.Pairwise (· ≤ ·) → xs = ys
  | [], ys, p, _, _ => (List.Perm.nil_eq p)
  | x :: xs, ys, p, h1, h2 => by
    cases ys with
    | nil => exact absurd p.length_eq (by simp)
    | cons y ys =>
      have hx : x ∈ y :: ys := p.subset (List.mem_cons_self ..)
      have hy : y ∈ x :: xs := p.symm.subset (List.mem_cons_self ..)
      have e : x = y := by
        rw [List.pairwise_cons] at h1 h2
        rcases List.mem_cons.mp hx with e | hx
        · exact e
        · rcases List.mem_cons.mp hy with e | hy
          · exact e.symm
          · have := h1.1 y hy
            have := h2.1 x hx
            omega
      subst e
      rw [sorted_unique (List.Perm.cons_inv p) (List.pairwise_cons.mp h1).2 (List.pairwise_cons.mp h2).2]
def dSortI : OpA := onInts fun ns Ω => some (.ok (.lst ((sortI ns).map D.int)), Ω)
theorem cd_sortI : CallD K dSortI (rSortedI K) := by
  intro E m Ω H ds vs Q c r q
  obtain ⟨a, ns, ev, h, q⟩ := onInts_of c r q
  refine ⟨a, ns, ev, SqL.of h, fun ns' p hp hs hn => ?_⟩
  rw [sorted_unique (hp.trans (sortI_perm ns).symm) hs (sortI_le ns)]
  exact q m _ _ (Go.new c hn) (Rl.newL c hn (rlL_ints _))
end
end Dn


set_option Elab.async false
set_option linter.all false
set_option maxRecDepth 100000
/-! DnDict: lists that change, dicts. -/
namespace Dn
open PySem L2
/-! ### methods of lists that are cells -/
abbrev OpM := D → List D → Om → Option (Rs D × Om)
/-- the n-th cell, a list -/
def cellL (Ω : Om) (n : Nat) : Option (List D) := match Ω[n]? with
  | some (.lst xs) => some xs
  | _ => none
theorem cellL_some {Ω : Om} {n : Nat} {xs : List D} (h : cellL Ω n = some xs) : Ω[n]? = some (.lst xs) := by
  unfold cellL at h
  cases e : Ω[n]? with
  | none => rw [e] at h; cases h
  | some x =>
    rw [e] at h
    cases x with
    | lst ys => cases h; rfl
    | _ => cases h
section
variable {K : PySem.W.Frag} {m : Mp} {Ω : Om} {H : Hp}
theorem cellL_ok (c : CellsOk K m Ω H) {n : Nat} {v : V} {xs : List D} (r : Rl K m Ω H (.ref n) v) (h : cellL Ω n = some xs) : ∃ a vs, v = .ref a ∧ m.l[n]? = some a ∧ Ω[n]? = some (.lst xs) ∧ H a = some (.lst vs) ∧ RlL K m Ω H xs vs := by
  have e := cellL_some h
  unfold Rl at r
  obtain ⟨a, ev, ha⟩ := r
  obtain ⟨vs, h1, h2⟩ := c.at_ n _ a e ha
  exact ⟨a, vs, ev, ha, e, h1, h2⟩
/-- a list cell is given other items -/
theorem Go.setL (c : CellsOk K m Ω H) {n : Nat} {a : Addr} {xs ys : List D} {ws : List V} (ha : m.l[n]? = some a) (e : Ω[n]? = some (.lst xs)) (r : RlL K m Ω H ys ws) : Go K m Ω H m (Ω.set n (.lst ys)) (upd H a (.lst ws)) :=
  Go.set c ha e (fun z => by cases z) fun g => ⟨ws, upd_same, RlL.go g c ys ws r⟩
end
/-! ### dicts as data -/
def valD (kvs : List (Key × D)) (k : Key) : Option D := (kvs.find? fun kv => decide (kv.1 = k)).map (·.2)
def putD (kvs : List (Key × D)) (k : Key) (v : D) : List (Key × D) :=
  if (kvs.any fun kv => decide (kv.1 = k)) = true then kvs.map (fun kv => if kv.1 = k then (kv.1, v) else kv) else kvs ++ [(k, v)]
def mergeD (kvs more : List (Key × D)) : List (Key × D) := more.foldl (fun acc kv => putD acc kv.1 kv.2) kvs
def keyD : D → Option Key
  | .int i => some (.inl i)
  | .str x => some (.inr x)
  | _ => none
def unkey : Key → D
  | .inl i => .int i
  | .inr x => .str x
section
variable {K : PySem.W.Frag} {m : Mp} {Ω : Om} {H : Hp}
theorem keyD_ok {d : D} {v : V} {k : Key} (r : Rl K m Ω H d v) (e : keyD d = some k) : v = kV k := by
  cases d with
  | int i => cases e; unfold Rl at r; exact r
  | str i => cases e; unfold Rl at r; exact r
  | _ => cases e
theorem rl_unkey (k : Key) : Rl K m Ω H (unkey k) (kV k) := by
  cases k with
  | inl i => exact rl_int
  | inr x => show Rl K m Ω H (.str x) (.str x); unfold Rl; rfl
theorem RlK.length : ∀ {ds : List (Key × D)} {vs : List (Key × V)}, RlK K m Ω H ds vs → ds.length = vs.length
  | [], vs, h => by unfold RlK at h; rw [h]; rfl
  | (k, d) :: ds, vs, h => by
    unfold RlK at h
    obtain ⟨v, r, e, _, h2⟩ := h
    rw [e, List.length_cons, List.length_cons, RlK.length h2]
theorem RlK.keys : ∀ {ds : List (Key × D)} {vs : List (Key × V)}, RlK K m Ω H ds vs → ds.map (·.1) = vs.map (·.1)
  | [], vs, h => by unfold RlK at h; rw [h]; rfl
  | (k, d) :: ds, vs, h => by
    unfold RlK at h
    obtain ⟨v, r, e, _, h2⟩ := h
    rw [e, List.map_cons, List.map_cons, RlK.keys h2]
theorem RlK.val : ∀ {ds : List (Key × D)} {vs : List (Key × V)} {k : Key}, RlK K m Ω H ds vs → (∃ d v, valD ds k = some d ∧ valV vs k = some v ∧ Rl K m Ω H d v) ∨ (valD ds k = none ∧ valV vs k = none)
  | [], vs, k, h => by unfold RlK at h; subst h; exact .inr ⟨rfl, rfl⟩
  | (k', d) :: ds, vs, k, h => by
    unfold RlK at h
    obtain ⟨v, r, e, h1, h2⟩ := h
    subst e
    by_cases hk : k' = k
    · exact .inl ⟨d, v, by simp [valD, List.find?_cons, hk], by simp [valV, List.find?_cons, hk], h1⟩
    · have e1 : valD ((k', d) :: ds) k = valD ds k := by simp [valD, List.find?_cons, hk]
      have e2 : valV ((k', v) :: r) k = valV r k := valV_neg hk
      rw [e1, e2]
      exact RlK.val h2
theorem RlK.append : ∀ {ds es : List (Key × D)} {vs ws : List (Key × V)}, RlK K m Ω H ds vs → RlK K m Ω H es ws → RlK K m Ω H (ds ++ es) (vs ++ ws)
  | [], es, vs, ws, h, h' => by unfold RlK at h; subst h; exact h'
  | (k, x) :: ds, es, vs, ws, h, h' => by
    unfold RlK at h
    obtain ⟨v, r, e1, h1, h2⟩ := h
    subst e1
    show RlK K m Ω H ((k, x) :: (ds ++ es)) ((k, v) :: (r ++ ws))
    unfold RlK
    exact ⟨v, _, rfl, h1, h2.append h'⟩
theorem RlK.put {ds : List (Key × D)} {vs : List (Key × V)} {k : Key} {d : D} {v : V} (h : RlK K m Ω H ds vs) (r : Rl K m Ω H d v) : RlK K m Ω H (putD ds k d) (putK vs k v) := by
  have ha : (ds.any fun kv => decide (kv.1 = k)) = (vs.any fun kv => decide (kv.1 = k)) := by
    have := h.keys
    have e1 : (ds.any fun kv => decide (kv.1 = k)) = ((ds.map (·.1)).any fun x => decide (x = k)) := by rw [List.any_map]; rfl
    have e2 : (vs.any fun kv => decide (kv.1 = k)) = ((vs.map (·.1)).any fun x => decide (x = k)) := by rw [List.any_map]; rfl
    rw [e1, e2, this]
  unfold putD putK
  rw [ha]
  split
  · have key : ∀ {ds : List (Key × D)} {vs : List (Key × V)}, RlK K m Ω H ds vs → RlK K m Ω H (ds.map fun kv => if kv.1 = k then (kv.1, d) else kv) (vs.map fun kv => if kv.1 = k then (kv.1, v) else kv) := by
      intro ds
      induction ds with
      | nil => intro vs h; unfold RlK at h; subst h; unfold RlK; rfl
      | cons p ds ih =>
        intro vs h
        obtain ⟨k', x⟩ := p
        unfold RlK at h
        obtain ⟨w, r', e, h1, h2⟩ := h
        subst e
        rw [List.map_cons, List.map_cons]
        by_cases hk : k' = k
        · simp only [hk, if_true]
          unfold RlK
          exact ⟨v, _, rfl, r, ih h2⟩
        · simp only [hk, if_false]
          unfold RlK
          exact ⟨w, _, rfl, h1, ih h2⟩
    exact key h
  · refine h.append ?_
    unfold RlK
    exact ⟨v, [], rfl, r, by unfold RlK; rfl⟩
theorem RlK.merge : ∀ {more : List (Key × D)} {ws : List (Key × V)} {ds : List (Key × D)} {vs : List (Key × V)}, RlK K m Ω H more ws → RlK K m Ω H ds vs → RlK K m Ω H (mergeD ds more) (mergeK vs ws)
  | [], ws, ds, vs, h, h' => by unfold RlK at h; subst h; exact h'
  | (k, d) :: more, ws, ds, vs, h, h' => by
    unfold RlK at h
    obtain ⟨v, r, e, h1, h2⟩ := h
    subst e
    show RlK K m Ω H (mergeD (putD ds k d) more) (mergeK (putK vs k v) r)
    exact RlK.merge h2 (h'.put h1)
/-- a dict, pure or a cell -/
def asK (Ω : Om) : D → Option (List (Key × D))
  | .dct kvs => some kvs
  | .ref n => match Ω[n]? with
    | some (.dct kvs) => some kvs
    | _ => none
  | _ => none
theorem asK_ok (c : CellsOk K m Ω H) {d : D} {v : V} {kvs : List (Key × D)} (r : Rl K m Ω H d v) (e : asK Ω d = some kvs) : ∃ a ws, v = .ref a ∧ Rd H a (.dK ws) ∧ RlK K m Ω H kvs ws := by
  cases d with
  | dct ys =>
    unfold Rl at r
    cases (Option.some.inj e)
    obtain ⟨a, vs, e1, h1, _, h2⟩ := r
    exact ⟨a, vs, e1, h1, h2⟩
  | ref n =>
    unfold Rl at r
    obtain ⟨a, e1, h1⟩ := r
    unfold asK at e
    dsimp only at e
    cases q : Ω[n]? with
    | none => rw [q] at e; cases e
    | some x =>
      rw [q] at e
      cases x with
      | dct ys =>
        cases (Option.some.inj e)
        obtain ⟨vs, h2, h3⟩ := c.at_ n _ a q h1
        exact ⟨a, vs, e1, .inl h2, h3⟩
      | _ => cases e
  | _ => cases e
/-- d[k] of a dict -/
def onKey (g : Option D → Om → Option (Rs D × Om)) : Op2 := fun x y Ω => match asK Ω x with
  | some kvs => match keyD y with
    | some k => g (valD kvs k) Ω
    | none => none
  | none => none
theorem onKey_of {g : Option D → Om → Option (Rs D × Om)} {E : XK} {x y : D} {v u : V} {Q : VK} (c : CellsOk K m Ω H) (rx : Rl K m Ω H x v) (ry : Rl K m Ω H y u) (q : Af K (Rl K) E Q m Ω H (onKey g x y Ω)) :
    ∃ a o, v = .ref a ∧ IsD H a ∧ DGet H a u o ∧ ((∃ d w, o = some w ∧ Rl K m Ω H d w ∧ Af K (Rl K) E Q m Ω H (g (some d) Ω)) ∨ (o = none ∧ Af K (Rl K) E Q m Ω H (g none Ω))) := by
  unfold onKey at q
  cases e1 : asK Ω x with
  | none => rw [e1] at q; exact q.elim
  | some kvs =>
    rw [e1] at q
    dsimp only at q
    cases e2 : keyD y with
    | none => rw [e2] at q; exact q.elim
    | some k =>
      rw [e2] at q
      dsimp only at q
      obtain ⟨a, ws, ev, h1, h2⟩ := asK_ok c rx e1
      have hu := keyD_ok ry e2
      refine ⟨a, valV ws k, ev, .inl ⟨ws, h1⟩, .inl ⟨ws, k, h1, hu, rfl⟩, ?_⟩
      rcases h2.val (k := k) with ⟨d, w, z1, z2, z3⟩ | ⟨z1, z2⟩
      · rw [z1] at q
        exact .inl ⟨d, w, z2, z3, q⟩
      · rw [z1] at q
        exact .inr ⟨z2, q⟩
def dGet : Op2 := onKey fun o Ω => match o with
  | some d => some (.ok d, Ω)
  | none => none
def dGetN : Op2 := onKey fun o Ω => some (.ok (o.getD .non), Ω)
def dHas : Op2 := onKey fun o Ω => some (.ok (.bl o.isSome), Ω)
def dHasNo : Op2 := onKey fun o Ω => some (.ok (.bl (!o.isSome)), Ω)
end
section
variable {X : Cx} {E : St → XK} {a b e o : Expr} {f g : Den D} {pos : Pos} {k : Nat}
theorem hu_of' {A : Around} (hr : RoomG k A) : A.units + 1 < cLine := hu_of hr.toRoom
theorem de_dget (hr : RoomG k X.A) (ha : DE X E a f) (hb : DE X E b g) (hp : NoSl b := by intro _ _; rfl) : DE X E (.Subscript a b pos) (fBin dGet f g) := PE.mono (pe_dget (hu_of hr.toRoom) ha hb hp) fun σ H Q h => by
  obtain ⟨m, Γ, Ω, s, h⟩ := h
  refine ⟨m, Γ, Ω, s, (Af.bind (R := Rl X.K) h).imp fun _ _ _ _ _ _ _ _ ⟨m1, Ω1, x, g1, r1, q⟩ => ⟨m1, Γ, Ω1, s.go g1, (Af.bind (R := Rl X.K) q).imp fun _ _ _ _ _ _ _ _ ⟨m2, Ω2, y, g2, r2, q2⟩ => ?_⟩⟩
  obtain ⟨a, o, ev, _, hg, z⟩ := onKey_of g2.ok (Rl.go g2.toGw g1.ok x _ r1) r2 q2
  rcases z with ⟨d, w, eo, hd, q3⟩ | ⟨eo, q3⟩
  · subst eo
    exact ⟨a, w, ev, hg, q3.now g2.ok hd⟩
  · exact q3.elim
/-- k in d, k not in d: the key first -/
def fIn (f g : Den D) : Den D := bnd f fun y => bnd g fun x _ Ω => dHas x y Ω
def fNotIn (f g : Den D) : Den D := bnd f fun y => bnd g fun x _ Ω => dHasNo x y Ω
theorem tIn_of {σ : St} {H : Hp} {Q : VK} (h : tD X.K E (fIn f g) σ H Q) : tDIn (tD X.K E f) (tD X.K E g) σ H Q := by
  obtain ⟨m, Γ, Ω, s, h⟩ := h
  refine ⟨m, Γ, Ω, s, (Af.bind (R := Rl X.K) h).imp fun _ _ _ _ _ _ _ _ ⟨m1, Ω1, y, g1, r1, q⟩ => ⟨m1, Γ, Ω1, s.go g1, (Af.bind (R := Rl X.K) q).imp fun _ _ _ _ _ _ _ _ ⟨m2, Ω2, x, g2, r2, q2⟩ => ?_⟩⟩
  obtain ⟨a, o, ev, _, hg, z⟩ := onKey_of g2.ok r2 (Rl.go g2.toGw g1.ok y _ r1) q2
  refine ⟨a, o, ev, hg, ?_⟩
  rcases z with ⟨d, w, eo, hd, q3⟩ | ⟨eo, q3⟩
  · subst eo; exact q3.now g2.ok rl_bl
  · subst eo; exact q3.now g2.ok rl_bl
theorem tNotIn_of {σ : St} {H : Hp} {Q : VK} (h : tD X.K E (fNotIn f g) σ H Q) : tDNotIn (tD X.K E f) (tD X.K E g) σ H Q := by
  obtain ⟨m, Γ, Ω, s, h⟩ := h
  refine ⟨m, Γ, Ω, s, (Af.bind (R := Rl X.K) h).imp fun _ _ _ _ _ _ _ _ ⟨m1, Ω1, y, g1, r1, q⟩ => ⟨m1, Γ, Ω1, s.go g1, (Af.bind (R := Rl X.K) q).imp fun _ _ _ _ _ _ _ _ ⟨m2, Ω2, x, g2, r2, q2⟩ => ?_⟩⟩
  obtain ⟨a, o, ev, _, hg, z⟩ := onKey_of g2.ok r2 (Rl.go g2.toGw g1.ok y _ r1) q2
  refine ⟨a, o, ev, hg, ?_⟩
  rcases z with ⟨d, w, eo, hd, q3⟩ | ⟨eo, q3⟩
  · subst eo; exact q3.now g2.ok rl_bl
  · subst eo; exact q3.now g2.ok rl_bl
theorem de_in (hr : RoomG k X.A) (ha : DE X E a f) (hb : DE X E b g) (hm : behindInMarks .In b = false := by rfl) : DE X E (.Compare a [.In] [b] pos) (fIn f g) := PE.mono (pe_cmp (pc_din (hu_of hr.toRoom) ha hb) hm) fun _ _ _ h => tIn_of h
theorem de_notIn (hr : RoomG k X.A) (ha : DE X E a f) (hb : DE X E b g) (hm : behindInMarks .NotIn b = false := by rfl) : DE X E (.Compare a [.NotIn] [b] pos) (fNotIn f g) := PE.mono (pe_cmp (pc_dnotin (hu_of hr.toRoom) ha hb) hm) fun _ _ _ h => tNotIn_of h
theorem dt_in (hr : RoomG k X.A) (ha : DE X E a f) (hb : DE X E b g) (hm : behindInMarks .In b = false := by rfl) : DT X E (.Compare a [.In] [b] pos) (fT (fIn f g)) := PT.mono (pt_cmp (pc_din (hu_of hr.toRoom) ha hb) hm) fun _ _ _ h => by
  have h2 := tT_of h
  exact tIn_of h2
theorem dt_notIn (hr : RoomG k X.A) (ha : DE X E a f) (hb : DE X E b g) (hm : behindInMarks .NotIn b = false := by rfl) : DT X E (.Compare a [.NotIn] [b] pos) (fT (fNotIn f g)) := PT.mono (pt_cmp (pc_dnotin (hu_of hr.toRoom) ha hb) hm) fun _ _ _ h => by
  have h2 := tT_of h
  exact tNotIn_of h2
/-- {}: a cell -/
def fDnew : Den D := fun _ Ω => some (.ok (.ref Ω.length), Ω ++ [.dct []])
theorem de_dnew : DE X E (.Dict [] [] pos) fDnew := PE.mono pe_dnewK fun σ H Q h => by
  obtain ⟨m, Γ, Ω, s, h⟩ := h
  intro p hp
  exact h (m.add p) _ _ (Go.cell s.cells hp fun g => ⟨[], upd_same, by unfold RlK; rfl⟩) (rl_last s.cells)
end
/-! ### methods of built-in objects -/
/-- chk: what is asked of the receiver ahead of the arguments -/
def fMt (chk : D → Om → Bool) (op : OpM) (f : Den D) (r : Den (List D)) : Den D := bnd f fun x Γ Ω => if chk x Ω = true then bR (r Γ Ω) fun ds Ω1 => op x ds Ω1 else none
def fMt0 (chk : D → Om → Bool) (op : OpM) (f : Den D) : Den D := bnd f fun x _ Ω => if chk x Ω = true then op x [] Ω else none
def MthD (K : PySem.W.Frag) (op : OpM) (rr : V → List V → Hp → VK → Prop) : Prop := ∀ (E : XK) (m : Mp) (Ω : Om) (H : Hp) (x : D) (v : V) (ds : List D) (vs : List V) (Q : VK), CellsOk K m Ω H → Rl K m Ω H x v → RlL K m Ω H ds vs → Af K (Rl K) E Q m Ω H (op x ds Ω) → rr v vs H Q
def RcvD (K : PySem.W.Frag) (T : String) (chk : D → Om → Bool) : Prop := ∀ (m : Mp) (Ω : Om) (H : Hp) (x : D) (v : V), CellsOk K m Ω H → Rl K m Ω H x v → chk x Ω = true → tyV K T v H
section
variable {X : Cx} {E : St → XK} {o e : Expr} {es : List Expr} {f : Den D} {r : Den (List D)} {apos cpos : Pos} {op : OpM} {rr : V → List V → Hp → VK → Prop} {chk : D → Om → Bool} {name : Str} {T id : String}
theorem de_bm (pa : PlainAttrs T) (slot : Slot T name id) (hty : typeOf (.builtin id) = pure (.type "method_descriptor")) (hm : MtR X id rr) (hc : RcvD X.K T chk) (hd : MthD X.K op rr) (ho : DE X E o f) (ha : DA X E (e :: es) r)
    (hbase : attributeBase o name X.env (eval o X.env) = eval o X.env := by rfl)
    (hfew : ((backTo cpos (starEach (e :: es) X.env)).all (fun x => !x.1) && (backToKw cpos (keywordEach [] X.env)).all (fun x => x.1.isSome)
      && decide ((e :: es).length + ([] : List Keyword).length + (if ([] : List Keyword).isEmpty then 0 else 1) < 30)) = true := by rfl)
    (hline : (apos.endLine == cpos.line) = true := by rfl) (hs : starEach (e :: es) X.env = (false, eval e X.env) :: starEach es X.env := by rfl) (hplain : (backTo cpos (starEach es X.env)).any (·.1) = false := by rfl) :
    DE X E (.Call (.Attribute o name apos) (e :: es) [] cpos) (fMt chk op f r) := PE.mono (pe_bm pa slot hty hm ho ha hbase hfew hline hs hplain) fun σ H Q h => by
  obtain ⟨m, Γ, Ω, s, h⟩ := h
  refine ⟨m, Γ, Ω, s, (Af.bind (R := Rl X.K) h).imp fun _ _ _ _ _ _ _ _ ⟨m1, Ω1, x, g1, r1, q⟩ => ?_⟩
  obtain ⟨hk, q⟩ := Af.guard q
  refine ⟨hc m1 Ω1 _ x _ g1.ok r1 hk, m1, Γ, Ω1, s.go g1, (Af.bind (R := RlL X.K) q).imp fun _ _ _ _ _ _ _ _ ⟨m2, Ω2, ds, g2, r2, q2⟩ => ?_⟩
  exact hd (E σ) m2 Ω2 _ x _ ds _ Q g2.ok (Rl.go g2.toGw g1.ok x _ r1) r2 q2
theorem de_bm0 (pa : PlainAttrs T) (slot : Slot T name id) (hty : typeOf (.builtin id) = pure (.type "method_descriptor")) (hm : MtR X id rr) (hc : RcvD X.K T chk) (hd : MthD X.K op rr) (ho : DE X E o f)
    (hbase : attributeBase o name X.env (eval o X.env) = eval o X.env := by rfl) (hline : (apos.endLine == cpos.line) = true := by rfl) :
    DE X E (.Call (.Attribute o name apos) [] [] cpos) (fMt0 chk op f) := PE.mono (pe_bm0 pa slot hty hm ho hbase hline) fun σ H Q h => by
  obtain ⟨m, Γ, Ω, s, h⟩ := h
  refine ⟨m, Γ, Ω, s, (Af.bind (R := Rl X.K) h).imp fun _ _ _ _ _ _ _ _ ⟨m1, Ω1, x, g1, r1, q⟩ => ?_⟩
  obtain ⟨hk, q⟩ := Af.guard q
  exact ⟨hc m1 Ω1 _ x _ g1.ok r1 hk, hd (E σ) m1 Ω1 _ x _ [] [] Q g1.ok r1 (by unfold RlL; rfl) q⟩
end
section
variable {K : PySem.W.Frag} {X : Cx}
def chkL (x : D) (Ω : Om) : Bool := match x with
  | .ref n => (cellL Ω n).isSome
  | _ => false
theorem rc_list : RcvD K "list" chkL := by
  intro m Ω H x v c r h
  cases x with
  | ref n =>
    obtain ⟨xs, e⟩ := Option.isSome_iff_exists.mp (show (cellL Ω n).isSome = true from h)
    obtain ⟨a, vs, ev, _, _, h1, _⟩ := cellL_ok c r e
    subst ev
    exact .inl ⟨rfl, vs, SqL.of h1⟩
  | _ => cases h
def chkK (x : D) (Ω : Om) : Bool := match x with
  | .ref n => (asK Ω (.ref n)).isSome
  | _ => false
theorem cellK_ok {m : Mp} {Ω : Om} {H : Hp} (c : CellsOk K m Ω H) {n : Nat} {v : V} {kvs : List (Key × D)} (r : Rl K m Ω H (.ref n) v) (h : asK Ω (.ref n) = some kvs) : ∃ a ws, v = .ref a ∧ m.l[n]? = some a ∧ Ω[n]? = some (.dct kvs) ∧ H a = some (.dK ws) ∧ RlK K m Ω H kvs ws := by
  unfold asK at h
  dsimp only at h
  cases q : Ω[n]? with
  | none => rw [q] at h; cases h
  | some x =>
    rw [q] at h
    cases x with
    | dct ys =>
      cases h
      unfold Rl at r
      obtain ⟨a, ev, ha⟩ := r
      obtain ⟨ws, h1, h2⟩ := c.at_ n _ a q ha
      exact ⟨a, ws, ev, ha, rfl, h1, h2⟩
    | _ => cases h
theorem rc_dict : RcvD K "dict" chkK := by
  intro m Ω H x v c r h
  cases x with
  | ref n =>
    obtain ⟨xs, e⟩ := Option.isSome_iff_exists.mp (show (asK Ω (.ref n)).isSome = true from h)
    obtain ⟨a, vs, ev, _, _, h1, _⟩ := cellK_ok c r e
    subst ev
    exact .inr (.inr (.inl ⟨rfl, .inl ⟨vs, h1⟩⟩))
  | _ => cases h
def mAppend : OpM := fun x ds Ω => match x with
  | .ref n => match cellL Ω n with
    | some xs => match ds with
      | [y] => if xs.length < 100000 then some (.ok .non, Ω.set n (.lst (xs ++ [y]))) else none
      | _ => none
    | none => none
  | _ => none
theorem md_append : MthD K mAppend rAppend := by
  intro E m Ω H x v ds vs Q c r rs q
  cases x with
  | ref n =>
    unfold mAppend at q
    dsimp only at q
    cases e : cellL Ω n with
    | none => rw [e] at q; exact q.elim
    | some xs =>
      rw [e] at q
      obtain ⟨a, ws, ev, ha, eΩ, h1, h2⟩ := cellL_ok c r e
      match ds, q, rs with
      | [y], q, rs =>
        obtain ⟨hz, q⟩ := Af.guard q
        obtain ⟨w, ew, hw⟩ := rs.single
        exact ⟨a, ws, w, ev, ew, h1, by rw [← h2.length]; exact Nat.lt_of_lt_of_le hz (by decide), q m _ _ (Go.setL c ha eΩ (h2.append (RlL.one hw))) (by unfold Rl; rfl)⟩
      | [], q, _ => exact q.elim
      | _ :: _ :: _, q, _ => exact q.elim
  | _ => exact q.elim
def mExtend : OpM := fun x ds Ω => match x with
  | .ref n => match cellL Ω n with
    | some xs => match ds with
      | [y] => match asL Ω y with
        | some ys => if xs.length + ys.length ≤ 100000 then some (.ok .non, Ω.set n (.lst (xs ++ ys))) else none
        | none => none
      | _ => none
    | none => none
  | _ => none
theorem md_extend : MthD K mExtend rExtend := by
  intro E m Ω H x v ds vs Q c r rs q
  cases x with
  | ref n =>
    unfold mExtend at q
    dsimp only at q
    cases e : cellL Ω n with
    | none => rw [e] at q; exact q.elim
    | some xs =>
      rw [e] at q
      obtain ⟨a, ws, ev, ha, eΩ, h1, h2⟩ := cellL_ok c r e
      match ds, q, rs with
      | [y], q, rs =>
        dsimp only at q
        cases e2 : asL Ω y with
        | none => rw [e2] at q; exact q.elim
        | some ys =>
          rw [e2] at q
          obtain ⟨hz, q⟩ := Af.guard q
          obtain ⟨w, ew, hw⟩ := rs.single
          obtain ⟨b, us, eb, h3, h4⟩ := asL_ok c hw e2
          subst eb
          exact ⟨a, b, ws, us, ev, ew, h1, h3, by rw [← h2.length, ← h4.length]; exact sz hz, q m _ _ (Go.setL c ha eΩ (h2.append h4)) (by unfold Rl; rfl)⟩
      | [], q, _ => exact q.elim
      | _ :: _ :: _, q, _ => exact q.elim
  | _ => exact q.elim
def mClear : OpM := fun x ds Ω => match x with
  | .ref n => match cellL Ω n with
    | some xs => match ds with
      | [] => some (.ok .non, Ω.set n (.lst []))
      | _ => none
    | none => none
  | _ => none
theorem md_clear : MthD K mClear rClear := by
  intro E m Ω H x v ds vs Q c r rs q
  cases x with
  | ref n =>
    unfold mClear at q
    dsimp only at q
    cases e : cellL Ω n with
    | none => rw [e] at q; exact q.elim
    | some xs =>
      rw [e] at q
      obtain ⟨a, ws, ev, ha, eΩ, h1, h2⟩ := cellL_ok c r e
      match ds, q, rs with
      | [], q, rs =>
        unfold RlL at rs
        exact ⟨a, ws, ev, rs, h1, q m _ _ (Go.setL c ha eΩ (by unfold RlL; rfl)) (by unfold Rl; rfl)⟩
      | _ :: _, q, _ => exact q.elim
  | _ => exact q.elim
/-- d.update(e), e another dict -/
def rDUpd : V → List V → Hp → VK → Prop := fun x vs H Q => ∃ (a b : Addr) (kvs more : List (Key × V)), x = .ref a ∧ vs = [.ref b] ∧ H a = some (.dK kvs) ∧ Rd H b (.dK more) ∧ a ≠ b ∧ kvs.length + more.length ≤ sizeLine ∧ Q .non (upd H a (.dK (mergeK kvs more)))
theorem mergeK_length (more : List (Key × V)) : ∀ kvs : List (Key × V), (mergeK kvs more).length ≤ kvs.length + more.length := by
  induction more with
  | nil => intro kvs; exact Nat.le_refl _
  | cons p more ih =>
    intro kvs
    have h := ih (putK kvs p.1 p.2)
    have h2 : (putK kvs p.1 p.2).length ≤ kvs.length + 1 := by
      unfold putK
      split
      · rw [List.length_map]; omega
      · rw [List.length_append]; simp
    show (mergeK (putK kvs p.1 p.2) more).length ≤ _
    rw [List.length_cons]
    omega
theorem mt_dupd : MtR X "dict.update" rDUpd := by
  intro pins s σ H x vs v us Q I rx rv h
  obtain ⟨a, b, kvs, more, ex, ev, e, eb, hab, hz, q⟩ := h
  subst ex ev
  obtain rfl : v = Value.ref a := rx
  obtain ⟨u, hu, ru⟩ := rv.one
  subst hu
  obtain rfl : u = Value.ref b := ru
  obtain ⟨z, hd, ws, rel, dd⟩ := dk_of I.hok e
  obtain ⟨z2, hd2, ws2, rel2, dd2⟩ := dk_rd I.hok eb
  have l1 : kvs.length = ws.length := Paired.length rel
  have l2 : more.length = ws2.length := Paired.length rel2
  refine call_meetsIn PySem.F.slot_dict_update dd.typeIs PySem.F.entry_dict_update (PySem.F.args_dict_update_2 _ _) (meets_dict_update (mixKind X.prog X.w) a b hab hd2) ⟨ws, ws2, dd, dd2, by rw [← l1, ← l2]; exact hz, fun h' dd' _ hs => ?_⟩
  have he : ∃ q, h'.get? a = some q := let ⟨q, _, _, hq, _⟩ := dd'; ⟨q, hq⟩
  exact ⟨.non, _, d_write (t' := s.toks) I (by rw [e]; exact True.intro) hs he (dk_new (Nat.le_trans (mergeK_length more kvs) hz) hd (KV.merge rel2 rel) dd'), rfl, q⟩
def mUpd : OpM := fun x ds Ω => match x with
  | .ref n => match asK Ω (.ref n) with
    | some kvs => match ds with
      | [y] => match y with
        | .dct more => if kvs.length + more.length ≤ 100000 then some (.ok .non, Ω.set n (.dct (mergeD kvs more))) else none
        | _ => none
      | _ => none
    | none => none
  | _ => none
theorem md_upd : MthD K mUpd rDUpd := by
  intro E m Ω H x v ds vs Q c r rs q
  cases x with
  | ref n =>
    unfold mUpd at q
    dsimp only at q
    cases e : asK Ω (.ref n) with
    | none => rw [e] at q; exact q.elim
    | some kvs =>
      rw [e] at q
      obtain ⟨a, ws, ev, ha, eΩ, h1, h2⟩ := cellK_ok c r e
      match ds, q, rs with
      | [y], q, rs =>
        cases y with
        | dct more =>
          obtain ⟨hz, q⟩ := Af.guard q
          obtain ⟨w, ew, hw⟩ := rs.single
          unfold Rl at hw
          obtain ⟨b, us, eb, h3, hl, h4⟩ := hw
          subst eb
          have hab : a ≠ b := fun z => hl (by rw [← z]; exact .inl ⟨n, _, ha, eΩ, fun z => by cases z⟩)
          refine ⟨a, b, ws, us, ev, ew, h1, h3, hab, by rw [← h2.length, ← h4.length]; exact sz hz, q m _ _ ?_ (by unfold Rl; rfl)⟩
          exact Go.set c ha eΩ (fun z => by cases z) fun g => ⟨_, upd_same, RlK.go g c _ _ (h4.merge h2)⟩
        | _ => exact q.elim
      | [], q, _ => exact q.elim
      | _ :: _ :: _, q, _ => exact q.elim
  | _ => exact q.elim
end
section
variable {X : Cx} {E : St → XK} {o e : Expr} {f g : Den D} {r : Den (List D)} {apos cpos : Pos}
theorem de_append (ho : DE X E o f) (ha : DA X E [e] r) (hbase : attributeBase o "append" X.env (eval o X.env) = eval o X.env := by rfl)
    (hfew : ((backTo cpos (starEach [e] X.env)).all (fun x => !x.1) && (backToKw cpos (keywordEach [] X.env)).all (fun x => x.1.isSome) && decide ([e].length + ([] : List Keyword).length + (if ([] : List Keyword).isEmpty then 0 else 1) < 30)) = true := by rfl)
    (hline : (apos.endLine == cpos.line) = true := by rfl) (hs : starEach [e] X.env = (false, eval e X.env) :: starEach [] X.env := by rfl) (hplain : (backTo cpos (starEach [] X.env)).any (·.1) = false := by rfl) : DE X E (.Call (.Attribute o "append" apos) [e] [] cpos) (fMt chkL mAppend f r) :=
  de_bm PySem.F.plainAttrs_list PySem.F.slot_list_append PySem.F.type_list_append mt_append rc_list md_append ho ha hbase hfew hline hs hplain
theorem de_extend (ho : DE X E o f) (ha : DA X E [e] r) (hbase : attributeBase o "extend" X.env (eval o X.env) = eval o X.env := by rfl)
    (hfew : ((backTo cpos (starEach [e] X.env)).all (fun x => !x.1) && (backToKw cpos (keywordEach [] X.env)).all (fun x => x.1.isSome) && decide ([e].length + ([] : List Keyword).length + (if ([] : List Keyword).isEmpty then 0 else 1) < 30)) = true := by rfl)
    (hline : (apos.endLine == cpos.line) = true := by rfl) (hs : starEach [e] X.env = (false, eval e X.env) :: starEach [] X.env := by rfl) (hplain : (backTo cpos (starEach [] X.env)).any (·.1) = false := by rfl) : DE X E (.Call (.Attribute o "extend" apos) [e] [] cpos) (fMt chkL mExtend f r) :=
  de_bm PySem.F.plainAttrs_list PySem.F.slot_list_extend PySem.F.type_list_extend mt_extend rc_list md_extend ho ha hbase hfew hline hs hplain
theorem de_update (ho : DE X E o f) (ha : DA X E [e] r) (hbase : attributeBase o "update" X.env (eval o X.env) = eval o X.env := by rfl)
    (hfew : ((backTo cpos (starEach [e] X.env)).all (fun x => !x.1) && (backToKw cpos (keywordEach [] X.env)).all (fun x => x.1.isSome) && decide ([e].length + ([] : List Keyword).length + (if ([] : List Keyword).isEmpty then 0 else 1) < 30)) = true := by rfl)
    (hline : (apos.endLine == cpos.line) = true := by rfl) (hs : starEach [e] X.env = (false, eval e X.env) :: starEach [] X.env := by rfl) (hplain : (backTo cpos (starEach [] X.env)).any (·.1) = false := by rfl) : DE X E (.Call (.Attribute o "update" apos) [e] [] cpos) (fMt chkK mUpd f r) :=
  de_bm PySem.F.plainAttrs_dict PySem.F.slot_dict_update PySem.F.type_dict_update mt_dupd rc_dict md_upd ho ha hbase hfew hline hs hplain
theorem de_clear (ho : DE X E o f) (hbase : attributeBase o "clear" X.env (eval o X.env) = eval o X.env := by rfl) (hline : (apos.endLine == cpos.line) = true := by rfl) : DE X E (.Call (.Attribute o "clear" apos) [] [] cpos) (fMt0 chkL mClear f) :=
  de_bm0 PySem.F.plainAttrs_list PySem.F.slot_list_clear PySem.F.type_list_clear mt_clear rc_list md_clear ho hbase hline
end
/-! ### o[i] = e on a list cell -/
def setIx (x y d : D) (Ω : Om) : Option Om := match x with
  | .ref n => match cellL Ω n with
    | some xs => match y with
      | .int i => match ixN xs.length i with
        | some j => some (Ω.set n (.lst (xs.set j d)))
        | none => none
      | _ => none
    | none => none
  | _ => none
def sSetIx (fo fi fe : Den D) : DenS := fun Γ Ω => eS (fe Γ Ω) Γ fun d Ω1 => eS (fo Γ Ω1) Γ fun x Ω2 => eS (fi Γ Ω2) Γ fun y Ω3 => match setIx x y d Ω3 with
  | some Ω4 => some (.nx, Γ, Ω4)
  | none => none
section
variable {K : PySem.W.Frag} {m : Mp} {Ω : Om} {H : Hp}
theorem setIx_ok (c : CellsOk K m Ω H) {x y d : D} {vx vy vd : V} {Ω' : Om} (rx : Rl K m Ω H x vx) (ry : Rl K m Ω H y vy) (rd : Rl K m Ω H d vd) (e : setIx x y d Ω = some Ω') {Q : Hp → Prop} (q : ∀ H', Go K m Ω H m Ω' H' → Q H') : rSetL vx vy vd H Q := by
  cases x with
  | ref n =>
    unfold setIx at e
    dsimp only at e
    cases e1 : cellL Ω n with
    | none => rw [e1] at e; cases e
    | some xs =>
      rw [e1] at e
      obtain ⟨a, ws, ev, ha, eΩ, h1, h2⟩ := cellL_ok c rx e1
      cases y with
      | int i =>
        dsimp only at e
        cases e2 : ixN xs.length i with
        | none => rw [e2] at e; cases e
        | some j =>
          rw [e2] at e
          cases e
          unfold Rl at ry
          exact ⟨a, ws, i, j, ev, ry, h1, by rw [← h2.length]; exact e2, q _ (Go.setL c ha eΩ (h2.set j rd))⟩
      | _ => cases e
  | _ => cases e
end
section
variable {X : Cx} {E : St → XK} {o i e : Expr} {fo fi fe : Den D} {pos tpos : Pos}
theorem ds_setix (he : DE X E e fe) (ho : DE X E o fo) (hi : DE X E i fi)
    (ha : ∀ v, assign (.Subscript o i tpos) X.env v = (do
      let ov ← holding [v] (eval o X.env)
      let iv ← holding [v, ov] (eval i X.env)
      standAt tpos
      holding [v, ov, iv] (setItem ov iv v)
      release [v, ov, iv] []) := by intro _; rfl)
    (hs : swapsWithSole [.Subscript o i tpos] e pos.line X.env = pure false := by rfl) (hw : swappedStores [.Subscript o i tpos] e X.env = pure none := by rfl)
    (h1 : (assignEach [.Subscript o i tpos] X.env).map (·.2) = [assign (.Subscript o i tpos) X.env] := by rfl) : DS X E (.Assign [.Subscript o i tpos] e pos) (sSetIx fo fi fe) :=
  PS.mono (ps_asg he (pg_sub ho hi set_list ha) hs hw h1) fun D σ H h => by
    obtain ⟨m, Γ, Ω, s, h⟩ := h
    refine ⟨m, Γ, Ω, s, (AfS.val s.slots s.cells h).imp fun _ _ _ _ _ _ _ _ ⟨m1, Ω1, d, g1, r1, q⟩ => ?_⟩
    refine ⟨m1, Γ, Ω1, s.go g1, (AfS.val (s.go g1).slots g1.ok q).imp fun _ _ _ _ _ _ _ _ ⟨m2, Ω2, x, g2, r2, q2⟩ => ?_⟩
    refine ⟨m2, Γ, Ω2, (s.go g1).go g2, (AfS.val ((s.go g1).go g2).slots g2.ok q2).imp fun _ _ _ _ _ _ _ _ ⟨m3, Ω3, y, g3, r3, q3⟩ => ?_⟩
    cases e4 : setIx x y d Ω3 with
    | none => rw [e4] at q3; exact q3.elim
    | some Ω4 =>
      rw [e4] at q3
      exact setIx_ok g3.ok (Rl.go g3.toGw g2.ok x _ r2) r3 (Rl.go (g2.trans g3).toGw g1.ok d _ r1) e4 fun H' g => q3 m3 σ H' g (((((s.go g1).go g2).go g3).go g).slots)
/-- o[i], x = e, e a new pair (divmod) -/
def sSetPair (fo fi : Den D) (j : Nat) (fe : Den D) : DenS := fun Γ Ω => eS (fe Γ Ω) Γ fun d Ω1 => match d with
  | .tup ds => match ds with
    | [d1, d2] => eS (fo Γ Ω1) Γ fun x Ω2 => eS (fi Γ Ω2) Γ fun y Ω3 => match setIx x y d1 Ω3 with
      | some Ω4 => some (.nx, Γ.set j (some d2), Ω4)
      | none => none
    | _ => none
  | _ => none
theorem ds_setpair (j : Nat) {x : Str} {k : Nat} {px ppos : Pos} (hc : X.calm = true) (hN : X.N.Nodup) (he : DE X E e fe) (ho : DE X E o fo) (hi : DE X E i fi)
    (hj : X.N[j]? = some x := by rfl) (hx : Loc X.env.scope x := by first | exact Or.inl rfl | exact Or.inr rfl) (hf : X.fn x = true ∨ X.env.scope.names.lookup x = some .local := by first | exact .inl rfl | exact .inr rfl | assumption)
    (ha : ∀ v, assign (.Subscript o i tpos) X.env v = (do
      let ov ← holding [v] (eval o X.env)
      let iv ← holding [v, ov] (eval i X.env)
      standAt tpos
      holding [v, ov, iv] (setItem ov iv v)
      release [v, ov, iv] []) := by intro _; rfl)
    (hs : swapsWithSole [.Tuple [.Subscript o i tpos, .Name x px] k ppos] e pos.line X.env = pure false := by rfl) (hw : swappedStores [.Tuple [.Subscript o i tpos, .Name x px] k ppos] e X.env = pure none := by rfl)
    (h1 : (assignEach [.Tuple [.Subscript o i tpos, .Name x px] k ppos] X.env).map (·.2) = [assign (.Tuple [.Subscript o i tpos, .Name x px] k ppos) X.env] := by rfl)
    (hn : (assignEach [.Subscript o i tpos, .Name x px] X.env).length = 2 := by rfl) (hst : (assignEach [.Subscript o i tpos, .Name x px] X.env).findIdx? (·.1) = none := by rfl)
    (hs1 : (assignEach [.Subscript o i tpos, .Name x px] X.env).map (·.2) = assign (.Subscript o i tpos) X.env :: (assignEach [.Name x px] X.env).map (·.2) := by rfl) (hs2 : (assignEach [.Name x px] X.env).map (·.2) = assign (.Name x px) X.env :: (assignEach [] X.env).map (·.2) := by rfl) :
    DS X E (.Assign [.Tuple [.Subscript o i tpos, .Name x px] k ppos] e pos) (sSetPair fo fi j fe) :=
  PS.mono (ps_asg he (pg_tup hc (pgs_cons (pg_sub ho hi set_list ha) (pgs_cons (pg_name (i := j) hN hj hx hf) pgs_nil hs2) hs1) hn hst) hs hw h1) fun D σ H h => by
    obtain ⟨m, Γ, Ω, s, h⟩ := h
    refine ⟨m, Γ, Ω, s, (AfS.val s.slots s.cells h).imp fun _ _ _ _ _ _ _ _ ⟨m1, Ω1, d, g1, r1, q⟩ => ?_⟩
    cases d with
    | tup ds =>
      match ds, q, r1 with
      | [d1, d2], q, r1 =>
        unfold Rl at r1
        obtain ⟨a, ws, ev, h3, h4⟩ := r1
        obtain ⟨v1, v2, ew, z1, z2⟩ := h4.two
        subst ew
        refine ⟨a, [v1, v2], ev, h3.sq, rfl, v1, [v2], rfl, ?_⟩
        refine ⟨m1, Γ, Ω1, s.go g1, (AfS.val (s.go g1).slots g1.ok q).imp fun _ _ _ _ _ _ _ _ ⟨m2, Ω2, x, g2, r2, q2⟩ => ?_⟩
        refine ⟨m2, Γ, Ω2, (s.go g1).go g2, (AfS.val ((s.go g1).go g2).slots g2.ok q2).imp fun _ _ _ _ _ _ _ _ ⟨m3, Ω3, y, g3, r3, q3⟩ => ?_⟩
        cases e4 : setIx x y d1 Ω3 with
        | none => rw [e4] at q3; exact q3.elim
        | some Ω4 =>
          rw [e4] at q3
          refine setIx_ok g3.ok (Rl.go g3.toGw g2.ok x _ r2) r3 (Rl.go (g2.trans g3).toGw g1.ok d1 _ z1) e4 fun H' g => ⟨v2, [], rfl, rfl, ?_⟩
          exact q3 m3 _ H' g ((((((s.go g1).go g2).go g3).go g).slots).set (Rl.go ((g2.trans g3).trans g).toGw g1.ok d2 _ z2))
      | [], q, _ => exact q.elim
      | [_], q, _ => exact q.elim
      | _ :: _ :: _ :: _, q, _ => exact q.elim
    | _ => exact q.elim
end
end Dn


set_option Elab.async false
set_option linter.all false
set_option maxRecDepth 100000
/-! DnObj: own classes: attributes, methods, making, isinstance. -/
namespace Dn
open PySem L2
/-- the class named c -/
abbrev cad (K : PySem.W.Frag) (c : Str) : Addr := He.ga K c
/-- the attributes of an object of the class c, pure or a cell -/
def asO (c : Str) (Ω : Om) : D → Option (List (Str × D))
  | .obj c' fs => if c' = c then some fs else none
  | .ref n => match Ω[n]? with
    | some (.ins c' fs) => if c' = c then some fs else none
    | _ => none
  | _ => none
def lkF (fs : List (Str × D)) (f : Str) : Option D := fs.lookup f
section
variable {K : PySem.W.Frag} {m : Mp} {Ω : Om} {H : Hp}
theorem asO_ok (cc : CellsOk K m Ω H) {c : Str} {d : D} {v : V} {fs : List (Str × D)} (r : Rl K m Ω H d v) (e : asO c Ω d = some fs) : ∃ a dx gs, v = .ref a ∧ H a = some (.ins (cad K c) dx gs) ∧ RlF K m Ω H fs gs := by
  cases d with
  | obj c' ys =>
    unfold Rl at r
    unfold asO at e
    dsimp only at e
    by_cases h : c' = c
    · rw [if_pos h] at e
      cases (Option.some.inj e)
      subst h
      obtain ⟨a, dx, vs, e1, h1, _, h2⟩ := r
      exact ⟨a, dx, vs, e1, h1, h2⟩
    · rw [if_neg h] at e; cases e
  | ref n =>
    unfold Rl at r
    obtain ⟨a, e1, h1⟩ := r
    unfold asO at e
    dsimp only at e
    cases q : Ω[n]? with
    | none => rw [q] at e; cases e
    | some x =>
      rw [q] at e
      cases x with
      | ins c' ys =>
        dsimp only at e
        by_cases h : c' = c
        · rw [if_pos h] at e
          cases (Option.some.inj e)
          subst h
          obtain ⟨dx, vs, h2, h3⟩ := cc.at_ n _ a q h1
          exact ⟨a, dx, vs, e1, h2, h3⟩
        · rw [if_neg h] at e; cases e
      | _ => cases e
  | _ => cases e
theorem RlF.lookup : ∀ {fs : List (Str × D)} {gs : List (Str × V)} {f : Str}, RlF K m Ω H fs gs → (∃ d v, fs.lookup f = some d ∧ gs.lookup f = some v ∧ Rl K m Ω H d v) ∨ (fs.lookup f = none ∧ gs.lookup f = none)
  | [], gs, f, h => by unfold RlF at h; subst h; exact .inr ⟨rfl, rfl⟩
  | (k, d) :: fs, gs, f, h => by
    unfold RlF at h
    obtain ⟨v, r, e, h1, h2⟩ := h
    subst e
    by_cases hk : f = k
    · have hb : (f == k) = true := beq_iff_eq.mpr hk
      exact .inl ⟨d, v, by simp only [List.lookup, hb], by simp only [List.lookup, hb], h1⟩
    · have hb : (f == k) = false := beq_eq_false_iff_ne.mpr hk
      simp only [List.lookup, hb]
      exact RlF.lookup h2
def putFD (f : Str) (v : D) : List (Str × D) → List (Str × D)
  | [] => [(f, v)]
  | (g, x) :: r => if g = f then (g, v) :: r else (g, x) :: putFD f v r
theorem RlF.put {f : Str} {d : D} {v : V} (hd : Rl K m Ω H d v) : ∀ {fs : List (Str × D)} {gs : List (Str × V)}, RlF K m Ω H fs gs → RlF K m Ω H (putFD f d fs) (putF f v gs)
  | [], gs, h => by
    unfold RlF at h
    subst h
    unfold putFD putF RlF
    exact ⟨v, [], rfl, hd, by unfold RlF; rfl⟩
  | (k, x) :: fs, gs, h => by
    unfold RlF at h
    obtain ⟨w, r, e, h1, h2⟩ := h
    subst e
    unfold putFD putF
    by_cases hk : k = f
    · rw [if_pos hk, if_pos hk]
      unfold RlF
      exact ⟨v, r, rfl, hd, h2⟩
    · rw [if_neg hk, if_neg hk]
      unfold RlF
      exact ⟨w, _, rfl, h1, RlF.put hd h2⟩
theorem RlF.length : ∀ {fs : List (Str × D)} {gs : List (Str × V)}, RlF K m Ω H fs gs → fs.length = gs.length
  | [], gs, h => by unfold RlF at h; subst h; rfl
  | (k, x) :: fs, gs, h => by
    unfold RlF at h
    obtain ⟨w, r, e, h1, h2⟩ := h
    subst e
    rw [List.length_cons, List.length_cons, RlF.length h2]
end
/-- e.f -/
def dFld (c f : Str) : Op1 := fun x Ω => match asO c Ω x with
  | some fs => match fs.lookup f with
    | some d => some (.ok d, Ω)
    | none => none
  | none => none
section
variable {X : Cx} {E : St → XK} {e o : Expr} {es : List Expr} {fo : Den D} {r : Den (List D)} {pos apos : Pos} {c f mt : Str} {k : Nat} {ps : List Str} {F : FD}
theorem de_fld (hc : Cls X.K (cad X.K c)) (hn : NoAttr X.K (cad X.K c) f) (he : DE X E e fo) (hb : attributeBase e f X.env (eval e X.env) = eval e X.env := by rfl) : DE X E (.Attribute e f pos) (fUn (dFld c f) fo) := PE.mono (pe_fld he hb) fun σ H Q h => by
  obtain ⟨m, Γ, Ω, s, h⟩ := h
  refine ⟨m, Γ, Ω, s, (Af.bind (R := Rl X.K) h).imp fun _ _ _ _ _ _ _ _ ⟨m1, Ω1, x, g1, r1, q⟩ => ?_⟩
  unfold dFld at q
  dsimp only at q
  cases e1 : asO c Ω1 x with
  | none => rw [e1] at q; exact q.elim
  | some fs =>
    rw [e1] at q
    dsimp only at q
    obtain ⟨a, dx, gs, ev, h1, h2⟩ := asO_ok g1.ok r1 e1
    rcases h2.lookup (f := f) with ⟨d, v, z1, z2, z3⟩ | ⟨z1, z2⟩
    · rw [z1] at q
      exact ⟨a, _, dx, gs, v, ev, h1, hc, hn, z2, q.now g1.ok z3⟩
    · rw [z1] at q
      exact q.elim
/-- self.f = e, self a cell -/
def sFldSet (c f : Str) (fo fe : Den D) : DenS := fun Γ Ω => eS (fe Γ Ω) Γ fun d Ω1 => eS (fo Γ Ω1) Γ fun x Ω2 => match x with
  | .ref n => match asO c Ω2 (.ref n) with
    | some fs => if fs.length < 1000 then some (.nx, Γ, Ω2.set n (.ins c (putFD f d fs))) else none
    | none => none
  | _ => none
theorem cellO_ok {K : PySem.W.Frag} {m : Mp} {Ω : Om} {H : Hp} (cc : CellsOk K m Ω H) {c : Str} {n : Nat} {v : V} {fs : List (Str × D)} (r : Rl K m Ω H (.ref n) v) (e : asO c Ω (.ref n) = some fs) : ∃ a dx gs, v = .ref a ∧ m.l[n]? = some a ∧ Ω[n]? = some (.ins c fs) ∧ H a = some (.ins (cad K c) dx gs) ∧ RlF K m Ω H fs gs := by
  unfold Rl at r
  obtain ⟨a, e1, h1⟩ := r
  unfold asO at e
  dsimp only at e
  cases q : Ω[n]? with
  | none => rw [q] at e; cases e
  | some x =>
    rw [q] at e
    cases x with
    | ins c' ys =>
      dsimp only at e
      by_cases h : c' = c
      · rw [if_pos h] at e
        cases (Option.some.inj e)
        subst h
        obtain ⟨dx, vs, h2, h3⟩ := cc.at_ n _ a q h1
        exact ⟨a, dx, vs, e1, h1, rfl, h2, h3⟩
      · rw [if_neg h] at e; cases e
    | _ => cases e
theorem ds_fld {fe : Den D} {pos' : Pos} {value : Expr} (hc : Cls X.K (cad X.K c)) (hn : NoAttr X.K (cad X.K c) f) (ho : DE X E o fo) (hv : DE X E value fe) (hs : swapsWith value (some (.Attribute o f pos')) pos.line X.env = pure false := by rfl) :
    DS X E (.Assign [.Attribute o f pos'] value pos) (sFldSet c f fo fe) := PS.mono (ps_fld ho hv hs) fun D σ H h => by
  obtain ⟨m, Γ, Ω, s, h⟩ := h
  refine ⟨m, Γ, Ω, s, (AfS.val s.slots s.cells h).imp fun _ _ _ _ _ _ _ _ ⟨m1, Ω1, d, g1, r1, q⟩ => ?_⟩
  refine ⟨m1, Γ, Ω1, s.go g1, (AfS.val (s.go g1).slots g1.ok q).imp fun _ _ _ _ _ _ _ _ ⟨m2, Ω2, x, g2, r2, q2⟩ => ?_⟩
  cases x with
  | ref n =>
    dsimp only at q2
    cases e1 : asO c Ω2 (.ref n) with
    | none => rw [e1] at q2; exact q2.elim
    | some fs =>
      rw [e1] at q2
      dsimp only at q2
      by_cases hz : fs.length < 1000
      · rw [if_pos hz] at q2
        obtain ⟨a, dx, gs, ev, ha, eΩ, h1, h2⟩ := cellO_ok g2.ok r2 e1
        refine ⟨a, _, dx, gs, ev, h1, hc, hn, by rw [← h2.length]; exact hz, ?_⟩
        have g3 : Go X.K m2 Ω2 _ m2 (Ω2.set n (.ins c (putFD f d fs))) _ := Go.set g2.ok ha eΩ (fun z => by cases z) (o := .ins (cad X.K c) dx (putF f _ gs)) fun g => ⟨dx, _, upd_same, RlF.go g g2.ok _ _ (RlF.put (Rl.go g2.toGw g1.ok d _ r1) h2)⟩
        exact q2 m2 σ _ g3 ((((s.go g1).go g2).go g3).slots)
      · rw [if_neg hz] at q2; exact q2.elim
  | _ => exact q2.elim

/-! ### methods -/
/-- the class c has the method mt with this denotation -/
structure MtG (P : Program) (w : World) (K : PySem.W.Frag) (mg : Str → Option Value) (base : Heap) (c mt : Str) (ps : List Str) (k : Nat) (F : FD) : Prop where
  ex : ∃ f fd, Meth K (cad K c) mt f ∧ FnOkG P w K mg base (L2N.CX P w) k f fd ps (spD K ps.length F) ∧ Binds K fd ps []
def fMeth (c mt : Str) (n : Nat) (F : FD) (fo : Den D) (r : Den (List D)) : Den D := bnd fo fun x Γ Ω => match asO c Ω x with
  | some fs => match fs.lookup mt with
    | none => bR (r Γ Ω) fun ds Ω1 => if (x :: ds).length = n then F (x :: ds) Ω1 else none
    | some _ => none
  | none => none
theorem meth_of {σ : St} {H : Hp} {Q : VK} {tr : TA} (h : tD X.K E (fMeth c mt ps.length F fo r) σ H Q) :
    tD X.K E fo σ H fun x H1 => ∃ a dx fs, x = .ref a ∧ H1 a = some (.ins (cad X.K c) dx fs) ∧ fs.lookup mt = none ∧ tDA X.K E r σ H1 fun vs H2 => spD X.K ps.length F (x :: vs) H2 Q (E σ) := by
  obtain ⟨m, Γ, Ω, s, h⟩ := h
  refine ⟨m, Γ, Ω, s, (Af.bind (R := Rl X.K) h).imp fun _ _ _ _ _ _ _ _ ⟨m1, Ω1, x, g1, r1, q⟩ => ?_⟩
  dsimp only at q
  cases e1 : asO c Ω1 x with
  | none => rw [e1] at q; exact q.elim
  | some fs =>
    rw [e1] at q
    dsimp only at q
    obtain ⟨a, dx, gs, ev, h1, h2⟩ := asO_ok g1.ok r1 e1
    rcases h2.lookup (f := mt) with ⟨d, v, z1, z2, z3⟩ | ⟨z1, z2⟩
    · rw [z1] at q; exact q.elim
    · rw [z1] at q
      refine ⟨a, dx, gs, ev, h1, z2, m1, Γ, Ω1, s.go g1, (Af.bind (R := RlL X.K) q).imp fun _ _ _ _ _ _ _ _ ⟨m2, Ω2, ds, g2, r2, q2⟩ => ?_⟩
      refine sp_of (ds := x :: ds) g2.ok ?_ q2
      unfold RlL
      exact ⟨_, _, rfl, Rl.go g2.toGw g1.ok x _ r1, r2⟩
theorem de_meth {pl : Sem Bool} (hc : Cls X.K (cad X.K c)) (G : MtG X.prog X.w X.K X.mg X.base c mt ps k F) (hr : RoomG k X.A) (hx : ∀ σ, PassesAt (L2N.CX X.prog X.w) X σ (E σ)) (ho : DE X E o fo) (ha : DA X E (e :: es) r)
    (hst : starEach (e :: es) X.env = (false, eval e X.env) :: starEach es X.env := by rfl) (hpl : (backTo pos (starEach es X.env)).any (·.1) = false := by rfl)
    (ht : eval (.Call (.Attribute o mt apos) (e :: es) [] pos) X.env = (do
      let ov ← eval o X.env
      standAt apos.atName
      let (f, first) ← holding [ov] (getMethod ov mt pl)
      callWith pos f first (backTo pos (starEach (e :: es) X.env)) (backToKw pos (keywordEach [] X.env))) := by rfl) :
    DE X E (.Call (.Attribute o mt apos) (e :: es) [] pos) (fMeth c mt ps.length F fo r) := by
  obtain ⟨f, fd, hm, ok, bi⟩ := G.ex
  refine ⟨fun pins s σ H Q I h => ?_⟩
  have h2 := meth_of (tr := tNil) h
  refine PySem.W.methodCall_KW (pl := pl) (thn (ho.run pins s σ H _ I h2) fun u s1 ⟨x, H1, I1, rx, a, dx, fs, ex, ea, l, q⟩ => ?_) ht
  subst ex
  obtain rfl : u = Value.ref a := rx
  refine getmeth_ok I1 ea hc hm l ?_
  refine PySem.W.callWith_K (first := [.ref a]) (h₀ := X.base) I.ok.mod.kin hm.kp (thn (ha.run pos pins s1 σ H1 _ I1 q) fun us s2 ⟨vs, H2, I2, r, q2⟩ => ⟨I2.kIn, ?_⟩) hst hpl
  exact run_fnG (E := E) (us := .ref a :: us) (vs := .ref a :: vs) ok hr bi (hx σ) I2 (.cons rfl r) q2
theorem de_meth0 {pl : Sem Bool} (hc : Cls X.K (cad X.K c)) (G : MtG X.prog X.w X.K X.mg X.base c mt ps k F) (hr : RoomG k X.A) (hx : ∀ σ, PassesAt (L2N.CX X.prog X.w) X σ (E σ)) (ho : DE X E o fo)
    (ht : eval (.Call (.Attribute o mt apos) [] [] pos) X.env = (do
      let ov ← eval o X.env
      standAt apos.atName
      let (f, first) ← holding [ov] (getMethod ov mt pl)
      callWith pos f first (backTo pos (starEach [] X.env)) (backToKw pos (keywordEach [] X.env))) := by rfl) :
    DE X E (.Call (.Attribute o mt apos) [] [] pos) (fMeth c mt ps.length F fo fNil) := by
  obtain ⟨f, fd, hm, ok, bi⟩ := G.ex
  refine ⟨fun pins s σ H Q I h => ?_⟩
  have h2 := meth_of (tr := tNil) h
  refine PySem.W.methodCall_KW (pl := pl) (thn (ho.run pins s σ H _ I h2) fun u s1 ⟨x, H1, I1, rx, a, dx, fs, ex, ea, l, q⟩ => ?_) ht
  subst ex
  obtain rfl : u = Value.ref a := rx
  refine getmeth_ok I1 ea hc hm l ?_
  obtain ⟨m, Γ, Ω, s', q⟩ := q
  have q2 := q m [] H1 (Go.refl s'.cells) (by unfold RlL; rfl)
  exact PySem.W.callWith_K0 (first := [.ref a]) I1.kIn hm.kp (run_fnG (E := E) (us := [.ref a]) (vs := [.ref a]) ok hr bi (hx σ) I1 (.cons rfl .nil) q2)
/-! ### making -/
structure MkG (P : Program) (w : World) (K : PySem.W.Frag) (mg : Str → Option Value) (base : Heap) (c : Str) (ps : List Str) (k : Nat) (F : FD) : Prop where
  ex : ∃ f fd, Mk K (cad K c) f ∧ mg c = some (.ref (cad K c)) ∧ FnOkG P w K mg base (L2N.CX P w) k f fd ps (spD K ps.length F) ∧ Binds K fd ps []
/-- C(..): the new instance is a cell while __init__ runs, then pure -/
def mkD (c : Str) (n : Nat) (F : FD) (ds : List D) (Ω : Om) : Option (Rs D × Om) := if ds.length + 1 = n then match F (.ref Ω.length :: ds) (Ω ++ [.ins c []]) with
  | none => none
  | some (.ok d, Ω') => match d with
    | .non => if below Ω.length (frz Ω.length Ω' (.ref Ω.length)) = true ∧ cellsBelow Ω.length Ω' = true then some (.ok (frz Ω.length Ω' (.ref Ω.length)), Ω'.take Ω.length) else none
    | _ => none
  | some (.ex e, Ω') => if belowF Ω.length e.fs = true ∧ cellsBelow Ω.length Ω' = true then some (.ex e, Ω'.take Ω.length) else none
  else none
def fMake (c : Str) (n : Nat) (F : FD) (r : Den (List D)) : Den D := bnd r fun ds _ Ω => mkD c n F ds Ω
theorem make_of {n : Nat} {E : XK} {m : Mp} {Ω : Om} {H : Hp} {ds : List D} {vs : List V} {Q : VK} {K : PySem.W.Frag} (cc : CellsOk K m Ω H) (rr : RlL K m Ω H ds vs) (q : Af K (Rl K) E Q m Ω H (mkD c n F ds Ω)) (x dx : Addr) (hx : H x = none) (hdx : H dx = none) (hne : dx ≠ x) :
    spD K n F (.ref x :: vs) (upd (upd H dx (.own x)) x (.ins (cad K c) dx [])) (fun v H2 => v = .non ∧ Q (.ref x) H2) E := by
  obtain ⟨hl, q⟩ := Af.guard q
  have g1 : Go K m Ω H m Ω (upd H dx (.own x)) := Go.new cc hdx
  have hx1 : upd H dx (.own x) x = none := by rw [upd_ne (Ne.symm hne)]; exact hx
  have g2 : Go K m Ω _ (m.add x) (Ω ++ [.ins c []]) (upd (upd H dx (.own x)) x (.ins (cad K c) dx [])) := Go.cell g1.ok hx1 fun g => ⟨dx, [], upd_same, by unfold RlF; rfl⟩
  have g := g1.trans g2
  refine ⟨by rw [List.length_cons, ← rr.length]; exact hl, m.add x, Ω ++ [.ins c []], .ref Ω.length :: ds, g2.ok, ?_, ?_⟩
  · unfold RlL
    exact ⟨_, _, rfl, rl_last cc, RlL.go g.toGw cc _ _ rr⟩
  · cases e : F (.ref Ω.length :: ds) (Ω ++ [.ins c []]) with
    | none => rw [e] at q; exact q
    | some z =>
      obtain ⟨rs, Ω'⟩ := z
      rw [e] at q
      have hlen : m.l.length = Ω.length := cc.len
      cases rs with
      | ex e =>
        obtain ⟨⟨b1, b2⟩, q⟩ := Af.guard q
        intro m' H' cls dd g3 r3
        exact q (Mp.take Ω.length m') H' cls dd (Go.take (g.trans g3) (by rw [hlen]; exact Nat.le_refl _) b2) (r3.take b1)
      | ok d =>
        cases d with
        | non =>
          obtain ⟨⟨b1, b2⟩, q⟩ := Af.guard q
          intro m' v H' g3 r3
          unfold Rl at r3
          refine ⟨r3, ?_⟩
          have rx : Rl K m' Ω' H' (.ref Ω.length) (.ref x) := Rl.go g3.toGw g2.ok _ _ (rl_last cc)
          exact q (Mp.take Ω.length m') _ H' (Go.take (g.trans g3) (by rw [hlen]; exact Nat.le_refl _) b2) (frz_ok g3.ok rx b1)
        | _ => exact q.elim
theorem run_makeS {pins : List (Addr × Obj)} {σ : St} {H : Hp} {s : Shared} {Q : VK} {us : List Value} {vs : List V} {C f : Addr} {fd : FuncData} {sp : Sp} {CX : CXT} (M : Mk X.K C f) (F : FnOkG X.prog X.w X.K X.mg X.base CX k f fd ps sp) (hr : RoomG (k + 1) X.A) (hb : Binds X.K fd ps [])
    (hx : PassesAt CX X σ (E σ)) (I : Inv X pins σ H s) (r : Vals vs us)
    (h : ∀ x dx, H x = none → H dx = none → dx ≠ x → sp (.ref x :: vs) (upd (upd H dx (.own x)) x (.ins C dx [])) (fun v H2 => v = .non ∧ Q (.ref x) H2) (E σ)) :
    wpAny (model X.prog X.w) X.A (call (.ref C) us) (EP X pins σ Q) X.xe s := by
  have hq := h (s.heap.objs.size + 1) s.heap.objs.size (I.hok.fresh (Nat.le_succ _)) (I.hok.fresh (Nat.le_refl _)) (Nat.ne_of_lt (Nat.lt_succ_self _))
  have I2 := Inv.made (C := C) I
  have r2 : Vals (V.ref (s.heap.objs.size + 1) :: vs) (Value.ref (s.heap.objs.size + 1) :: us) := .cons rfl r
  have hl : (Value.ref (s.heap.objs.size + 1) :: us).length = ps.length := by
    have e := r2.length
    rw [F.len _ _ _ _ hq] at e
    exact e.symm
  have b := hb { s with heap := (s.heap.push PySem.W.emptyDict).push (PySem.W.instObj C s.heap.objs.size) } (Value.ref (s.heap.objs.size + 1) :: us) I2.kIn (by rw [List.append_nil]; exact hl)
  rw [List.append_nil] at b
  refine wpAny_call (make_map (f := f) I.kIn M.makes M.init (beq_iff_eq.mp M.fn) (codeAny_mono (F.run _ X.stack _ _ ⟨Value.ref (s.heap.objs.size + 1) :: us, []⟩ (Value.ref (s.heap.objs.size + 1) :: us) _ _ (E σ) (hr.make C us [])
    (I2.env0.make C us []) b r2 hq) fun r s' hq' => ?_))
  cases r with
  | error e => exact hx pins _ _ e s' I2 hq'
  | ok fl =>
    cases fl with
    | ret u =>
      obtain ⟨v, H', I3, rv, ev, q3⟩ := I2.after hq'
      subst ev
      exact ⟨rv, ⟨V.ref (s.heap.objs.size + 1), H', I3, rfl, q3⟩⟩
    | next => exact False.elim hq'
    | brk => exact False.elim hq'
    | cont => exact False.elim hq'
theorem de_make {p : Pos} (G : MkG X.prog X.w X.K X.mg X.base c ps k F) (hr : RoomG (k + 1) X.A) (hx : ∀ σ, PassesAt (L2N.CX X.prog X.w) X σ (E σ)) (ha : DA X E (e :: es) r) (hg : Gl X c := by rfl)
    (hdb : (c == ("__debug__" : Str)) = false := by decide) (he : starEach (e :: es) X.env = (false, eval e X.env) :: starEach es X.env := by rfl) (hpl : (backTo pos (starEach es X.env)).any (·.1) = false := by rfl) :
    DE X E (.Call (.Name c p) (e :: es) [] pos) (fMake c ps.length F r) := by
  obtain ⟨f, fd, M, hm, ok, bi⟩ := G.ex
  refine ⟨fun pins s σ H Q I h => ?_⟩
  refine wpAny_Call_Name_kw (ld_glob I hg hm ?_ hdb)
  obtain ⟨m, Γ, Ω, s', h⟩ := h
  have h2 : tDA X.K E r σ H fun vs H1 => ∀ x dx, H1 x = none → H1 dx = none → dx ≠ x → spD X.K ps.length F (.ref x :: vs) (upd (upd H1 dx (.own x)) x (.ins (cad X.K c) dx [])) (fun v H2 => v = .non ∧ Q (.ref x) H2) (E σ) :=
    ⟨m, Γ, Ω, s', (Af.bind (R := RlL X.K) h).imp fun _ _ _ _ _ _ _ _ ⟨m1, Ω1, ds, g1, r1, q⟩ => make_of g1.ok r1 q⟩
  refine PySem.W.callWith_K (h₀ := X.base) I.ok.mod.kin M.kp (thn (ha.run pos pins s σ H _ I h2) fun us s1 ⟨vs, H1, I1, r, q⟩ => ⟨I1.kIn, ?_⟩) he hpl
  exact run_makeS (E := E) M ok hr bi (hx σ) I1 r q
end
end Dn


set_option Elab.async false
set_option linter.all false
set_option maxRecDepth 100000
/-! DnLast: keywords, isinstance, ==, dicts made of pairs, sorted. -/
namespace Dn
open PySem L2
/-! ### keywords -/
/-- f's parameters given by n positional values and keywords ks: perm puts them in the parameters' order (names by their place) -/
def reord {α : Type} (ix : List Nat) (xs : List α) : List α := ix.filterMap fun i => xs[i]?
structure KwB (K : PySem.W.Frag) (fd : FuncData) (ps : List Str) (n : Nat) (ks : List Str) (ix : List Nat) : Prop where
  to : ∀ (s : Shared) (us ws : List Value), K.In s.heap → us.length = n → ws.length = ks.length → BindsTo s fd ⟨us, ks.zip ws⟩ (ps.zip (reord ix (us ++ ws)))
theorem reord_vals {ix : List Nat} {vs : List V} {us : List Value} (r : Vals vs us) : Vals (reord ix vs) (reord ix us) := by
  unfold reord
  induction ix with
  | nil => exact .nil
  | cons i ix ih =>
    rw [List.filterMap_cons, List.filterMap_cons]
    cases e : vs[i]? with
    | none => rw [r.none_of e]; exact ih
    | some v =>
      obtain ⟨u, h1, h2⟩ := r.get e
      rw [h1]
      exact .cons h2 ih
theorem reord_rl {K : PySem.W.Frag} {m : Mp} {Ω : Om} {H : Hp} {ix : List Nat} {ds : List D} {vs : List V} (r : RlL K m Ω H ds vs) : RlL K m Ω H (reord ix ds) (reord ix vs) := by
  unfold reord
  induction ix with
  | nil => unfold RlL; rfl
  | cons i ix ih =>
    rw [List.filterMap_cons, List.filterMap_cons]
    cases e : ds[i]? with
    | none =>
      have : vs[i]? = none := by
        rw [List.getElem?_eq_none_iff] at e ⊢
        rw [← r.length]; exact e
      rw [this]; exact ih
    | some d =>
      obtain ⟨v, h1, h2⟩ := r.get e
      rw [h1]
      unfold RlL
      exact ⟨v, _, rfl, h2, ih⟩
abbrev DK (X : Cx) (E : St → XK) (kws : List Keyword) (f : Den (List D)) : Prop := PK X kws (tDA X.K E f)
theorem PK.mono {X : Cx} {e : List Keyword} {t t' : TA} (h : PK X e t) (i : ∀ σ H Q, t' σ H Q → t σ H Q) : PK X e t' := ⟨fun pos pins s σ H Q I q => h.run pos pins s σ H Q I (i σ H Q q)⟩
section
variable {X : Cx} {E : St → XK} {e o : Expr} {kws : List Keyword} {f fo : Den D} {r : Den (List D)} {nm : Option Str} {kpos pos apos : Pos} {c mt : Str} {ps ks : List Str} {k : Nat} {F : FD} {ix : List Nat}
theorem dk_nil : DK X E [] fNil := PK.mono pk_nil fun σ H Q h => by
  obtain ⟨m, Γ, Ω, s, h⟩ := h
  exact h m [] H (Go.refl s.cells) (by unfold RlL; rfl)
theorem dk_cons (h1 : DE X E e f) (h2 : DK X E kws r) : DK X E (⟨nm, e, kpos⟩ :: kws) (fCons f r) := PK.mono (pk_cons h1 h2) fun σ H Q h => by
  obtain ⟨m, Γ, Ω, s, h⟩ := h
  refine ⟨m, Γ, Ω, s, (Af.bind (R := Rl X.K) h).imp fun _ _ _ _ _ _ _ _ ⟨m1, Ω1, x, g1, r1, q⟩ => ⟨m1, Γ, Ω1, s.go g1, (Af.bind (R := RlL X.K) q).imp fun _ _ _ _ _ _ _ _ ⟨m2, Ω2, xs, g2, r2, q2⟩ => ?_⟩⟩
  refine q2 m2 _ _ (Go.refl g2.ok) ?_
  unfold RlL
  exact ⟨_, _, rfl, Rl.go g2.toGw g1.ok x _ r1, r2⟩
/-- o.m(k = e, ..), keywords alone -/
structure MtK (P : Program) (w : World) (K : PySem.W.Frag) (mg : Str → Option Value) (base : Heap) (c mt : Str) (ps : List Str) (ks : List Str) (ix : List Nat) (k : Nat) (F : FD) : Prop where
  ex : ∃ f fd, Meth K (cad K c) mt f ∧ FnOkG P w K mg base (L2N.CX P w) k f fd ps (spD K ps.length F) ∧ KwB K fd ps 1 ks ix
def fMethK (c mt : Str) (n l : Nat) (ix : List Nat) (F : FD) (fo : Den D) (r : Den (List D)) : Den D := bnd fo fun x Γ Ω => match asO c Ω x with
  | some fs => match fs.lookup mt with
    | none => bR (r Γ Ω) fun ds Ω1 => if ds.length = l ∧ (reord ix (x :: ds)).length = n then F (reord ix (x :: ds)) Ω1 else none
    | some _ => none
  | none => none
theorem de_methK {pl : Sem Bool} (hc : Cls X.K (cad X.K c)) (G : MtK X.prog X.w X.K X.mg X.base c mt ps ks ix k F) (hr : RoomG k X.A) (hx : ∀ σ, PassesAt (L2N.CX X.prog X.w) X σ (E σ)) (ho : DE X E o fo) (ha : DK X E kws r)
    (hall : (backToKw pos (keywordEach kws X.env)).all (·.1.isSome) = true := by rfl) (hks : (backToKw pos (keywordEach kws X.env)).filterMap (·.1) = ks := by rfl)
    (hpl : ((backTo pos (starEach [] X.env)).any (·.1) || (backToKw pos (keywordEach kws X.env)).any (·.1.isNone)) = false := by rfl)
    (ht : eval (.Call (.Attribute o mt apos) [] kws pos) X.env = (do
      let ov ← eval o X.env
      standAt apos.atName
      let (f, first) ← holding [ov] (getMethod ov mt pl)
      callWith pos f first (backTo pos (starEach [] X.env)) (backToKw pos (keywordEach kws X.env))) := by rfl) :
    DE X E (.Call (.Attribute o mt apos) [] kws pos) (fMethK c mt ps.length ks.length ix F fo r) := by
  obtain ⟨f, fd, hm, ok, bi⟩ := G.ex
  refine ⟨fun pins s σ H Q I h => ?_⟩
  have h2 : tD X.K E fo σ H fun x H1 => ∃ a dx fs, x = .ref a ∧ H1 a = some (.ins (cad X.K c) dx fs) ∧ fs.lookup mt = none ∧ tDA X.K E r σ H1 fun vs H2 => vs.length = ks.length ∧ spD X.K ps.length F (reord ix (x :: vs)) H2 Q (E σ) := by
    obtain ⟨m, Γ, Ω, s, h⟩ := h
    refine ⟨m, Γ, Ω, s, (Af.bind (R := Rl X.K) h).imp fun _ _ _ _ v1 _ _ _ ⟨m1, Ω1, x, g1, r1, q⟩ => ?_⟩
    dsimp only at q
    cases e1 : asO c Ω1 x with
    | none => rw [e1] at q; exact q.elim
    | some fs =>
      rw [e1] at q
      dsimp only at q
      obtain ⟨a, dx, gs, ev, h1, h2⟩ := asO_ok g1.ok r1 e1
      rcases h2.lookup (f := mt) with ⟨d, v, z1, z2, z3⟩ | ⟨z1, z2⟩
      · rw [z1] at q; exact q.elim
      · rw [z1] at q
        refine ⟨a, dx, gs, ev, h1, z2, m1, Γ, Ω1, s.go g1, (Af.bind (R := RlL X.K) q).imp fun _ _ H2 _ vs2 _ _ _ ⟨m2, Ω2, ds, g2, r2, q2⟩ => ?_⟩
        obtain ⟨⟨hl, hn⟩, q2⟩ := Af.guard q2
        have rx : RlL X.K m2 Ω2 H2 (x :: ds) (v1 :: vs2) := by
          unfold RlL
          exact ⟨_, _, rfl, Rl.go g2.toGw g1.ok x _ r1, r2⟩
        exact ⟨by rw [← r2.length]; exact hl, by rw [← (reord_rl (ix := ix) rx).length]; exact hn, m2, Ω2, _, g2.ok, reord_rl rx, q2⟩
  refine PySem.W.methodCall_KW (pl := pl) (thn (ho.run pins s σ H _ I h2) fun u s1 ⟨x, H1, I1, rx, a, dx, fs, ex, ea, l, q⟩ => ?_) ht
  subst ex
  obtain rfl : u = Value.ref a := rx
  refine getmeth_ok I1 ea hc hm l ?_
  refine PySem.W.callWith_KW0 (first := [.ref a]) (h₀ := X.base) I.ok.mod.kin hm.kp hall (thn (ha.run pos pins s1 σ H1 _ I1 q) fun ws s2 ⟨zs, H2, I2, rz, l2, q2⟩ => ⟨I2.kIn, ?_⟩) hpl
  rw [hks, List.append_nil]
  have rr : Vals (reord ix (.ref a :: zs)) (reord ix ([Value.ref a] ++ ws)) := reord_vals (us := .ref a :: ws) (.cons rfl rz)
  refine wpAny_call (codeAny_mono (ok.run X.A X.stack s2 H2 ⟨[.ref a], ks.zip ws⟩ (reord ix ([Value.ref a] ++ ws)) (reord ix (.ref a :: zs)) Q (E σ) hr I2.env0 (bi.to s2 [.ref a] ws I2.kIn rfl (rz.length.symm.trans l2)) rr q2) fun r s' hq => ?_)
  cases r with
  | error e => exact hx σ pins H2 s2 e s' I2 hq
  | ok fl =>
    cases fl with
    | ret u => exact I2.after hq
    | next => exact False.elim hq
    | brk => exact False.elim hq
    | cont => exact False.elim hq
end
/-! ### isinstance -/
def tyD (Ω : Om) : D → Option String
  | .non => some "NoneType"
  | .bl _ => some "bool"
  | .int _ => some "int"
  | .str _ => some "str"
  | .tup _ => some "tuple"
  | .lst _ => some "list"
  | .dct _ => some "dict"
  | .ref n => match Ω[n]? with
    | some (.lst _) => some "list"
    | some (.dct _) => some "dict"
    | _ => none
  | _ => none
def tys : List String := ["NoneType", "bool", "int", "str", "tuple", "list", "dict"]
def isT (t T : String) : Bool := t == T || (t == "bool" && T == "int")
theorem kitB_tab : ∀ t ∈ tys, ∀ T ∈ (["int", "bool", "str", "list", "tuple", "dict"] : List String), kitB t T = some (isT t T) := by decide +kernel
section
variable {K : PySem.W.Frag} {m : Mp} {Ω : Om} {H : Hp}
theorem tyD_ok (c : CellsOk K m Ω H) {d : D} {v : V} {t : String} (r : Rl K m Ω H d v) (e : tyD Ω d = some t) : TyX K H v (.type t) ∧ t ∈ tys := by
  cases d with
  | non => cases e; unfold Rl at r; subst r; exact ⟨.base .non, by decide⟩
  | bl b => cases e; unfold Rl at r; subst r; exact ⟨.base (.bl b), by decide⟩
  | int b => cases e; unfold Rl at r; subst r; exact ⟨.base (.int b), by decide⟩
  | str b => cases e; unfold Rl at r; subst r; exact ⟨.base (.str b), by decide⟩
  | tup xs =>
    cases e
    unfold Rl at r
    obtain ⟨a, vs, ev, h1, h2⟩ := r
    subst ev
    rcases h1 with h1 | ⟨_, o, its, n, h1, h3, _⟩
    · exact ⟨.base (.tup h1), by decide⟩
    · exact ⟨.kTuple h1 h3, by decide⟩
  | lst xs =>
    cases e
    unfold Rl at r
    obtain ⟨a, vs, ev, h1, _⟩ := r
    subst ev
    exact ⟨.base (.lst h1), by decide⟩
  | dct xs =>
    cases e
    unfold Rl at r
    obtain ⟨a, vs, ev, h1, _⟩ := r
    subst ev
    rcases h1 with h1 | ⟨o, h1⟩
    · exact ⟨.base (.dK h1), by decide⟩
    · exact ⟨.fDict h1, by decide⟩
  | ref n =>
    unfold Rl at r
    obtain ⟨a, ev, ha⟩ := r
    subst ev
    unfold tyD at e
    dsimp only at e
    cases q : Ω[n]? with
    | none => rw [q] at e; cases e
    | some x =>
      rw [q] at e
      cases x with
      | lst xs => cases e; obtain ⟨vs, h1, _⟩ := c.at_ n _ a q ha; exact ⟨.base (.lst h1), by decide⟩
      | dct xs => cases e; obtain ⟨vs, h1, _⟩ := c.at_ n _ a q ha; exact ⟨.base (.dK h1), by decide⟩
      | _ => cases e
  | _ => cases e
end
/-- what is known of own classes -/
structure IsaF (K : PySem.W.Frag) (CL : List Str) : Prop where
  ins : ∀ c ∈ CL, Cls K (cad K c) ∧ PySem.W.findIn K (.ref (cad K c)) "__class__" = some (some (.builtin "object.__class__")) ∧ PySem.W.mroIn K (cad K c) (.type "object") = some true
  gt : PySem.W.specialIn K (.builtin "object.__class__") "__get__" = some (some (.builtin "getset_descriptor.__get__"))
  tk : PySem.W.takesIn K (.builtin "object.__class__") = some true
  own : ∀ c ∈ CL, ∀ c' ∈ CL, PySem.W.kitOne K (.ref (cad K c)) (.ref (cad K c')) = some (decide (c = c'))
  blt : ∀ t ∈ tys, ∀ c ∈ CL, PySem.W.kitOne K (.type t) (.ref (cad K c)) = some false
  obj : ∀ c ∈ CL, ∀ T ∈ (["int", "bool", "str", "list", "tuple", "dict"] : List String), PySem.W.kitOne K (.ref (cad K c)) (.type T) = some false
def clsD (CL : List Str) (Ω : Om) : D → Option Str
  | .obj c _ => if c ∈ CL then some c else none
  | .ref n => match Ω[n]? with
    | some (.ins c _) => if c ∈ CL then some c else none
    | _ => none
  | _ => none
section
variable {K : PySem.W.Frag} {m : Mp} {Ω : Om} {H : Hp} {CL : List Str}
theorem clsD_ok (I : IsaF K CL) (c : CellsOk K m Ω H) {d : D} {v : V} {n : Str} (r : Rl K m Ω H d v) (e : clsD CL Ω d = some n) : TyX K H v (.ref (cad K n)) ∧ n ∈ CL := by
  have one : ∀ {a dx gs}, H a = some (.ins (cad K n) dx gs) → n ∈ CL → v = .ref a → TyX K H v (.ref (cad K n)) := fun h hn ev => by
    obtain ⟨z1, z2, z3⟩ := I.ins n hn
    subst ev
    exact .base (.ins h z1 z2 I.gt I.tk z3)
  cases d with
  | obj c' fs =>
    unfold clsD at e
    dsimp only at e
    by_cases h : c' ∈ CL
    · rw [if_pos h] at e
      cases e
      unfold Rl at r
      obtain ⟨a, dx, gs, ev, h1, _⟩ := r
      exact ⟨one h1 h ev, h⟩
    · rw [if_neg h] at e; cases e
  | ref k =>
    unfold Rl at r
    obtain ⟨a, ev, ha⟩ := r
    unfold clsD at e
    dsimp only at e
    cases q : Ω[k]? with
    | none => rw [q] at e; cases e
    | some x =>
      rw [q] at e
      cases x with
      | ins c' fs =>
        dsimp only at e
        by_cases h : c' ∈ CL
        · rw [if_pos h] at e
          cases e
          obtain ⟨dx, gs, h1, _⟩ := c.at_ k _ a q ha
          exact ⟨one h1 h ev, h⟩
        · rw [if_neg h] at e; cases e
      | _ => cases e
  | _ => cases e
def tyW (K : PySem.W.Frag) (CL : List Str) (Ω : Om) (d : D) : Option Value := match tyD Ω d with
  | some t => some (.type t)
  | none => (clsD CL Ω d).map fun n => .ref (cad K n)
/-- isinstance(x, T), T a built-in; isinstance(x, C) -/
def isB (CL : List Str) (T : String) (Ω : Om) (d : D) : Option Bool := match tyD Ω d with
  | some t => some (isT t T)
  | none => match clsD CL Ω d with
    | some _ => some false
    | none => none
def isC (CL : List Str) (c : Str) (Ω : Om) (d : D) : Option Bool := match tyD Ω d with
  | some _ => some false
  | none => match clsD CL Ω d with
    | some n => some (decide (n = c))
    | none => none
theorem isB_ok (I : IsaF K CL) (c : CellsOk K m Ω H) {d : D} {v : V} {T : String} {b : Bool} (hT : T ∈ (["int", "bool", "str", "list", "tuple", "dict"] : List String)) (r : Rl K m Ω H d v) (e : isB CL T Ω d = some b) : ∃ t, tyW K CL Ω d = some t ∧ TyX K H v t ∧ PySem.W.kitOne K t (.type T) = some b := by
  unfold isB at e
  unfold tyW
  cases e1 : tyD Ω d with
  | some t =>
    rw [e1] at e
    cases e
    obtain ⟨h1, h2⟩ := tyD_ok c r e1
    exact ⟨_, rfl, h1, kit_ty (kitB_tab t h2 T hT)⟩
  | none =>
    rw [e1] at e
    dsimp only at e
    cases e2 : clsD CL Ω d with
    | none => rw [e2] at e; cases e
    | some n =>
      rw [e2] at e
      cases e
      obtain ⟨h1, h2⟩ := clsD_ok I c r e2
      exact ⟨_, rfl, h1, I.obj n h2 T hT⟩
theorem isC_ok (I : IsaF K CL) (cc : CellsOk K m Ω H) {d : D} {v : V} {c : Str} {b : Bool} (hc : c ∈ CL) (r : Rl K m Ω H d v) (e : isC CL c Ω d = some b) : ∃ t, TyX K H v t ∧ PySem.W.kitOne K t (.ref (cad K c)) = some b := by
  unfold isC at e
  cases e1 : tyD Ω d with
  | some t =>
    rw [e1] at e
    cases e
    obtain ⟨h1, h2⟩ := tyD_ok cc r e1
    exact ⟨_, h1, I.blt t h2 c hc⟩
  | none =>
    rw [e1] at e
    dsimp only at e
    cases e2 : clsD CL Ω d with
    | none => rw [e2] at e; cases e
    | some n =>
      rw [e2] at e
      cases e
      obtain ⟨h1, h2⟩ := clsD_ok I cc r e2
      exact ⟨_, h1, I.own n h2 c hc⟩
end
def fIs (g : Om → D → Option Bool) (f : Den D) : Den D := bnd f fun d _ Ω => match g Ω d with
  | some b => some (.ok (.bl b), Ω)
  | none => none
section
variable {X : Cx} {E : St → XK} {e : Expr} {f : Den D} {p p2 p3 p4 pos pt : Pos} {CL : List Str} {T T2 : Str} {T' T2' : String} {c : Str}
theorem isi_of {g : Om → D → Option Bool} {cv : V} {u : Value} (ck : ClsV cv u) (hg : ∀ m Ω H d v b, CellsOk X.K m Ω H → Rl X.K m Ω H d v → g Ω d = some b → ∃ t, TyX X.K H v t ∧ PySem.W.kitOne X.K t u = some b) {σ : St} {H : Hp} {Q : VK} (h : tD X.K E (fIs g f) σ H Q) :
    tCB (rIsi X.K) (tCons (tD X.K E f) (tCons (tC cv) tNil)) σ H Q := by
  obtain ⟨m, Γ, Ω, s, h⟩ := h
  refine ⟨m, Γ, Ω, s, (Af.bind (R := Rl X.K) h).imp fun _ _ _ _ _ _ _ _ ⟨m1, Ω1, x, g1, r1, q⟩ => ?_⟩
  dsimp only at q
  cases e1 : g Ω1 x with
  | none => rw [e1] at q; exact q.elim
  | some b =>
    rw [e1] at q
    obtain ⟨t, h1, h2⟩ := hg m1 Ω1 _ x _ b g1.ok r1 e1
    exact ⟨_, cv, t, u, b, rfl, ck, h1, h2, q.now g1.ok rl_bl⟩
theorem de_isB (I : IsaF X.K CL) (he : DE X E e f) (hm : X.mg "isinstance" = none) (hmT : X.mg T = none) (hv : bootBuiltins T = some (.type T')) (hT : T' ∈ (["int", "bool", "str", "list", "tuple", "dict"] : List String) := by decide) (hg : Gl X "isinstance" := by rfl) (hgT : Gl X T := by rfl) (hnT : T ≠ "__name__" := by decide) (hdT : (T == ("__debug__" : Str)) = false := by decide)
    (hs : starEach [e, .Name T p2] X.env = (false, eval e X.env) :: starEach [.Name T p2] X.env := by rfl) (hs2 : starEach [.Name T p2] X.env = (false, eval (.Name T p2) X.env) :: starEach [] X.env := by rfl) (hpl : (backTo pos (starEach [.Name T p2] X.env)).any (·.1) = false := by rfl) :
    DE X E (.Call (.Name "isinstance" p) [e, .Name T p2] [] pos) (fIs (isB CL T') f) :=
  PE.mono (pe_callB (id := "isinstance") call_isi hg hm (by decide +kernel) (pa_cons he (pa_cons (pe_bltn (v := .ty T') hgT hmT hv rfl hnT hdT) pa_nil hs2) hs) (by decide) (by decide) hs hpl) fun σ H Q h => isi_of (.ty T') (fun m Ω H d v b c r e => let ⟨t, _, h⟩ := isB_ok I c hT r e; ⟨t, h⟩) h
theorem de_isC (I : IsaF X.K CL) (he : DE X E e f) (hm : X.mg "isinstance" = none) (hmC : X.mg c = some (.ref (cad X.K c))) (hc : c ∈ CL) (hg : Gl X "isinstance" := by rfl) (hgT : Gl X c := by rfl) (hdT : (c == ("__debug__" : Str)) = false := by decide)
    (hs : starEach [e, .Name c p2] X.env = (false, eval e X.env) :: starEach [.Name c p2] X.env := by rfl) (hs2 : starEach [.Name c p2] X.env = (false, eval (.Name c p2) X.env) :: starEach [] X.env := by rfl) (hpl : (backTo pos (starEach [.Name c p2] X.env)).any (·.1) = false := by rfl) :
    DE X E (.Call (.Name "isinstance" p) [e, .Name c p2] [] pos) (fIs (isC CL c) f) :=
  PE.mono (pe_callB (id := "isinstance") call_isi hg hm (by decide +kernel) (pa_cons he (pa_cons (pe_glob (v := .ref (cad X.K c)) hgT hmC rfl hdT) pa_nil hs2) hs) (by decide) (by decide) hs hpl) fun σ H Q h => isi_of (.own (cad X.K c)) (fun m Ω H d v b cc r e => isC_ok I cc hc r e) h
/-- isinstance(x, (T, T2)), built-ins -/
def isB2 (CL : List Str) (T T2 : String) (Ω : Om) (d : D) : Option Bool := match isB CL T Ω d with
  | some b => match isB CL T2 Ω d with
    | some b2 => some (b || b2)
    | none => none
  | none => none
theorem de_isB2 {k : Nat} (I : IsaF X.K CL) (he : DE X E e f) (hm : X.mg "isinstance" = none) (hmT : X.mg T = none) (hmT2 : X.mg T2 = none) (hv : bootBuiltins T = some (.type T')) (hv2 : bootBuiltins T2 = some (.type T2')) (hT : T' ∈ (["int", "bool", "str", "list", "tuple", "dict"] : List String) := by decide) (hT2 : T2' ∈ (["int", "bool", "str", "list", "tuple", "dict"] : List String) := by decide)
    (hg : Gl X "isinstance" := by rfl) (hgT : Gl X T := by rfl) (hgT2 : Gl X T2 := by rfl) (hnT : T ≠ "__name__" := by decide) (hdT : (T == ("__debug__" : Str)) = false := by decide) (hnT2 : T2 ≠ "__name__" := by decide) (hdT2 : (T2 == ("__debug__" : Str)) = false := by decide)
    (hs : starEach [e, .Tuple [.Name T p2, .Name T2 p3] k pt] X.env = (false, eval e X.env) :: starEach [.Tuple [.Name T p2, .Name T2 p3] k pt] X.env := by rfl) (hs2 : starEach [.Tuple [.Name T p2, .Name T2 p3] k pt] X.env = (false, eval (.Tuple [.Name T p2, .Name T2 p3] k pt) X.env) :: starEach [] X.env := by rfl)
    (hs3 : starEach [.Name T p2, .Name T2 p3] X.env = (false, eval (.Name T p2) X.env) :: starEach [.Name T2 p3] X.env := by rfl) (hs4 : starEach [.Name T2 p3] X.env = (false, eval (.Name T2 p3) X.env) :: starEach [] X.env := by rfl)
    (hpl : (backTo pos (starEach [.Tuple [.Name T p2, .Name T2 p3] k pt] X.env)).any (·.1) = false := by rfl) :
    DE X E (.Call (.Name "isinstance" p) [e, .Tuple [.Name T p2, .Name T2 p3] k pt] [] pos) (fIs (isB2 CL T' T2') f) :=
  PE.mono (pe_callB (id := "isinstance") call_isiT hg hm (by decide +kernel) (pa_cons he (pa_cons (pe_tup (pa_cons (pe_bltn (v := .ty T') hgT hmT hv rfl hnT hdT) (pa_cons (pe_bltn (v := .ty T2') hgT2 hmT2 hv2 rfl hnT2 hdT2) pa_nil hs4) hs3)) pa_nil hs2) hs) (by decide) (by decide) hs hpl) fun σ H Q h => by
    obtain ⟨m, Γ, Ω, s, h⟩ := h
    refine ⟨m, Γ, Ω, s, (Af.bind (R := Rl X.K) h).imp fun _ _ H1 _ v _ _ _ ⟨m1, Ω1, x, g1, r1, q⟩ => ⟨by show 2 ≤ sizeLine; decide, fun tp htp => ?_⟩⟩
    have g2 : Go X.K m1 Ω1 H1 m1 Ω1 (upd H1 tp (.tup [.ty T', .ty T2'])) := Go.new g1.ok htp
    have r2 := Rl.go g2.toGw g1.ok x _ r1
    unfold isB2 at q
    dsimp only at q
    cases e1 : isB CL T' Ω1 x with
    | none => rw [e1] at q; exact q.elim
    | some b =>
      rw [e1] at q
      dsimp only at q
      cases e2 : isB CL T2' Ω1 x with
      | none => rw [e2] at q; exact q.elim
      | some b2 =>
        rw [e2] at q
        obtain ⟨t, ht, h1, h2⟩ := isB_ok I g2.ok hT r2 e1
        obtain ⟨t', ht', h3, h4⟩ := isB_ok I g2.ok hT2 r2 e2
        have et : PySem.W.kitOne X.K t (.type T2') = some b2 := by
          rw [ht] at ht'
          cases ht'
          exact h4
        refine ⟨v, tp, [.ty T', .ty T2'], t, [.type T', .type T2'], b || b2, rfl, upd_same, .cons (.ty T') (.cons (.ty T2') .nil), h1, ?_, q _ _ _ g2 rl_bl⟩
        refine kitAny_cons h2 (fun hb => ?_) (fun hb => by rw [hb]; rfl)
        refine kitAny_cons et (fun hb2 => ?_) (fun hb2 => by rw [hb2, Bool.or_true])
        rw [hb, hb2]
        exact kitAny_nil
end
end Dn


set_option Elab.async false
set_option linter.all false
set_option maxRecDepth 100000
/-! DnTop: dicts made of pairs, sorted, slices, ==, class constants, walks over dicts. -/
namespace Dn
open PySem L2
section
variable {K : PySem.W.Frag} {m : Mp} {Ω : Om} {H : Hp} {X : Cx}
/-! ### dict(pairs) -/
def asPairs : List D → Option (List (Key × D))
  | [] => some []
  | d :: r => match d with
    | .tup xs => match xs with
      | [k, v] => match keyD k with
        | some k => match asPairs r with
          | some l => some ((k, v) :: l)
          | none => none
        | none => none
      | _ => none
    | _ => none
theorem asPairs_ok : ∀ {ds : List D} {vs : List V} {kvs : List (Key × D)}, RlL K m Ω H ds vs → asPairs ds = some kvs → ∃ (ps : List Addr) (ws : List (Key × V)), vs = ps.map V.ref ∧ Paired (fun p kv => SqT K H p [kV kv.1, kv.2]) ps ws ∧ RlK K m Ω H kvs ws
  | [], vs, kvs, r, e => by
    unfold RlL at r
    unfold asPairs at e
    cases e
    exact ⟨[], [], r, .nil, by unfold RlK; rfl⟩
  | d :: ds, vs, kvs, r, e => by
    unfold RlL at r
    obtain ⟨v, w, ev, h1, h2⟩ := r
    unfold asPairs at e
    cases d with
    | tup xs =>
      match xs, e, h1 with
      | [k, x], e, h1 =>
        dsimp only at e
        cases e1 : keyD k with
        | none => rw [e1] at e; cases e
        | some kk =>
          rw [e1] at e
          dsimp only at e
          cases e2 : asPairs ds with
          | none => rw [e2] at e; cases e
          | some l =>
            rw [e2] at e
            cases e
            obtain ⟨ps, ws, z1, z2, z3⟩ := asPairs_ok h2 e2
            unfold Rl at h1
            obtain ⟨a, us, ea, h3, h4⟩ := h1
            obtain ⟨u1, u2, eu, y1, y2⟩ := h4.two
            have ek := keyD_ok y1 e1
            subst ek eu
            refine ⟨a :: ps, (kk, u2) :: ws, by rw [ev, ea, z1]; rfl, .cons h3.sq z2, ?_⟩
            unfold RlK
            exact ⟨u2, ws, rfl, y2, z3⟩
      | [], e, _ => cases e
      | [_], e, _ => cases e
      | _ :: _ :: _ :: _, e, _ => cases e
    | _ => cases e
theorem rl_dctNew {p : Addr} {kvs : List (Key × D)} {ws : List (Key × V)} (c : CellsOk K m Ω H) (hp : H p = none) (h : RlK K m Ω H kvs ws) : Rl K m Ω (upd H p (.dK ws)) (.dct kvs) (.ref p) := by
  unfold Rl
  exact ⟨p, ws, rfl, .inl upd_same, c.freshL hp, RlK.go (Go.new c hp).toGw c _ _ h⟩
def dDict : OpA := op1 fun d Ω => match asL Ω d with
  | some xs => match asPairs xs with
    | some kvs => some (.ok (.dct (mergeD [] kvs)), Ω)
    | none => none
  | none => none
theorem cd_dict : CallD K dDict (fun xs H Q => ∃ (a : Addr) (ps : List Addr) (kvs : List (Key × V)), xs = [.ref a] ∧ SqL K H a (ps.map V.ref) ∧ Paired (fun p kv => SqT K H p [kV kv.1, kv.2]) ps kvs ∧ ∀ p, H p = none → Q (.ref p) (upd H p (.dK (mergeK [] kvs)))) := by
  intro E m Ω H ds vs Q c r q
  obtain ⟨d, v, ed, ev, h, q1⟩ := op1_of r q
  clear q
  subst ed ev
  cases e1 : asL Ω d with
  | none => rw [e1] at q1; exact q1.elim
  | some xs =>
    rw [e1] at q1
    obtain ⟨a, ws, ea, h1, h2⟩ := asL_ok c h e1
    subst ea
    dsimp only at q1
    cases e2 : asPairs xs with
    | none => rw [e2] at q1; exact q1.elim
    | some kvs =>
      rw [e2] at q1
      obtain ⟨ps, us, z1, z2, z3⟩ := asPairs_ok h2 e2
      subst z1
      exact ⟨a, ps, us, rfl, SqL.of h1, z2, fun p hp => q1 m _ _ (Go.new c hp) (rl_dctNew c hp (z3.merge (by unfold RlK; rfl)))⟩
/-! ### sorted(d), its keys ints, fewer than 64 -/
def intKeys : List (Key × D) → Option (List Int)
  | [] => some []
  | (k, _) :: r => match k with
    | .inl i => match intKeys r with
      | some l => some (i :: l)
      | none => none
    | .inr _ => none
theorem intKeys_ok : ∀ {kvs : List (Key × D)} {ns : List Int}, intKeys kvs = some ns → kvs.map (·.1) = ns.map Sum.inl
  | [], ns, e => by unfold intKeys at e; cases e; rfl
  | (k, d) :: r, ns, e => by
    unfold intKeys at e
    cases k with
    | inr x => cases e
    | inl i =>
      dsimp only at e
      cases e1 : intKeys r with
      | none => rw [e1] at e; cases e
      | some l =>
        rw [e1] at e
        cases e
        rw [List.map_cons, intKeys_ok e1]
        rfl
def dSortK : OpA := op1 fun d Ω => match asK Ω d with
  | some kvs => match intKeys kvs with
    | some ns => if ns.length < 64 then some (.ok (.lst ((sortI ns).map D.int)), Ω) else none
    | none => none
  | none => none
theorem cd_sortK : CallD K dSortK (fun xs H Q => ∃ (a : Addr) (kvs : List (Key × V)) (ks : List Int), xs = [.ref a] ∧ Rd H a (.dK kvs) ∧ kvs.map (·.1) = ks.map Sum.inl ∧ ks.length < 64 ∧
    ∀ (ys : List Int) (p : Addr), ys.Perm ks → ys.Pairwise (· ≤ ·) → H p = none → Q (.ref p) (upd H p (.lst (ys.map V.int)))) := by
  intro E m Ω H ds vs Q c r q
  obtain ⟨d, v, ed, ev, h, q1⟩ := op1_of r q
  clear q
  subst ed ev
  cases e1 : asK Ω d with
  | none => rw [e1] at q1; exact q1.elim
  | some kvs =>
    rw [e1] at q1
    obtain ⟨a, ws, ea, h1, h2⟩ := asK_ok c h e1
    subst ea
    dsimp only at q1
    cases e2 : intKeys kvs with
    | none => rw [e2] at q1; exact q1.elim
    | some ns =>
      rw [e2] at q1
      obtain ⟨hz, q1⟩ := Af.guard q1
      refine ⟨a, ws, ns, rfl, h1, by rw [← h2.keys]; exact intKeys_ok e2, hz, fun ys p hp hs hn => ?_⟩
      rw [sorted_unique (hp.trans (sortI_perm ns).symm) hs (sortI_le ns)]
      exact q1 m _ _ (Go.new c hn) (Rl.newL c hn (rlL_ints _))
/-! ### len(d) -/
def dLenK : OpA := op1 fun d Ω => match asK Ω d with
  | some kvs => some (.ok (.int kvs.length), Ω)
  | none => none
theorem call_lenR : CallR X (.builtin "len") (fun xs H Q => ∃ a kvs, xs = [V.ref a] ∧ Rd H a (.dK kvs) ∧ Q (.int kvs.length) H) := by
  intro pins s σ H xs us Q I r h
  obtain ⟨a, kvs, ex, ha, q⟩ := h
  subst ex
  obtain ⟨u, eu, ru⟩ := vals1 r
  subst eu
  obtain rfl : u = Value.ref a := ru
  exact d_len I ha fun t s' I' => ⟨.int kvs.length, H, I', ⟨t, rfl⟩, q⟩
theorem cd_lenK : CallD K dLenK (fun xs H Q => ∃ a kvs, xs = [V.ref a] ∧ Rd H a (.dK kvs) ∧ Q (.int kvs.length) H) := by
  intro E m Ω H ds vs Q c r q
  obtain ⟨d, v, ed, ev, h, q1⟩ := op1_of r q
  clear q
  subst ed ev
  cases e1 : asK Ω d with
  | none => rw [e1] at q1; exact q1.elim
  | some kvs =>
    rw [e1] at q1
    obtain ⟨a, ws, ea, h1, h2⟩ := asK_ok c h e1
    subst ea
    exact ⟨a, ws, rfl, h1, by rw [← h2.length]; exact q1.now c rl_int⟩
/-! ### sorted(pairs of ints) -/
def asPr : List D → Option (List (Int × Int))
  | [] => some []
  | d :: r => match d with
    | .tup xs => match xs with
      | [x, y] => match x, y with
        | .int i, .int j => match asPr r with
          | some l => some ((i, j) :: l)
          | none => none
        | _, _ => none
      | _ => none
    | _ => none
def prD (p : Int × Int) : D := .tup [.int p.1, .int p.2]
def leP (a b : Int × Int) : Bool := decide (a.1 < b.1 ∨ (a.1 = b.1 ∧ a.2 ≤ b.2))
def sortP (ps : List (Int × Int)) : List (Int × Int) := ps.mergeSort leP
/-- pairs at addresses -/
def PrAt (H : Hp) : List (Int × Int) → List V → Prop
  | [], vs => vs = []
  | p :: ps, vs => ∃ a r, vs = .ref a :: r ∧ H a = some (.tup [.int p.1, .int p.2]) ∧ PrAt H ps r
theorem asPr_ok : ∀ {ds : List D} {vs : List V} {ps : List (Int × Int)}, RlL K m Ω H ds vs → asPr ds = some ps → PrAt H ps vs
  | [], vs, ps, r, e => by unfold RlL at r; unfold asPr at e; cases e; exact r
  | d :: ds, vs, ps, r, e => by
    unfold RlL at r
    obtain ⟨v, w, ev, h1, h2⟩ := r
    unfold asPr at e
    cases d with
    | tup xs =>
      match xs, e, h1 with
      | [x, y], e, h1 =>
        cases x with
        | int i =>
          cases y with
          | int j =>
            dsimp only at e
            cases e1 : asPr ds with
            | none => rw [e1] at e; cases e
            | some l =>
              rw [e1] at e
              cases e
              unfold Rl at h1
              obtain ⟨a, us, ea, h3, h4⟩ := h1
              obtain ⟨u1, u2, eu, y1, y2⟩ := h4.two
              unfold Rl at y1 y2
              subst y1 y2 eu
              rcases h3 with h3 | h3
              · exact ⟨a, w, by rw [ev, ea], h3, asPr_ok h2 e1⟩
              · exact absurd h3.1 (by simp)
          | _ => cases e
        | _ => cases e
      | [], e, _ => cases e
      | [_], e, _ => cases e
      | _ :: _ :: _ :: _, e, _ => cases e
    | _ => cases e
theorem PrAt.mem {ps : List (Int × Int)} : ∀ {vs : List V}, PrAt H ps vs → ∀ x ∈ vs, ∃ t p, x = V.ref t ∧ p ∈ ps ∧ H t = some (.tup [.int p.1, .int p.2]) := by
  induction ps with
  | nil => intro vs h x hx; unfold PrAt at h; subst h; cases hx
  | cons p ps ih =>
    intro vs h x hx
    obtain ⟨a, r, e, h1, h2⟩ := h
    subst e
    rcases List.mem_cons.mp hx with e | hx
    · exact ⟨a, p, e, List.mem_cons_self .., h1⟩
    · obtain ⟨t, q, z1, z2, z3⟩ := ih h2 x hx
      exact ⟨t, q, z1, List.mem_cons_of_mem _ z2, z3⟩
/-- the pair at a value -/
def prOf (H : Hp) (v : V) : Int × Int := match v with
  | .ref a => match H a with
    | some (.tup [.int i, .int j]) => (i, j)
    | _ => (0, 0)
  | _ => (0, 0)
theorem prOf_at {a : Addr} {i j : Int} (h : H a = some (.tup [.int i, .int j])) : prOf H (.ref a) = (i, j) := by
  unfold prOf
  dsimp only
  rw [h]
theorem PrAt.map : ∀ {ps : List (Int × Int)} {vs : List V}, PrAt H ps vs → vs.map (prOf H) = ps
  | [], vs, h => by unfold PrAt at h; subst h; rfl
  | p :: ps, vs, h => by
    obtain ⟨a, r, e, h1, h2⟩ := h
    subst e
    rw [List.map_cons, PrAt.map h2, prOf_at h1]
theorem rl_of_pairs (hH : ∀ x ∈ vs, ∃ t, x = V.ref t ∧ H t = some (.tup [.int (prOf H x).1, .int (prOf H x).2])) : RlL K m Ω H ((vs.map (prOf H)).map prD) vs := by
  induction vs with
  | nil => unfold RlL; rfl
  | cons v vs ih =>
    obtain ⟨t, e, h⟩ := hH v (List.mem_cons_self ..)
    rw [List.map_cons, List.map_cons]
    unfold RlL
    refine ⟨v, vs, rfl, ?_, ih fun x hx => hH x (List.mem_cons_of_mem _ hx)⟩
    unfold prD Rl
    exact ⟨t, _, e, .inl h, rlL_2 rl_int rl_int⟩
theorem leP_total (a b : Int × Int) : leP a b || leP b a := by
  unfold leP
  simp only [Bool.or_eq_true, decide_eq_true_eq]
  omega
theorem leP_trans (a b c : Int × Int) (h1 : leP a b = true) (h2 : leP b c = true) : leP a c = true := by
  unfold leP at *
  simp only [decide_eq_true_eq] at *
  omega
theorem leP_anti {a b : Int × Int} (h1 : leP a b = true) (h2 : leP b a = true) : a = b := by
  unfold leP at *
  simp only [decide_eq_true_eq] at *
  exact Prod.ext (by omega) (by omega)
theorem sortedP_unique : ∀ {xs ys : List (Int × Int)}, xs.Perm ys → xs.Pairwise (fun a b => leP a b = true) → ys.Pairwise (fun a b => leP a b = true) → xs = ys
  | [], ys, p, _, _ => (List.Perm.nil_eq p)
  | x :: xs, ys, p, h1, h2 => by
    cases ys with
    | nil => exact absurd p.length_eq (by simp)
    | cons y ys =>
      have hx : x ∈ y :: ys := p.subset (List.mem_cons_self ..)
      have hy : y ∈ x :: xs := p.symm.subset (List.mem_cons_self ..)
      have e : x = y := by
        rw [List.pairwise_cons] at h1 h2
        rcases List.mem_cons.mp hx with e | hx
        · exact e
        · rcases List.mem_cons.mp hy with e | hy
          · exact e.symm
          · exact leP_anti (h1.1 y hy) (h2.1 x hx)
      subst e
      rw [sortedP_unique (List.Perm.cons_inv p) (List.pairwise_cons.mp h1).2 (List.pairwise_cons.mp h2).2]
def dSortP : OpA := op1 fun d Ω => match asL Ω d with
  | some xs => match asPr xs with
    | some ps => some (.ok (.lst ((sortP ps).map prD)), Ω)
    | none => none
  | none => none
theorem cd_sortP : CallD K dSortP (rSortedPO K) := by
  intro E m Ω H ds vs Q c r q
  obtain ⟨d, v, ed, ev, h, q1⟩ := op1_of r q
  clear q
  subst ed ev
  cases e1 : asL Ω d with
  | none => rw [e1] at q1; exact q1.elim
  | some xs =>
    rw [e1] at q1
    obtain ⟨a, ws, ea, h1, h2⟩ := asL_ok c h e1
    subst ea
    dsimp only at q1
    cases e2 : asPr xs with
    | none => rw [e2] at q1; exact q1.elim
    | some ps =>
      rw [e2] at q1
      have hp := asPr_ok h2 e2
      have at_ : ∀ x ∈ ws, ∃ t, x = V.ref t ∧ H t = some (.tup [.int (prOf H x).1, .int (prOf H x).2]) := fun x hx => by
        obtain ⟨t, p, z1, z2, z3⟩ := hp.mem x hx
        subst z1
        exact ⟨t, rfl, by rw [prOf_at z3]; exact z3⟩
      refine ⟨a, ws, prOf H, rfl, SqL.of h1, at_, fun ys p hs hb hn => ?_⟩
      have perm : (ys.map (prOf H)).Perm ps := by
        have := hb.perm.map (prOf H)
        rw [hp.map] at this
        exact this
      have srt : (ys.map (prOf H)).Pairwise (fun a b => leP a b = true) := by
        rw [List.pairwise_map]
        refine List.Pairwise.imp ?_ hs
        intro x y hxy
        have z := SrtO.lexB_no.mp hxy
        unfold leP
        simp only [decide_eq_true_eq]
        omega
      have e3 : ys.map (prOf H) = sortP ps := sortedP_unique (perm.trans (List.mergeSort_perm ps leP).symm) srt (List.pairwise_mergeSort leP_trans leP_total ps)
      dsimp only at q1
      rw [← e3] at q1
      have atY : ∀ x ∈ ys, ∃ t, x = V.ref t ∧ H t = some (.tup [.int (prOf H x).1, .int (prOf H x).2]) := fun x hx => at_ x (hb.perm.subset hx)
      exact q1 m _ _ (Go.new c hn) (Rl.newL c hn (rl_of_pairs atY))
end
/-! ### a walk over a dict in a comprehension -/
section
variable {K : PySem.W.Frag} {m : Mp} {Ω : Om} {H H' : Hp} {a : Addr} {ws : List (Key × V)}
theorem rd_inj {us : List (Key × V)} (h : Rd H a (.dK ws)) (h' : Rd H a (.dK us)) : us = ws := by
  rcases h with h | ⟨o, h⟩ <;> rcases h' with h' | ⟨o', h'⟩ <;> rw [h] at h' <;> cases h' <;> rfl
theorem rd_ne (h : Rd H a (.dK ws)) {b : Addr} {o : HO} (e : H b = some o) (h1 : ∀ us, o ≠ .dK us) (h2 : ∀ x us, o ≠ .frz x (.dK us)) : b ≠ a := fun z => by
  subst z
  rcases h with h | ⟨x, h⟩ <;> rw [h] at e <;> cases e
  · exact h1 _ rfl
  · exact h2 _ _ rfl
mutual
theorem Rl.lk (hb : ∀ b, b ≠ a → H b = H' b) (h : Rd H a (.dK ws)) (h' : Rd H' a (.dK ws)) : ∀ (d : D) (v : V), Rl K m Ω H d v → Rl K m Ω H' d v
  | .non, v, r => r
  | .bl _, v, r => r
  | .int _, v, r => r
  | .str _, v, r => r
  | .tup xs, v, r => by
    unfold Rl at r ⊢
    obtain ⟨b, vs, ev, h1, h2⟩ := r
    refine ⟨b, vs, ev, h1.imp (fun h1 => ?_) (fun z => z), RlL.lk hb h h' xs vs h2⟩
    rw [← hb b (rd_ne h h1 (fun _ z => by cases z) (fun _ _ z => by cases z))]; exact h1
  | .lst xs, v, r => by
    unfold Rl at r ⊢
    obtain ⟨b, vs, ev, h1, hl, h2⟩ := r
    exact ⟨b, vs, ev, by rw [← hb b (rd_ne h h1 (fun _ z => by cases z) (fun _ _ z => by cases z))]; exact h1, hl, RlL.lk hb h h' xs vs h2⟩
  | .dct xs, v, r => by
    unfold Rl at r ⊢
    obtain ⟨b, vs, ev, h1, hl, h2⟩ := r
    refine ⟨b, vs, ev, ?_, hl, RlK.lk hb h h' xs vs h2⟩
    by_cases e : b = a
    · subst e
      rw [rd_inj h h1]; exact h'
    · rcases h1 with h1 | ⟨o, h1⟩
      · exact .inl (by rw [← hb b e]; exact h1)
      · exact .inr ⟨o, by rw [← hb b e]; exact h1⟩
  | .obj c fs, v, r => by
    unfold Rl at r ⊢
    obtain ⟨b, dx, vs, ev, h1, hl, h2⟩ := r
    exact ⟨b, dx, vs, ev, by rw [← hb b (rd_ne h h1 (fun _ z => by cases z) (fun _ _ z => by cases z))]; exact h1, hl, RlF.lk hb h h' fs vs h2⟩
  | .ref n, v, r => by unfold Rl at r ⊢; exact r
  | .scr xs, v, r => by
    unfold Rl at r ⊢
    obtain ⟨b, ev, h1⟩ := r
    refine ⟨b, ev, ?_⟩
    rcases h1 with ⟨o, h1⟩ | h1
    · exact .inl ⟨o, by rw [← hb b (rd_ne h h1 (fun _ z => by cases z) (fun _ _ z => by cases z))]; exact h1⟩
    · exact .inr h1
  | .cl _, v, r => by unfold Rl at r ⊢; exact r
theorem RlL.lk (hb : ∀ b, b ≠ a → H b = H' b) (h : Rd H a (.dK ws)) (h' : Rd H' a (.dK ws)) : ∀ (ds : List D) (vs : List V), RlL K m Ω H ds vs → RlL K m Ω H' ds vs
  | [], vs, r => by unfold RlL at r ⊢; exact r
  | d :: ds, vs, r => by
    unfold RlL at r ⊢
    obtain ⟨v, w, e, h1, h2⟩ := r
    exact ⟨v, w, e, Rl.lk hb h h' d v h1, RlL.lk hb h h' ds w h2⟩
theorem RlK.lk (hb : ∀ b, b ≠ a → H b = H' b) (h : Rd H a (.dK ws)) (h' : Rd H' a (.dK ws)) : ∀ (ds : List (Key × D)) (vs : List (Key × V)), RlK K m Ω H ds vs → RlK K m Ω H' ds vs
  | [], vs, r => by unfold RlK at r ⊢; exact r
  | (k, d) :: ds, vs, r => by
    unfold RlK at r ⊢
    obtain ⟨v, w, e, h1, h2⟩ := r
    exact ⟨v, w, e, Rl.lk hb h h' d v h1, RlK.lk hb h h' ds w h2⟩
theorem RlF.lk (hb : ∀ b, b ≠ a → H b = H' b) (h : Rd H a (.dK ws)) (h' : Rd H' a (.dK ws)) : ∀ (ds : List (Str × D)) (vs : List (Str × V)), RlF K m Ω H ds vs → RlF K m Ω H' ds vs
  | [], vs, r => by unfold RlF at r ⊢; exact r
  | (k, d) :: ds, vs, r => by
    unfold RlF at r ⊢
    obtain ⟨v, w, e, h1, h2⟩ := r
    exact ⟨v, w, e, Rl.lk hb h h' d v h1, RlF.lk hb h h' ds w h2⟩
end
theorem CellsOk.lk (c : CellsOk K m Ω H) (hl : ¬ Live m Ω a) (hb : ∀ b, b ≠ a → H b = H' b) (h : Rd H a (.dK ws)) (h' : Rd H' a (.dK ws)) : CellsOk K m Ω H' := by
  refine ⟨c.len, c.nd, fun n x b h1 h2 => ?_, fun b hh => ?_⟩
  · have q := c.at_ n x b h1 h2
    cases x with
    | dead =>
      by_cases e : b = a
      · subst e
        rcases h' with h' | ⟨o, h'⟩
        · exact ⟨_, h'⟩
        · exact ⟨_, h'⟩
      · obtain ⟨o, q⟩ := q
        exact ⟨o, by rw [← hb b e]; exact q⟩
    | lst xs =>
      have hn : b ≠ a := fun e => hl (by rw [← e]; exact .inl ⟨n, _, h2, h1, fun z => by cases z⟩)
      obtain ⟨vs, q1, q2⟩ := q
      exact ⟨vs, by rw [← hb b hn]; exact q1, RlL.lk hb h h' _ _ q2⟩
    | dct xs =>
      have hn : b ≠ a := fun e => hl (by rw [← e]; exact .inl ⟨n, _, h2, h1, fun z => by cases z⟩)
      obtain ⟨vs, q1, q2⟩ := q
      exact ⟨vs, by rw [← hb b hn]; exact q1, RlK.lk hb h h' _ _ q2⟩
    | ins cc xs =>
      have hn : b ≠ a := fun e => hl (by rw [← e]; exact .inl ⟨n, _, h2, h1, fun z => by cases z⟩)
      obtain ⟨dx, vs, q1, q2⟩ := q
      exact ⟨dx, vs, by rw [← hb b hn]; exact q1, RlF.lk hb h h' _ _ q2⟩
  · obtain ⟨⟨vs, q⟩, z⟩ := c.hl b hh
    have hn : b ≠ a := fun e => hl (by rw [← e]; exact .inr hh)
    exact ⟨⟨vs, by rw [← hb b hn]; exact q⟩, z⟩
def keysD (kvs : List (Key × D)) : List D := kvs.map fun kv => unkey kv.1
theorem yields_keys {o : Obj} {kvs : List (Key × D)} (c : CellsOk K m Ω H) (h1 : H a = some (.frz o (.dK ws))) (h2 : RlK K m Ω H kvs ws) : Yields K m Ω H (keysD kvs) (Itk a o ws) := fun i m' Ω' H' g ok => by
  have e1 := g.frame _ _ h1 (c.frz h1)
  have hk := h2.keys
  have hl := h2.length
  refine ⟨fun d hd => ?_, fun hi => ⟨e1, by unfold keysD at hi; rw [List.length_map] at hi; rw [← hl]; exact hi⟩⟩
  unfold keysD at hd
  rw [List.getElem?_map] at hd
  cases e : kvs[i]? with
  | none => rw [e] at hd; cases hd
  | some kv =>
    rw [e] at hd
    cases hd
    have hi : i < kvs.length := (List.getElem?_eq_some_iff.mp e).1
    refine ⟨⟨e1, by rw [← hl]; exact hi⟩, fun x H'' y => ?_⟩
    obtain ⟨eH, k, v, ek, ex⟩ := y
    subst eH ex
    have : k = kv.1 := by
      have z : (kvs.map (·.1))[i]? = (ws.map (·.1))[i]? := by rw [hk]
      rw [List.getElem?_map, List.getElem?_map, e, ek] at z
      exact (Option.some.inj z).symm
    rw [this]
    exact ⟨Go.refl ok, rl_unkey _⟩
end
def fKeys (i : Nat) : Den (List D) := fun Γ Ω => match Γ[i]? with
  | some (some (.dct kvs)) => some (.ok (keysD kvs), Ω)
  | _ => none
section
variable {X : Cx} {E : St → XK} {elt tg : Expr} {ifs : List Expr} {scope : Scope} {own : List (Str × Nat)} {pos xpos : Pos} {t : Tg} {ft : Den Bool} {fe : Den D} {i : Nat} {x : Str}
theorem keys_it {σ : St} {H : Hp} {R : It → Hp → Prop} {a : Addr} {o : Obj} {us : List (Key × V)} (hs : σ[i]? = some (some (.ref a))) (hf : H a = some (.frz o (.dK us))) (h : tIt X.K E (fKeys i) σ H R) : iKeys (tVar i) σ H R := by
  obtain ⟨m, Γ, Ω, s, h⟩ := h
  unfold fKeys at h
  cases e : Γ[i]? with
  | none => rw [e] at h; exact h.elim
  | some z =>
    rw [e] at h
    cases z with
    | none => exact h.elim
    | some d =>
      cases d with
      | dct kvs =>
        obtain ⟨v, h1, h2⟩ := s.slots.2 i _ e
        rw [hs] at h1
        cases h1
        unfold Rl at h2
        obtain ⟨b, ws, eb, hr, hl, hk⟩ := h2
        cases eb
        have ew := rd_inj (.inr ⟨o, hf⟩) hr
        subst ew
        exact ⟨_, hs, a, o, rfl, .inl ⟨ws, hf, h m _ H (Go.refl s.cells) (yields_keys s.cells hf hk)⟩⟩
      | _ => exact h.elim
theorem loopC_ok {tt : DenG} {Γ : Gm} : ∀ {ds acc : List D} {Ω Ω' : Om} {e : Xn}, loopC tt ft fe Γ ds acc Ω = some (.ex e, Ω') → False
  | [], acc, Ω, Ω', e, h => by unfold loopC at h; cases h
  | d :: ds, acc, Ω, Ω', e, h => by
    unfold loopC at h
    split at h
    · cases h
    · split at h
      · split at h
        · split at h
          · exact loopC_ok h
          · cases h
        · cases h
      · exact loopC_ok h
      · cases h
theorem lcK_of (hv : ∀ i ∈ t.slots, i ∈ own.map (·.2)) {σ : St} {H : Hp} {Q : VK} (h : tD X.K E (fLc (fKeys i) t ft fe (own.map (·.2))) σ H Q) :
    tLockE (tLc (iKeys (tVar i)) (t.rd X.K) (tDT X.K E0S ft) (tD X.K E0S fe) (own.map (·.2))) σ H Q ∨ tLc (iKeys (tVar i)) (t.rd X.K) (tDT X.K E0S ft) (tD X.K E0S fe) (own.map (·.2)) σ H Q := by
  have h0 := h
  obtain ⟨m, Γ, Ω, s, h⟩ := h
  unfold fLc fKeys at h
  cases e : Γ[i]? with
  | none => rw [e] at h; exact h.elim
  | some z =>
    rw [e] at h
    cases z with
    | none => exact h.elim
    | some d =>
      cases d with
      | dct kvs =>
        obtain ⟨v, h1, h2⟩ := s.slots.2 i _ e
        unfold Rl at h2
        obtain ⟨a, ws, eb, hr, hl, hk⟩ := h2
        subst eb
        rcases hr with hr | ⟨o, hr⟩
        · left
          refine ⟨a, .dK ws, hr, True.intro, fun od => ?_⟩
          have rf : Rd (upd H a (.frz od (.dK ws))) a (.dK ws) := .inr ⟨od, upd_same⟩
          have hb : ∀ b, b ≠ a → H b = upd H a (.frz od (.dK ws)) b := fun b hn => by rw [upd_ne hn]
          have c2 := s.cells.lk hl hb (.inl hr) rf
          have sr2 : SR X.K m Γ Ω σ (upd H a (.frz od (.dK ws))) := ⟨c2, s.slots.1, fun j d hd => let ⟨v, z1, z2⟩ := s.slots.2 j d hd; ⟨v, z1, Rl.lk hb (.inl hr) rf d v z2⟩⟩
          suffices hh : tD X.K E (fLc (fKeys i) t ft fe (own.map (·.2))) σ (upd H a (.frz od (.dK ws))) (fun v H' => H' a = some (.frz od (.dK ws)) ∧ Q v (upd H' a (.dK ws))) by
            have hh2 := lc_of (X := X) (E := E) hv hh
            exact keys_it (X := X) (E := E) h1 upd_same hh2
          refine ⟨m, Γ, Ω, sr2, ?_⟩
          have key : ∀ {m' Ω' H'}, Go X.K m Ω (upd H a (.frz od (.dK ws))) m' Ω' H' → H' a = some (.frz od (.dK ws)) ∧ Go X.K m Ω H m' Ω' (upd H' a (.dK ws)) ∧ (∀ d v, Rl X.K m' Ω' H' d v → Rl X.K m' Ω' (upd H' a (.dK ws)) d v) := fun {m' Ω' H'} g => by
            have ea : H' a = some (.frz od (.dK ws)) := g.frame _ _ upd_same hl
            have hb' : ∀ b, b ≠ a → H' b = upd H' a (.dK ws) b := fun b hn => by rw [upd_ne hn]
            have rf' : Rd H' a (.dK ws) := .inr ⟨od, ea⟩
            have ru : Rd (upd H' a (.dK ws)) a (.dK ws) := .inl upd_same
            have hl' : ¬ Live m' Ω' a := fun l => hl (g.norev a _ upd_same l)
            refine ⟨ea, ⟨⟨g.pre, fun b u q l => ?_, fun b u q l => ?_⟩, g.ok.lk hl' hb' rf' ru, fun b u hh q => ?_, g.hs⟩, fun d v r => Rl.lk hb' rf' ru d v r⟩
            · by_cases hn : b = a
              · subst hn; rw [hr] at q; cases q; exact upd_same
              · rw [upd_ne hn]; exact g.frame b u (by rw [upd_ne hn]; exact q) l
            · by_cases hn : b = a
              · subst hn; exact (hl' l).elim
              · exact g.norev b u (by rw [upd_ne hn]; exact q) l
            · have hn : b ≠ a := fun e => hl (by rw [← e]; exact .inr hh)
              rw [upd_ne hn]; exact g.hk b u hh (by rw [upd_ne hn]; exact q)
          have er : fLc (fKeys i) t ft fe (own.map (·.2)) Γ Ω = bR (some (.ok (keysD kvs), Ω)) (fun ds Ω1 => loopC t.den ft fe (wipeG Γ (own.map (·.2))) ds [] Ω1) := by
            unfold fLc fKeys
            rw [e]
          rw [er]
          have h : Af X.K (Rl X.K) (E σ) Q m Ω H (loopC t.den ft fe (wipeG Γ (own.map (·.2))) (keysD kvs) [] Ω) := h
          rw [bR_ok]
          generalize loopE : loopC t.den ft fe (wipeG Γ (own.map (·.2))) (keysD kvs) [] Ω = rr at h ⊢
          cases rr with
          | none => exact h
          | some z =>
            obtain ⟨q, Ω'⟩ := z
            cases q with
            | ok d =>
              intro m' v H' g r
              obtain ⟨z1, z2, z3⟩ := key g
              exact ⟨z1, h m' v _ z2 (z3 d v r)⟩
            | ex x =>
              intro m' H' cls dd g r
              exact (loopC_ok loopE).elim
        · right
          have hh2 := lc_of (X := X) (E := E) hv h0
          exact keys_it (X := X) (E := E) h1 hr hh2
      | _ => exact h.elim
theorem de_lcK (i : Nat) (hc : X.calm = true) (hN : X.N.Nodup) (ok : BlkOk X.N X.env.scope scope own) (hv : ∀ i ∈ t.slots, i ∈ own.map (·.2))
    (hg : ∀ (s : Shared) (H : Hp) (C : Addr) (cl : List (Str × Addr)) (fp : List Addr), PG (X.blk s H scope (compEnvC scope cl C X.env) fp) tg (t.rd X.K))
    (ht : ∀ (s : Shared) (H : Hp) (C : Addr) (cl : List (Str × Addr)) (fp : List Addr), DTs (X.blk s H scope (compEnvC scope cl C X.env) fp) E0S ifs ft)
    (he : ∀ (s : Shared) (H : Hp) (C : Addr) (cl : List (Str × Addr)) (fp : List Addr), DE (X.blk s H scope (compEnvC scope cl C X.env) fp) E0S elt fe)
    (hx : X.N[i]? = some x := by rfl) (hvx : Vis X.env.scope x := by first | exact Or.inl rfl | exact Or.inr (Or.inl rfl) | exact Or.inr (Or.inr rfl)) (hd : (x == ("__debug__" : Str)) = false := by decide) (hcd : (x == ("__classdict__" : Str)) = false := by decide)
    (hs : ∀ v, foldedSetIterable (.Name x xpos) X.env v = pure v := by intro _; rfl) : DE X E (.ListComp elt [⟨tg, .Name x xpos, ifs, 0⟩] scope pos) (fLc (fKeys i) t ft fe (own.map (·.2))) := by
  have h1 := pe_lc (elt := elt) (ifs := ifs) (tt := tDT X.K E0S ft) (te := tD X.K E0S fe) (pos := pos) hc hN (pi_keys (tg := tg) (pe_var (i := i) (pos := xpos) hx hvx hd hcd)) ok hg ht he hs
  have h2 := pe_lock h1
  refine ⟨fun pins s σ H Q I h => ?_⟩
  rcases lcK_of hv h with h | h
  · exact h2.run pins s σ H Q I h
  · exact h1.run pins s σ H Q I h
theorem ds_setLcK (i j : Nat) {y : Str} {py spos : Pos} (hc : X.calm = true) (hN : X.N.Nodup) (ok : BlkOk X.N X.env.scope scope own) (hv : ∀ i ∈ t.slots, i ∈ own.map (·.2))
    (hg : ∀ (s : Shared) (H : Hp) (C : Addr) (cl : List (Str × Addr)) (fp : List Addr), PG (X.blk s H scope (compEnvC scope cl C X.env) fp) tg (t.rd X.K))
    (ht : ∀ (s : Shared) (H : Hp) (C : Addr) (cl : List (Str × Addr)) (fp : List Addr), DTs (X.blk s H scope (compEnvC scope cl C X.env) fp) E0S ifs ft)
    (he : ∀ (s : Shared) (H : Hp) (C : Addr) (cl : List (Str × Addr)) (fp : List Addr), DE (X.blk s H scope (compEnvC scope cl C X.env) fp) E0S elt fe)
    (hsw : swapsWith (.ListComp elt [⟨tg, .Name x xpos, ifs, 0⟩] scope pos) (some (.Name y py)) spos.line X.env = pure true)
    (hy : X.N[j]? = some y := by rfl) (hyl : X.env.scope.names.lookup y = some .local := by rfl)
    (hx : X.N[i]? = some x := by rfl) (hvx : Vis X.env.scope x := by first | exact Or.inl rfl | exact Or.inr (Or.inl rfl) | exact Or.inr (Or.inr rfl)) (hd : (x == ("__debug__" : Str)) = false := by decide) (hcd : (x == ("__classdict__" : Str)) = false := by decide)
    (hs : ∀ v, foldedSetIterable (.Name x xpos) X.env v = pure v := by intro _; rfl) : DS X E (.Assign [.Name y py] (.ListComp elt [⟨tg, .Name x xpos, ifs, 0⟩] scope pos) spos) (sSet j (fLc (fKeys i) t ft fe (own.map (·.2)))) := by
  have h1 := ps_setLc (elt := elt) (ifs := ifs) (tt := tDT X.K E0S ft) (te := tD X.K E0S fe) (i := j) hc hN hy hyl hsw (pi_keys (tg := tg) (pe_var (i := i) (pos := xpos) hx hvx hd hcd)) ok hg ht he hs
  have h2 := ps_lock h1
  refine ⟨fun pins s σ H D I h => ?_⟩
  obtain ⟨m, Γ, Ω, s', h⟩ := h
  have h3 : tD X.K E (fLc (fKeys i) t ft fe (own.map (·.2))) σ H (fun v H1 => D.nx (σ.set j (some v)) H1) := ⟨m, Γ, Ω, s', (AfS.val s'.slots s'.cells h).imp fun _ _ _ _ _ _ _ _ ⟨m1, Ω1, d, g1, r1, q⟩ => q m1 _ _ (Go.refl g1.ok) ((s'.go g1).slots.set r1)⟩
  rcases lcK_of hv h3 with h | h
  · exact h2.run pins s σ H D I h
  · exact h1.run pins s σ H D I h
end
/-! ### slices -/
def fNo : Den (Option Int) := fC none
def fPt (f : Den D) : Den (Option Int) := bnd f fun d _ Ω => match d with
  | .int i => some (.ok (some i), Ω)
  | _ => none
def tDO (K : PySem.W.Frag) (E : St → XK) (f : Den (Option Int)) : TO := fun σ H Q => tG K (fun _ _ _ a b => a = b) E f σ H Q
theorem PO.mono {X : Cx} {e : Option Expr} {t t' : TO} (h : PO X e t) (i : ∀ σ H Q, t' σ H Q → t σ H Q) : PO X e t' := ⟨fun pins s σ H Q I q => h.run pins s σ H Q I (i σ H Q q)⟩
def cutD (xs : List D) (lo hi : Option Int) : List D := (xs.drop (HT.sIx xs.length 0 lo)).take (HT.sIx xs.length xs.length hi - HT.sIx xs.length 0 lo)
def fSl (f : Den D) (l h : Den (Option Int)) : Den D := bnd f fun x => bnd l fun lo => bnd h fun hi _ Ω => match asL Ω x with
  | some xs => some (.ok (.lst (cutD xs lo hi)), Ω)
  | none => none
section
variable {X : Cx} {E : St → XK} {e : Expr} {lo hi : Option Expr} {f : Den D} {fl fh : Den (Option Int)} {pos p2 : Pos}
theorem do_no : PO X none (tDO X.K E fNo) := PO.mono po_none fun σ H Q h => by
  obtain ⟨m, Γ, Ω, s, h⟩ := h
  exact h m none H (Go.refl s.cells) rfl
theorem do_pt (h : DE X E e f) : PO X (some e) (tDO X.K E (fPt f)) := PO.mono (po_some h) fun σ H Q h => by
  obtain ⟨m, Γ, Ω, s, h⟩ := h
  refine ⟨m, Γ, Ω, s, (Af.bind (R := Rl X.K) h).imp fun _ _ _ _ _ _ _ _ ⟨m1, Ω1, x, g1, r1, q⟩ => ?_⟩
  cases x with
  | int i => unfold Rl at r1; exact ⟨i, r1, q m1 _ _ (Go.refl g1.ok) rfl⟩
  | _ => exact q.elim
theorem RlL.drop {K : PySem.W.Frag} {m : Mp} {Ω : Om} {H : Hp} : ∀ {ds : List D} {vs : List V} (n : Nat), RlL K m Ω H ds vs → RlL K m Ω H (ds.drop n) (vs.drop n)
  | ds, vs, 0, h => h
  | [], vs, n + 1, h => by unfold RlL at h; subst h; unfold RlL; rfl
  | d :: ds, vs, n + 1, h => by
    unfold RlL at h
    obtain ⟨v, r, e, h1, h2⟩ := h
    subst e
    exact RlL.drop n h2
theorem RlL.takeN {K : PySem.W.Frag} {m : Mp} {Ω : Om} {H : Hp} : ∀ {ds : List D} {vs : List V} (n : Nat), RlL K m Ω H ds vs → RlL K m Ω H (ds.take n) (vs.take n)
  | ds, vs, 0, h => by rw [List.take_zero, List.take_zero]; unfold RlL; rfl
  | [], vs, n + 1, h => by unfold RlL at h; subst h; unfold RlL; rfl
  | d :: ds, vs, n + 1, h => by
    unfold RlL at h
    obtain ⟨v, r, e, h1, h2⟩ := h
    subst e
    rw [List.take_succ_cons, List.take_succ_cons]
    unfold RlL
    exact ⟨v, _, rfl, h1, RlL.takeN n h2⟩
theorem de_slice (he : DE X E e f) (hl : PO X lo (tDO X.K E fl)) (hh : PO X hi (tDO X.K E fh)) : DE X E (.Subscript e (.Slice lo hi none p2) pos) (fSl f fl fh) := PE.mono (pe_slice sl_list he hl hh) fun σ H Q h => by
  obtain ⟨m, Γ, Ω, s, h⟩ := h
  refine ⟨m, Γ, Ω, s, (Af.bind (R := Rl X.K) h).imp fun _ _ _ _ _ _ _ _ ⟨m1, Ω1, x, g1, r1, q⟩ => ⟨m1, Γ, Ω1, s.go g1, (Af.bind (R := fun _ _ _ a b => a = b) q).imp fun _ _ _ _ _ _ _ _ ⟨m2, Ω2, lo, g2, e2, q2⟩ => ?_⟩⟩
  subst e2
  refine ⟨m2, Γ, Ω2, (s.go g1).go g2, (Af.bind (R := fun _ _ _ a b => a = b) q2).imp fun _ _ _ _ _ _ _ _ ⟨m3, Ω3, hi, g3, e3, q3⟩ => ?_⟩
  subst e3
  dsimp only at q3
  cases e4 : asL Ω3 x with
  | none => rw [e4] at q3; exact q3.elim
  | some xs =>
    rw [e4] at q3
    obtain ⟨a, ws, ev, h1, h2⟩ := asL_ok g3.ok (Rl.go (g2.trans g3).toGw g1.ok x _ r1) e4
    refine ⟨a, ws, ev, SqL.of h1, fun p hp => q3 m3 _ _ (Go.new g3.ok hp) (Rl.newL g3.ok hp ?_)⟩
    unfold cutD cutV
    rw [h2.length]
    exact RlL.takeN _ (RlL.drop _ h2)
end
/-! ### own == -/
def dOwn (c : Str) (n : Nat) (F : FD) : Op2 := fun x y Ω => match asO c Ω x with
  | some _ => match asO c Ω y with
    | some _ => if [x, y].length = n then match F [x, y] Ω with
      | some (.ok d, Ω') => match d with
        | .bl b => some (.ok (.bl b), Ω')
        | _ => none
      | _ => none
      else none
    | none => none
  | none => none
structure OwnG (P : Program) (w : World) (K : PySem.W.Frag) (mg : Str → Option Value) (base : Heap) (c mt : Str) (ps : List Str) (k : Nat) (F : FD) : Prop where
  ex : ∃ f fd, PySem.W.findIn K (.ref (cad K c)) mt = some (some (.ref f)) ∧ PySem.W.isFn K (.ref f) = true ∧ FnOkG P w K mg base (L2N.CX P w) k f fd ps (spD K ps.length F) ∧ Binds K fd ps []
def rOwn (K : PySem.W.Frag) (c : Str) (n : Nat) (F : FD) : R2 := fun x y H Q => ∃ a b dx dy fs gs, x = .ref a ∧ y = .ref b ∧ H a = some (.ins (cad K c) dx fs) ∧ H b = some (.ins (cad K c) dy gs) ∧ spD K n F [x, y] H (fun v H' => (∃ b, v = .bl b) ∧ Q v H') fun _ _ _ => False
section
variable {X : Cx} {E : St → XK} {a b : Expr} {f g : Den D} {pos : Pos} {c : Str} {ps : List Str} {k : Nat} {F : FD}
theorem op_ownEq (G : OwnG X.prog X.w X.K X.mg X.base c "__eq__" ps k F) (hr : RoomG k X.A) : OpR X (compareOp .Eq) (rOwn X.K c ps.length F) := by
  intro pins s σ H x y v u Q I rx ry h
  obtain ⟨a, b, dx, dy, fs, gs, ex, ey, ha, hb, sp⟩ := h
  subst ex ey
  obtain rfl : v = Value.ref a := rx
  obtain rfl : u = Value.ref b := ry
  obtain ⟨f, fd, hs, hf, ok, bi⟩ := G.ex
  obtain ⟨mA, J, _⟩ := ins_get I.hok ha
  obtain ⟨mB, J', _⟩ := ins_get I.hok hb
  obtain ⟨od, J, _⟩ := J.look
  obtain ⟨od', J', _⟩ := J'.look
  obtain ⟨mm, hF⟩ := I.fr
  show wpAny (model X.prog X.w) X.A (richCompare .Eq (.ref a) (.ref b)) (EP X pins σ Q) X.xe s
  refine PySem.W.cmp_K (op := .Eq) (tb := .ref (cad X.K c)) hr.units0 hF I.ok.mod.kin J J'.type (by simp [PySem.W.notFirst]) hs hf ?_
  refine thn (run_fnG (E := fun _ => fun _ _ _ => False) (us := [.ref a, .ref b]) (vs := [.ref a, .ref b]) ok hr bi (fun pins H s e s' I h => by
    obtain ⟨_, _, _, _, _, _, _, _, _, _, _, _, z⟩ := h
    exact z.elim) I (.cons rfl (.cons rfl .nil)) sp) fun w s' ⟨z, H', I', rz, ⟨b', eb⟩, q⟩ => ?_
  subst eb
  cases rz
  exact ⟨.bl b', H', I', rfl, q⟩
theorem od_own : OpD X.K (dOwn c ps.length F) (rOwn X.K c ps.length F) := by
  intro E m Ω H x y v u Q cc rx ry q
  unfold dOwn at q
  cases e1 : asO c Ω x with
  | none => rw [e1] at q; exact q.elim
  | some fs =>
    rw [e1] at q
    dsimp only at q
    cases e2 : asO c Ω y with
    | none => rw [e2] at q; exact q.elim
    | some gs =>
      rw [e2] at q
      obtain ⟨hl, q⟩ := Af.guard q
      obtain ⟨a, dx, us, ea, h1, _⟩ := asO_ok cc rx e1
      obtain ⟨b, dy, ws, eb, h2, _⟩ := asO_ok cc ry e2
      refine ⟨a, b, dx, dy, us, ws, ea, eb, h1, h2, hl, m, Ω, [x, y], cc, rlL_2 rx ry, ?_⟩
      cases e3 : F [x, y] Ω with
      | none => rw [e3] at q; exact q
      | some z =>
        obtain ⟨r, Ω'⟩ := z
        rw [e3] at q
        cases r with
        | ex e => exact q.elim
        | ok d =>
          cases d with
          | bl bb =>
            intro m' v' H' g r
            have r0 := r
            unfold Rl at r
            exact ⟨⟨bb, r⟩, q m' v' H' g r0⟩
          | _ => exact q.elim
theorem de_ownEq (G : OwnG X.prog X.w X.K X.mg X.base c "__eq__" ps k F) (hr : RoomG k X.A) (ha : DE X E a f) (hb : DE X E b g) : DE X E (.Compare a [.Eq] [b] pos) (fBin (dOwn c ps.length F) f g) := de_cmp (op_ownEq G hr) od_own ha hb (nomark _)
theorem dt_ownEq (G : OwnG X.prog X.w X.K X.mg X.base c "__eq__" ps k F) (hr : RoomG k X.A) (ha : DE X E a f) (hb : DE X E b g) : DT X E (.Compare a [.Eq] [b] pos) (fT (fBin (dOwn c ps.length F) f g)) := dt_cmp (op_ownEq G hr) od_own ha hb (nomark _)
/-- C.f, a constant of the class -/
theorem de_cval {mc : Value} {ff : Str} {i : Int} {u : Value} {p : Pos} (r : ClX.CRead X.K (cad X.K c) mc) (kk : ClX.CVal X.K (cad X.K c) mc ff (.int i) u) (hm : X.mg c = some (.ref (cad X.K c))) (hg : Gl X c := by rfl) (hd : (c == ("__debug__" : Str)) = false := by decide)
    (hb : attributeBase (.Name c p) ff X.env (eval (.Name c p) X.env) = eval (.Name c p) X.env := by rfl) : DE X E (.Attribute (.Name c p) ff pos) (fC (.int i)) := PE.mono (ClX.pe_cval (pe_glob (v := .ref (cad X.K c)) hg hm rfl hd) hb) fun σ H Q h => by
  obtain ⟨m, Γ, Ω, s, h⟩ := h
  exact ⟨_, mc, .int i, u, rfl, r, kk, h m _ H (Go.refl s.cells) rl_int⟩
end
end Dn


set_option Elab.async false
set_option linter.all false
set_option maxRecDepth 100000
/-! DnGen: what the printed derivations name. -/
namespace Dn
open PySem L2
section
variable {K : PySem.W.Frag} {m : Mp} {Ω : Om} {H : Hp}
/-- a + b of lists, the new list a cell -/
def dAddC : Op2 := fun x y Ω => match asL Ω x with
    | some xs => match asL Ω y with
      | some ys => if xs.length + ys.length ≤ 100000 then some (.ok (.ref Ω.length), Ω ++ [.lst (xs ++ ys)]) else none
      | none => none
    | none => none
theorem od_addC : OpD K dAddC rCat := by
  intro E m Ω H x y v u Q c rx ry q
  unfold dAddC at q
  cases e1 : asL Ω x with
  | none => rw [e1] at q; exact q.elim
  | some xs =>
    rw [e1] at q
    dsimp only at q
    cases e2 : asL Ω y with
    | none => rw [e2] at q; exact q.elim
    | some ys =>
      rw [e2] at q
      obtain ⟨hz, q⟩ := Af.guard q
      obtain ⟨a, vs, e3, h1, h2⟩ := asL_ok c rx e1
      obtain ⟨b, ws, e4, h3, h4⟩ := asL_ok c ry e2
      exact ⟨a, b, vs, ws, e3, e4, h1, h3, by rw [← h2.length, ← h4.length]; exact sz hz, fun p hp => q (m.add p) _ _ (Go.cellL c hp (h2.append h4)) (rl_last c)⟩
end
section
variable {X : Cx} {E : St → XK} {a b : Expr} {f g : Den D} {pos : Pos} {c : Str}
theorem de_addC (ha : DE X E a f) (hb : DE X E b g) : DE X E (.BinOp a .Add b pos) (fBin dAddC f g) := de_bin op_cat od_addC ha hb
def CvE (K : PySem.W.Frag) (c f : Str) (i : Int) : Prop := ∃ mc u, ClX.CRead K (cad K c) mc ∧ ClX.CVal K (cad K c) mc f (.int i) u
theorem de_cvalE {ff : Str} {i : Int} {p : Pos} (h : CvE X.K c ff i) (hm : X.mg c = some (.ref (cad X.K c))) (hg : Gl X c := by rfl) (hd : (c == ("__debug__" : Str)) = false := by decide)
    (hb : attributeBase (.Name c p) ff X.env (eval (.Name c p) X.env) = eval (.Name c p) X.env := by rfl) : DE X E (.Attribute (.Name c p) ff pos) (fC (.int i)) := by
  obtain ⟨mc, u, r, k⟩ := h
  exact de_cval r k hm hg hd hb
end
/-! ### a cell's last change is behind it -/
def fFrz (f : Den D) : Den D := bnd f fun d _ Ω => match d with
  | .ref n => match Ω[n]? with
    | some (.lst xs) => some (.ok (.lst xs), Ω.set n .dead)
    | some (.dct kvs) => some (.ok (.dct kvs), Ω.set n .dead)
    | _ => none
  | _ => none
section
variable {K : PySem.W.Frag} {m : Mp} {Ω : Om} {H : Hp}
theorem upd_id {a : Addr} {o : HO} (h : H a = some o) : upd H a o = H := funext fun b => by
  by_cases e : b = a
  · subst e; rw [upd_same, h]
  · rw [upd_ne e]
theorem Go.kill (c : CellsOk K m Ω H) {n : Nat} {a : Addr} {x : Cell} (hm : m.l[n]? = some a) (hx : Ω[n]? = some x) (hl : x ≠ .dead) : Go K m Ω H m (Ω.set n .dead) H := by
  obtain ⟨o, ho⟩ := c.some hm
  have g := Go.set (o := o) (y := .dead) c hm hx hl fun _ => ⟨o, upd_same⟩
  rw [upd_id ho] at g
  exact g
theorem not_live_kill (c : CellsOk K m Ω H) {n : Nat} {a : Addr} (hm : m.l[n]? = some a) : ¬ Live m (Ω.set n .dead) a := by
  rintro (⟨k, z, h1, h2, h3⟩ | l)
  · obtain rfl := c.nodup_ix h1 hm
    have hk : k < Ω.length := by
      rw [← c.len]
      exact (List.getElem?_eq_some_iff.mp hm).1
    rw [List.getElem?_set_self hk] at h2
    cases h2
    exact h3 rfl
  · exact (c.hl a l).2 (List.mem_of_getElem? hm)
end
theorem de_frz {X : Cx} {E : St → XK} {e : Expr} {f : Den D} (h : DE X E e f) : DE X E e (fFrz f) := PE.mono h fun σ H Q h => by
  obtain ⟨m, Γ, Ω, s, h⟩ := h
  refine ⟨m, Γ, Ω, s, (Af.bind (R := Rl X.K) h).imp fun _ _ _ _ _ _ _ _ ⟨m1, Ω1, x, g1, r1, q⟩ => ?_⟩
  cases x with
  | ref n =>
    have r2 := r1
    unfold Rl at r2
    obtain ⟨a, ev, hm⟩ := r2
    dsimp only at q
    cases hx : Ω1[n]? with
    | none => rw [hx] at q; exact q.elim
    | some c =>
      rw [hx] at q
      have k := g1.ok.at_ n c a hx hm
      cases c with
      | lst xs =>
        obtain ⟨vs, h1, h2⟩ := k
        have g := Go.kill g1.ok hm hx (by intro z; cases z)
        refine q m1 _ _ g ?_
        unfold Rl
        exact ⟨a, vs, ev, h1, not_live_kill g1.ok hm, RlL.go g.toGw g1.ok xs vs h2⟩
      | dct xs =>
        obtain ⟨vs, h1, h2⟩ := k
        have g := Go.kill g1.ok hm hx (by intro z; cases z)
        refine q m1 _ _ g ?_
        unfold Rl
        exact ⟨a, vs, ev, .inl h1, not_live_kill g1.ok hm, RlK.go g.toGw g1.ok xs vs h2⟩
      | _ => exact q.elim
  | _ => exact q.elim
section
variable {P : Program} {w : World} {K : PySem.W.Frag} {mg : Str → Option Value} {base : Heap} {N : List Str} {qual : Str} {scope : Scope} {f : Addr} {cdv : Value} {A : Around} {outer : List Env} {s : Shared} {H : Hp} {E : XK}
theorem hx_of (σ : St) : PassesAt (L2N.CX P w) (cxOf (L2N.CX P w) P w K mg base N qual scope f cdv A outer s H E) σ E := L2N.passAt (W := fun cls d _ H => E cls d H) (L2N.takes_of rfl rfl rfl rfl) σ
theorem hp_of : PassesOwn (model P w) (cxOf (L2N.CX P w) P w K mg base N qual scope f cdv A outer s H E).A (cxOf (L2N.CX P w) P w K mg base N qual scope f cdv A outer s H E).env (cxOf (L2N.CX P w) P w K mg base N qual scope f cdv A outer s H E).xe := passes_of (X := cxOf (L2N.CX P w) P w K mg base N qual scope f cdv A outer s H E) rfl
end
section
variable {X : Cx} {E : St → XK} {x c mt : Str} {ps : List Str} {k n : Nat} {F : FD} {e o : Expr} {es : List Expr} {r : Den (List D)} {fo : Den D} {p pos apos : Pos}
theorem de_callN (G : FnG X.prog X.w X.K X.mg X.base x ps k F) (hr : RoomG k X.A) (hx : ∀ σ, PassesAt (L2N.CX X.prog X.w) X σ (E σ)) (ha : DA X E (e :: es) r) (hn : ps.length = n := by rfl) (hg : Gl X x := by rfl)
    (hdb : (x == ("__debug__" : Str)) = false := by decide) (he : starEach (e :: es) X.env = (false, eval e X.env) :: starEach es X.env := by rfl) (hpl : (backTo pos (starEach es X.env)).any (·.1) = false := by rfl) :
    DE X E (.Call (.Name x p) (e :: es) [] pos) (fCall n F r) := by
  subst hn
  exact de_call G hr hx ha hg hdb he hpl
theorem de_makeN (G : MkG X.prog X.w X.K X.mg X.base c ps k F) (hr : RoomG (k + 1) X.A) (hx : ∀ σ, PassesAt (L2N.CX X.prog X.w) X σ (E σ)) (ha : DA X E (e :: es) r) (hn : ps.length = n := by rfl) (hg : Gl X c := by rfl)
    (hdb : (c == ("__debug__" : Str)) = false := by decide) (he : starEach (e :: es) X.env = (false, eval e X.env) :: starEach es X.env := by rfl) (hpl : (backTo pos (starEach es X.env)).any (·.1) = false := by rfl) :
    DE X E (.Call (.Name c p) (e :: es) [] pos) (fMake c n F r) := by
  subst hn
  exact de_make G hr hx ha hg hdb he hpl
theorem de_methN {pl : Sem Bool} (hc : Cls X.K (cad X.K c)) (G : MtG X.prog X.w X.K X.mg X.base c mt ps k F) (hr : RoomG k X.A) (hx : ∀ σ, PassesAt (L2N.CX X.prog X.w) X σ (E σ)) (ho : DE X E o fo) (ha : DA X E (e :: es) r) (hn : ps.length = n := by rfl)
    (hst : starEach (e :: es) X.env = (false, eval e X.env) :: starEach es X.env := by rfl) (hpl : (backTo pos (starEach es X.env)).any (·.1) = false := by rfl)
    (ht : eval (.Call (.Attribute o mt apos) (e :: es) [] pos) X.env = (do
      let ov ← eval o X.env
      standAt apos.atName
      let (f, first) ← holding [ov] (getMethod ov mt pl)
      callWith pos f first (backTo pos (starEach (e :: es) X.env)) (backToKw pos (keywordEach [] X.env))) := by rfl) :
    DE X E (.Call (.Attribute o mt apos) (e :: es) [] pos) (fMeth c mt n F fo r) := by
  subst hn
  exact de_meth hc G hr hx ho ha hst hpl ht
theorem de_meth0N {pl : Sem Bool} (hc : Cls X.K (cad X.K c)) (G : MtG X.prog X.w X.K X.mg X.base c mt ps k F) (hr : RoomG k X.A) (hx : ∀ σ, PassesAt (L2N.CX X.prog X.w) X σ (E σ)) (ho : DE X E o fo) (hn : ps.length = n := by rfl)
    (ht : eval (.Call (.Attribute o mt apos) [] [] pos) X.env = (do
      let ov ← eval o X.env
      standAt apos.atName
      let (f, first) ← holding [ov] (getMethod ov mt pl)
      callWith pos f first (backTo pos (starEach [] X.env)) (backToKw pos (keywordEach [] X.env))) := by rfl) :
    DE X E (.Call (.Attribute o mt apos) [] [] pos) (fMeth c mt n F fo fNil) := by
  subst hn
  exact de_meth0 hc G hr hx ho ht
theorem de_methKN {pl : Sem Bool} {kws : List Keyword} {ks : List Str} {ix : List Nat} {l : Nat} (hc : Cls X.K (cad X.K c)) (G : MtK X.prog X.w X.K X.mg X.base c mt ps ks ix k F) (hr : RoomG k X.A) (hx : ∀ σ, PassesAt (L2N.CX X.prog X.w) X σ (E σ)) (ho : DE X E o fo) (ha : DK X E kws r) (hn : ps.length = n := by rfl) (hl : ks.length = l := by rfl)
    (hall : (backToKw pos (keywordEach kws X.env)).all (·.1.isSome) = true := by rfl) (hks : (backToKw pos (keywordEach kws X.env)).filterMap (·.1) = ks := by rfl)
    (hpl : ((backTo pos (starEach [] X.env)).any (·.1) || (backToKw pos (keywordEach kws X.env)).any (·.1.isNone)) = false := by rfl)
    (ht : eval (.Call (.Attribute o mt apos) [] kws pos) X.env = (do
      let ov ← eval o X.env
      standAt apos.atName
      let (f, first) ← holding [ov] (getMethod ov mt pl)
      callWith pos f first (backTo pos (starEach [] X.env)) (backToKw pos (keywordEach kws X.env))) := by rfl) :
    DE X E (.Call (.Attribute o mt apos) [] kws pos) (fMethK c mt n l ix F fo r) := by
  subst hn hl
  exact de_methK hc G hr hx ho ha hall hks hpl ht
theorem de_ownEqN {a b : Expr} {f g : Den D} (G : OwnG X.prog X.w X.K X.mg X.base c "__eq__" ps k F) (hr : RoomG k X.A) (ha : DE X E a f) (hb : DE X E b g) (hn : ps.length = n := by rfl) : DE X E (.Compare a [.Eq] [b] pos) (fBin (dOwn c n F) f g) := by
  subst hn
  exact de_ownEq G hr ha hb
theorem dt_ownEqN {a b : Expr} {f g : Den D} (G : OwnG X.prog X.w X.K X.mg X.base c "__eq__" ps k F) (hr : RoomG k X.A) (ha : DE X E a f) (hb : DE X E b g) (hn : ps.length = n := by rfl) : DT X E (.Compare a [.Eq] [b] pos) (fT (fBin (dOwn c n F) f g)) := by
  subst hn
  exact dt_ownEq G hr ha hb
end
theorem bt_len : bootBuiltins "len" = some (.builtin "len") := by decide +kernel
theorem bt_sorted : bootBuiltins "sorted" = some (.builtin "sorted") := by decide +kernel
theorem bt_dict : bootBuiltins "dict" = some (.type "dict") := by decide +kernel
theorem bt_max : bootBuiltins "max" = some (.builtin "max") := by decide +kernel
theorem bt_min : bootBuiltins "min" = some (.builtin "min") := by decide +kernel
theorem bt_abs : bootBuiltins "abs" = some (.builtin "abs") := by decide +kernel
theorem bt_int : bootBuiltins "int" = some (.type "int") := by decide +kernel
theorem bt_bool : bootBuiltins "bool" = some (.type "bool") := by decide +kernel
theorem bt_str : bootBuiltins "str" = some (.type "str") := by decide +kernel
theorem bt_divmod : bootBuiltins "divmod" = some (.builtin "divmod") := by decide +kernel
theorem bt_tuple : bootBuiltins "tuple" = some (.type "tuple") := by decide +kernel
theorem bt_list : bootBuiltins "list" = some (.type "list") := by decide +kernel
theorem bt_all : bootBuiltins "all" = some (.builtin "all") := by decide +kernel
theorem bt_any : bootBuiltins "any" = some (.builtin "any") := by decide +kernel
theorem bt_sum : bootBuiltins "sum" = some (.builtin "sum") := by decide +kernel
end Dn


set_option Elab.async false
set_option linter.all false
set_option maxRecDepth 100000
/-! DnHead: the head's Hook with a Bool more, and what it tells. -/
namespace Dn
open PySem L2
section
variable {K : PySem.W.Frag} {x qual : Str} {params : Arguments} {body : List Stmt} {scope : Scope} {f : Addr} {fd : FuncData} {kws : List (Str × V)} {ps ks : List Str} {n : Nat} {ix : List Nat}
theorem kwB_of (F : FunD K x qual params body scope [] kws f fd)
    (h : ∀ (kV doc pm : Value) (an : Option Addr) (cdv ct : Value) (us ws : List Value), us.length = n → ws.length = ks.length → bindArgs (PySem.W.fnOf x qual params body scope .none kV doc pm an cdv ct) ⟨us, ks.zip ws⟩ = pure (ps.zip (reord ix (us ++ ws)))) : KwB K fd ps n ks ix := by
  obtain ⟨oc, od, dV, kV, doc, pm, an, cdv, ct, osl, rfl, lk, hcd, hD, hK⟩ := F.ex
  rcases hD with ⟨_, rfl⟩ | ⟨e, _⟩
  · exact ⟨fun s us ws _ h1 h2 => .of_eq (h kV doc pm an cdv ct us ws h1 h2)⟩
  · exact absurd rfl e
end
/-! ### the Hook -/
def asS (g : Addr → Option Obj) : Nat → List Addr
  | 0 => [mainGlobals, cStatics]
  | n + 1 => He.growD g (asS g n)
abbrev AlB : Type := He.AlD × Bool
def obsB (n : Nat) (fa : List He.Fa) (fn : List He.DefD) (ex : PySem.W.Frag → Bool) (g : Addr → Option Obj) : AlB := (He.obsD fa fn (He.frG g (asS g n)), ex (He.frG g (asS g n)))
structure SaysB (fa : List He.Fa) (fn : List He.DefD) (ex : PySem.W.Frag → Bool) (K : PySem.W.Frag) : Prop where
  d : He.SaysD fa fn K
  more : ex K = true
def hookB (n : Nat) (fa : List He.Fa) (fn : List He.DefD) (ex : PySem.W.Frag → Bool) : PySem.W.Hook where
  α := AlB
  obs := fun s => obsB n fa fn ex s.heap.get?
  val := fun _ => (He.valD fn, true)
  says := fun _ h => ∃ K : PySem.W.Frag, K.In h ∧ SaysB fa fn ex K
  of := fun _ _ e => ⟨_, He.frG_in, ⟨congrArg (fun z : AlB => z.1) e, congrArg (fun z : AlB => z.2) e⟩⟩
  keeps := fun _ _ _ ⟨K, hK, c⟩ k => ⟨K, PySem.W.Frag.In.keeps hK k, c⟩
theorem obsB_eq {n : Nat} {fa : List He.Fa} {fn : List He.DefD} {ex : PySem.W.Frag → Bool} {g : Addr → Option Obj} {s : Shared} (h : ∀ a, g a = s.heap.get? a) : obsB n fa fn ex g = (hookB n fa fn ex).obs s := by
  have e : g = s.heap.get? := funext h
  rw [e] <;> rfl
/-! ### own classes -/
def bTs : List String := ["int", "bool", "str", "list", "tuple", "dict"]
def isaB (CL : List Str) (K : PySem.W.Frag) : Bool :=
  (CL.all fun c => (He.Fa.cls c).ok K && (He.eqO (PySem.W.findIn K (.ref (cad K c)) "__class__") (some (some (.builtin "object.__class__"))) && decide (PySem.W.mroIn K (cad K c) (.type "object") = some true))) &&
  (He.eqO (PySem.W.specialIn K (.builtin "object.__class__") "__get__") (some (some (.builtin "getset_descriptor.__get__"))) && (decide (PySem.W.takesIn K (.builtin "object.__class__") = some true) &&
  ((CL.all fun c => CL.all fun c' => decide (PySem.W.kitOne K (.ref (cad K c)) (.ref (cad K c')) = some (decide (c = c')))) &&
  ((tys.all fun t => CL.all fun c => decide (PySem.W.kitOne K (.type t) (.ref (cad K c)) = some false)) &&
  (CL.all fun c => bTs.all fun T => decide (PySem.W.kitOne K (.ref (cad K c)) (.type T) = some false))))))
theorem isaB_ok {CL : List Str} {K : PySem.W.Frag} (h : isaB CL K = true) : IsaF K CL := by
  unfold isaB at h
  obtain ⟨h1, h⟩ := He.ba h
  obtain ⟨h2, h⟩ := He.ba h
  obtain ⟨h3, h⟩ := He.ba h
  obtain ⟨h4, h⟩ := He.ba h
  obtain ⟨h5, h6⟩ := He.ba h
  refine ⟨fun c hc => ?_, He.eqO_ok h2, of_decide_eq_true h3, fun c hc c' hc' => of_decide_eq_true (List.all_eq_true.mp (List.all_eq_true.mp h4 c hc) c' hc'), fun t ht c hc => of_decide_eq_true (List.all_eq_true.mp (List.all_eq_true.mp h5 t ht) c hc), fun c hc T hT => of_decide_eq_true (List.all_eq_true.mp (List.all_eq_true.mp h6 c hc) T hT)⟩
  obtain ⟨a1, a2⟩ := He.ba (List.all_eq_true.mp h1 c hc)
  obtain ⟨a3, a4⟩ := He.ba a2
  exact ⟨He.cls_ok a1, He.eqO_ok a3, of_decide_eq_true a4⟩
def cvB (c f : Str) (i : Int) (K : PySem.W.Frag) : Bool := PySem.W.readsIn K (cad K c) (.type "type") && (He.eqO (PySem.W.specialIn K (.ref (cad K c)) "__getattribute__") (some (some (.builtin "type.__getattribute__"))) &&
  (match PySem.W.findCls K (.ref (cad K c)) (.type "type") f with
    | some (.val (.int j _)) => decide (j = i)
    | _ => false))
theorem cvB_ok {c f : Str} {i : Int} {K : PySem.W.Frag} (h : cvB c f i K = true) : CvE K c f i := by
  unfold cvB at h
  obtain ⟨h1, h⟩ := He.ba h
  obtain ⟨h2, h⟩ := He.ba h
  split at h
  · rename_i j t e
    obtain rfl := of_decide_eq_true h
    exact ⟨_, _, ⟨h1, He.eqO_ok h2⟩, ⟨e, ⟨_, rfl⟩⟩⟩
  · cases h
end Dn


set_option Elab.async false
set_option linter.all false
set_option maxRecDepth 100000
set_option maxHeartbeats 2000000
/-! DnEnd: a law's end, what is let out told of the world. -/
namespace L2
open PySem PySem.Spec PyProof.Rows
theorem walk_ofW {l : PySem.W.OpenLaw} {n k : Nat} {q : Program} {loose : List Str} {XP : (Str → Option Value) → Heap → Prop} {YP : World → Heap → Prop} {d : DefRec} (CX : World → CXT) {x : Str}
    (hn : l.most = some n) (hn2 : n ≤ sizeLine) (hdf : d.params.defaults = []) (hr : Dn.RoomG k callerA)
    (F : ∀ (w : World) (mg : Str → Option Value) (fa : Addr) (h : Heap), YP w h → h.Ns mainGlobals mg → mg d.name = some (.ref fa) →
      ∃ (K : PySem.W.Frag) (fd : FuncData) (sp : Sp), K.In h ∧ (∀ (s : Shared) (u : Value), BindsTo s fd ⟨[u], []⟩ [(x, u)]) ∧
        (∀ (H : Hp) (a : Addr) (ns : List Int), ns.length ≤ n → Only H → SqL K H a (ns.map V.int) → sp [.ref a] H (fun v _ => v = .bl true) fun _ _ _ => False) ∧
        ∀ base : Heap, K.In base → base.Ns mainGlobals mg → Dn.FnOkG l.prog w K mg base (CX w) k fa fd [x] sp)
    (hCX : ∀ (w : World) (H : Hp) (s : Shared) (e : Value) (s' : Shared), CX w [] H s (fun _ _ _ => False) e s' → False) :
    PySem.W.WalkO q loose XP YP l.row.toRowW d [] (fun f vs => PySem.call f vs) := by
  refine Att.attach_call hn hdf fun w s₀ s₁ mg mb fa o pm cd doc a vs ns G Y ho hd hcd hmg hobj hints hlen hg => ?_
  obtain ⟨K, fd, sp, KX, hb, hsp, hF⟩ := F w mg fa _ Y G.T.g hmg
  exact Dn.law_callG KX G.T.g G.T.b G.T.builtins G.T.nolimit hg hobj hints (Nat.le_trans hlen hn2) hr hF hb (fun H hO hS => hsp H a ns hlen hO hS) fun H e s' => hCX w H s₁ e s'
theorem cx_none {P : Program} (w : World) (H : Hp) (s : Shared) (e : Value) (s' : Shared) (h : L2N.CX P w [] H s (fun _ _ _ => False) e s') : False := by
  obtain ⟨_, _, _, _, _, _, _, _, _, _, _, _, z⟩ := h
  exact z.elim
end L2


set_option Elab.async false
set_option linter.all false
set_option maxRecDepth 100000
/-! DnOwn: operators that a class defines. -/
namespace Dn
open PySem L2
/-- a op b of two instances of c, an instance of c' comes of it -/
def isObj (Ω : Om) : D → Bool
  | .obj _ _ => true
  | _ => false
def dBinO (c : Str) (n : Nat) (F : FD) : Op2 := fun x y Ω => match asO c Ω x with
  | some _ => match asO c Ω y with
    | some _ => if [x, y].length = n then match F [x, y] Ω with
      | some (.ok d, Ω') => match d with
        | .obj c' fs => some (.ok (.obj c' fs), Ω')
        | _ => none
      | _ => none
      else none
    | none => none
  | none => none
structure BinG (P : Program) (w : World) (K : PySem.W.Frag) (mg : Str → Option Value) (base : Heap) (c mt : Str) (ps : List Str) (k : Nat) (F : FD) : Prop where
  ex : PySem.W.selfFirst K (cad K c) = true ∧ ∃ f fd, PySem.W.findIn K (.ref (cad K c)) mt = some (some (.ref f)) ∧ PySem.W.isFn K (.ref f) = true ∧ FnOkG P w K mg base (L2N.CX P w) k f fd ps (spD K ps.length F) ∧ Binds K fd ps []
def rBinO (K : PySem.W.Frag) (c : Str) (n : Nat) (F : FD) : R2 := fun x y H Q => ∃ a b dx dy fs gs, x = .ref a ∧ y = .ref b ∧ H a = some (.ins (cad K c) dx fs) ∧ H b = some (.ins (cad K c) dy gs) ∧ spD K n F [x, y] H (fun v H' => (∃ b, v = .ref b) ∧ Q v H') fun _ _ _ => False
section
variable {X : Cx} {E : St → XK} {a b : Expr} {f g : Den D} {pos : Pos} {c : Str} {ps : List Str} {k n : Nat} {F : FD}
theorem op_binO {op : Operator} (G : BinG X.prog X.w X.K X.mg X.base c (PySem.dunder op.info.2) ps k F) (hr : RoomG k X.A) : OpR X (binaryOp op) (rBinO X.K c ps.length F) := by
  intro pins s σ H x y v u Q I rx ry h
  obtain ⟨a, b, dx, dy, fs, gs, ex, ey, ha, hb, sp⟩ := h
  subst ex ey
  obtain rfl : v = Value.ref a := rx
  obtain rfl : u = Value.ref b := ry
  obtain ⟨sf, f, fd, hs, hf, ok, bi⟩ := G.ex
  obtain ⟨mA, J, _⟩ := ins_get I.hok ha
  obtain ⟨mB, J', _⟩ := ins_get I.hok hb
  obtain ⟨od, J, _⟩ := J.look
  obtain ⟨od', J', _⟩ := J'.look
  obtain ⟨mm, hF⟩ := I.fr
  refine PySem.W.binop_K hF I.ok.mod.kin J J'.type sf hs hf ?_
  refine thn (run_fnG (E := fun _ => fun _ _ _ => False) (us := [.ref a, .ref b]) (vs := [.ref a, .ref b]) ok hr bi (fun pins H s e s' I h => by
    obtain ⟨_, _, _, _, _, _, _, _, _, _, _, _, z⟩ := h
    exact z.elim) I (.cons rfl (.cons rfl .nil)) sp) fun w s' ⟨z, H', I', rz, ⟨b', eb⟩, q⟩ => ?_
  subst eb
  obtain rfl : w = Value.ref b' := rz
  exact ⟨.ref b', H', I', rfl, q⟩
theorem od_binO : OpD X.K (dBinO c ps.length F) (rBinO X.K c ps.length F) := by
  intro E m Ω H x y v u Q cc rx ry q
  unfold dBinO at q
  cases e1 : asO c Ω x with
  | none => rw [e1] at q; exact q.elim
  | some fs =>
    rw [e1] at q
    dsimp only at q
    cases e2 : asO c Ω y with
    | none => rw [e2] at q; exact q.elim
    | some gs =>
      rw [e2] at q
      obtain ⟨hl, q⟩ := Af.guard q
      obtain ⟨a, dx, us, ea, h1, _⟩ := asO_ok cc rx e1
      obtain ⟨b, dy, ws, eb, h2, _⟩ := asO_ok cc ry e2
      refine ⟨a, b, dx, dy, us, ws, ea, eb, h1, h2, hl, m, Ω, [x, y], cc, rlL_2 rx ry, ?_⟩
      cases e3 : F [x, y] Ω with
      | none => rw [e3] at q; exact q
      | some z =>
        obtain ⟨r, Ω'⟩ := z
        rw [e3] at q
        cases r with
        | ex e => exact q.elim
        | ok d =>
          cases d with
          | obj cc fs =>
            intro m' v' H' g r
            have r0 := r
            unfold Rl at r
            obtain ⟨a', _, _, ev, _⟩ := r
            exact ⟨⟨a', ev⟩, q m' v' H' g r0⟩
          | _ => exact q.elim
theorem de_binO {op : Operator} (G : BinG X.prog X.w X.K X.mg X.base c (PySem.dunder op.info.2) ps k F) (hr : RoomG k X.A) (ha : DE X E a f) (hb : DE X E b g) (hn : ps.length = n := by rfl) : DE X E (.BinOp a op b pos) (fBin (dBinO c n F) f g) := by
  subst hn
  exact de_bin (op_binO G hr) od_binO ha hb
/-! ### ~x -/
def dUnO (c : Str) (n : Nat) (F : FD) : Op1 := fun x Ω => match asO c Ω x with
  | some _ => if [x].length = n then match F [x] Ω with
    | some (.ok d, Ω') => some (.ok d, Ω')
    | _ => none
    else none
  | none => none
def rUnO (K : PySem.W.Frag) (c : Str) (n : Nat) (F : FD) : V → Hp → VK → Prop := fun x H Q => ∃ a dx fs, x = .ref a ∧ H a = some (.ins (cad K c) dx fs) ∧ spD K n F [x] H Q fun _ _ _ => False
theorem un_invO (G : OwnG X.prog X.w X.K X.mg X.base c "__invert__" ps k F) (hr : RoomG k X.A) : UnR X (unaryOp .Invert) (rUnO X.K c ps.length F) := by
  intro pins s σ H x v Q I rx h
  obtain ⟨a, dx, fs, ex, ha, sp⟩ := h
  subst ex
  obtain rfl : v = Value.ref a := rx
  obtain ⟨f, fd, hs, hf, ok, bi⟩ := G.ex
  obtain ⟨mA, J, _⟩ := ins_get I.hok ha
  obtain ⟨od, J, _⟩ := J.look
  obtain ⟨mm, hF⟩ := I.fr
  refine PySem.W.ksp_inv hF I.ok.mod.kin J hs hf ?_
  exact run_fnG (E := fun _ => fun _ _ _ => False) (us := [.ref a]) (vs := [.ref a]) ok hr bi (fun pins H s e s' I h => by
    obtain ⟨_, _, _, _, _, _, _, _, _, _, _, _, z⟩ := h
    exact z.elim) I (.cons rfl .nil) sp
theorem ud_unO : UnD X.K (dUnO c ps.length F) (rUnO X.K c ps.length F) := by
  intro E m Ω H x v Q cc rx q
  unfold dUnO at q
  cases e1 : asO c Ω x with
  | none => rw [e1] at q; exact q.elim
  | some fs =>
    rw [e1] at q
    obtain ⟨hl, q⟩ := Af.guard q
    obtain ⟨a, dx, us, ea, h1, _⟩ := asO_ok cc rx e1
    refine ⟨a, dx, us, ea, h1, hl, m, Ω, [x], cc, RlL.one rx, ?_⟩
    cases e3 : F [x] Ω with
    | none => rw [e3] at q; exact q
    | some z =>
      obtain ⟨r, Ω'⟩ := z
      rw [e3] at q
      cases r with
      | ex e => exact q.elim
      | ok d => exact q
theorem de_invO (G : OwnG X.prog X.w X.K X.mg X.base c "__invert__" ps k F) (hr : RoomG k X.A) (ha : DE X E a f) (hn : ps.length = n := by rfl) : DE X E (.UnaryOp .Invert a pos) (fUn (dUnO c n F) f) := by
  subst hn
  exact de_un (un_invO G hr) ud_unO ha
end
end Dn


set_option Elab.async false
set_option linter.all false
set_option maxRecDepth 100000
/-! DnThaw: a cell is laid still ahead of a statement; its slot has the value from then on. -/
namespace Dn
open PySem L2
def sThaw (i : Nat) : DenS := fun Γ Ω => match Γ[i]? with
  | some (some (.ref n)) => match Ω[n]? with
    | some (.lst xs) => some (.nx, Γ.set i (some (.lst xs)), Ω.set n .dead)
    | some (.dct kvs) => some (.nx, Γ.set i (some (.dct kvs)), Ω.set n .dead)
    | _ => none
  | _ => none
section
variable {K : PySem.W.Frag} {m : Mp} {Ω : Om} {H : Hp} {Γ : Gm} {σ : St}
theorem Slots.put (s : Slots K m Ω H Γ σ) {i : Nat} {d : D} {v : V} (hv : σ[i]? = some (some v)) (r : Rl K m Ω H d v) : Slots K m Ω H (Γ.set i (some d)) σ := by
  refine ⟨by rw [List.length_set, s.1], fun j e h => ?_⟩
  by_cases hj : j = i
  · subst hj
    have hl : j < Γ.length := by
      have := (List.getElem?_eq_some_iff.mp h).1
      rwa [List.length_set] at this
    rw [List.getElem?_set_self hl] at h
    cases h
    exact ⟨v, hv, r⟩
  · rw [List.getElem?_set_ne (Ne.symm hj)] at h
    exact s.2 j e h
theorem ds_thaw {X : Cx} {E : St → XK} {st : Stmt} {g : DenS} (i : Nat) (h : DS X E st g) : DS X E st (sSeq (sThaw i) g) := PS.mono h fun D σ H q => by
  obtain ⟨m, Γ, Ω, s, q⟩ := q
  unfold sSeq sThaw at q
  cases e1 : Γ[i]? with
  | none => rw [e1] at q; exact q.elim
  | some o =>
    rw [e1] at q
    cases o with
    | none => exact q.elim
    | some d =>
      cases d with
      | ref n =>
        dsimp only at q
        obtain ⟨v, hv, rv⟩ := s.slots.2 i _ e1
        unfold Rl at rv
        obtain ⟨a, ev, ha⟩ := rv
        cases e2 : Ω[n]? with
        | none => rw [e2] at q; exact q.elim
        | some c =>
          rw [e2] at q
          cases c with
          | lst xs =>
            obtain ⟨vs, h1, h2⟩ := s.cells.at_ n _ a e2 ha
            have g1 := Go.kill s.cells ha e2 (fun z => by cases z)
            refine ⟨m, Γ.set i (some (.lst xs)), Ω.set n .dead, ⟨g1.ok, Slots.put (s.go g1).slots hv ?_⟩, AfS.go g1 q⟩
            unfold Rl
            exact ⟨a, vs, ev, h1, not_live_kill s.cells ha, RlL.go g1.toGw s.cells xs vs h2⟩
          | dct xs =>
            obtain ⟨vs, h1, h2⟩ := s.cells.at_ n _ a e2 ha
            have g1 := Go.kill s.cells ha e2 (fun z => by cases z)
            refine ⟨m, Γ.set i (some (.dct xs)), Ω.set n .dead, ⟨g1.ok, Slots.put (s.go g1).slots hv ?_⟩, AfS.go g1 q⟩
            unfold Rl
            exact ⟨a, vs, ev, .inl h1, not_live_kill s.cells ha, RlK.go g1.toGw s.cells xs vs h2⟩
          | _ => exact q.elim
      | _ => exact q.elim
end
end Dn


set_option Elab.async false
set_option linter.all false
set_option maxRecDepth 100000
/-! DnAdd: texts compared, repr, list(d), min(xs), zip, d.get(k), calls by names, own !=. -/
namespace Dn
open PySem L2
/-! ### texts -/
def strOp (b : Bool → D) : Op2 := fun x y Ω => match x, y with
  | .str a, .str c => some (.ok (b (decide (a = c))), Ω)
  | _, _ => none
def dEqS : Op2 := strOp fun b => .bl b
def dNeS : Op2 := strOp fun b => .bl (!b)
section
variable {K : PySem.W.Frag} {X : Cx} {E : St → XK} {a b e : Expr} {f g : Den D} {pos : Pos} {k : Nat}
theorem str_dec (a c : Str) : decide (V.str a = V.str c) = decide (a = c) := by
  by_cases h : a = c
  · simp [h]
  · simp [h]
theorem od_eqS : OpD K dEqS rEq := by
  intro E m Ω H x y v u Q c rx ry q
  cases x with
  | str i =>
    cases y with
    | str j =>
      unfold Rl at rx ry
      subst rx ry
      exact ⟨rfl, by rw [str_dec]; exact q.now c rl_bl⟩
    | _ => exact q.elim
  | _ => exact q.elim
theorem od_neS : OpD K dNeS rNe := by
  intro E m Ω H x y v u Q c rx ry q
  cases x with
  | str i =>
    cases y with
    | str j =>
      unfold Rl at rx ry
      subst rx ry
      exact ⟨rfl, by rw [str_dec]; exact q.now c rl_bl⟩
    | _ => exact q.elim
  | _ => exact q.elim
theorem de_eqS (ha : DE X E a f) (hb : DE X E b g) : DE X E (.Compare a [.Eq] [b] pos) (fBin dEqS f g) := de_cmp op_eq od_eqS ha hb (nomark _)
theorem de_neS (ha : DE X E a f) (hb : DE X E b g) : DE X E (.Compare a [.NotEq] [b] pos) (fBin dNeS f g) := de_cmp op_ne od_neS ha hb (nomark _)
theorem dt_eqS (ha : DE X E a f) (hb : DE X E b g) : DT X E (.Compare a [.Eq] [b] pos) (fT (fBin dEqS f g)) := dt_cmp op_eq od_eqS ha hb (nomark _)
theorem dt_neS (ha : DE X E a f) (hb : DE X E b g) : DT X E (.Compare a [.NotEq] [b] pos) (fT (fBin dNeS f g)) := dt_cmp op_ne od_neS ha hb (nomark _)
/-! ### repr -/
def rRepr (K : PySem.W.Frag) : List V → Hp → VK → Prop := fun xs H Q => ∃ x p, xs = [x] ∧ Dp K H x p ∧ p.showable = true ∧ p.hasDict = false ∧ p.depth ≤ 60 ∧ p.shown.length ≤ sizeLine ∧ Q (.str p.shown) H
theorem call_repr (hr : RoomG k X.A) : CallR X (.builtin "repr") (rRepr X.K) := by
  intro pins s σ H xs us Q I rv h
  obtain ⟨x, p, rfl, hd, h1, h2, h3, h4, q⟩ := h
  obtain ⟨u, rfl, ru⟩ := vals1 rv
  obtain ⟨as, rd⟩ := Dp.reads I p x u hd ru
  have hun := hr.units
  have big : ∀ (a : Addr), u = .ref a → wpAny (model X.prog X.w) X.A (call (.builtin "repr") [u]) (EP X pins σ Q) X.xe s := fun a e => by
    subst e
    exact repr_of_reads' rd h1 (PyData.noDict_hsm h2) hr.gd (by omega) (fun _ _ z => z) (fun h' u tk hk => ⟨.str p.shown, H, I.kept hk, ⟨_, rfl⟩, q⟩) h4
  cases hd with
  | non => obtain rfl : u = .none := ru; exact PySem.P.repr_of_none ⟨.str _, H, I.tok _, ⟨_, rfl⟩, q⟩
  | bl b => obtain rfl : u = .bool b := ru; exact PySem.P.repr_of_bool ⟨.str _, H, I.tok _, ⟨_, rfl⟩, q⟩
  | int i => obtain ⟨t, rfl⟩ := ru; exact PySem.P.repr_of_int (of_decide_eq_true h1) ⟨.str _, H, I.tok _, ⟨_, rfl⟩, q⟩
  | str y => obtain ⟨t, rfl⟩ := ru; exact PySem.P.repr_of_str ⟨.str _, H, I.tok _, ⟨_, rfl⟩, q⟩ h4
  | lst _ _ => exact big _ ru
  | tup _ _ => exact big _ ru
def okRep (p : PyData) : Bool := p.showable && !p.hasDict && decide (p.depth ≤ 60) && decide (p.shown.length ≤ 100000)
def dRepr : OpA := op1 fun d Ω => match toP Ω 3 d with
  | some p => if okRep p = true then some (.ok (.str p.shown), Ω) else none
  | none => none
theorem cd_repr : CallD K dRepr (rRepr K) := by
  intro E m Ω H ds vs Q c r q
  obtain ⟨d, v, ed, ev, h, q1⟩ := op1_of r q
  clear q
  subst ed ev
  cases e1 : toP Ω 3 d with
  | none => rw [e1] at q1; exact q1.elim
  | some p =>
    rw [e1] at q1
    obtain ⟨hz, q1⟩ := Af.guard q1
    unfold okRep at hz
    simp only [Bool.and_eq_true, decide_eq_true_eq, Bool.not_eq_true'] at hz
    obtain ⟨⟨⟨z1, z2⟩, z3⟩, z4⟩ := hz
    exact ⟨v, p, rfl, toP_ok c 3 d v p h e1, z1, z2, z3, sz z4, q1.now c (by unfold Rl; rfl)⟩
/-! ### list(d), min(xs) -/
def dListK : OpA := op1 fun d Ω => match asK Ω d with
  | some kvs => some (.ok (.lst (keysD kvs)), Ω)
  | none => none
theorem rlL_keys {m : Mp} {Ω : Om} {H : Hp} : ∀ {kvs : List (Key × D)} {ws : List (Key × V)}, RlK K m Ω H kvs ws → RlL K m Ω H (keysD kvs) (ws.map fun kv => kV kv.1)
  | [], ws, h => by unfold RlK at h; subst h; unfold keysD; exact (by unfold RlL; rfl)
  | (k, d) :: kvs, ws, h => by
    unfold RlK at h
    obtain ⟨v, r, e, _, h2⟩ := h
    subst e
    show RlL K m Ω H (unkey k :: keysD kvs) (kV k :: r.map fun kv => kV kv.1)
    unfold RlL
    exact ⟨_, _, rfl, rl_unkey k, rlL_keys h2⟩
theorem cd_listK : CallD K dListK (fun xs H Q => ∃ (a : Addr) (kvs : List (Key × V)), xs = [.ref a] ∧ Rd H a (.dK kvs) ∧ ∀ p, H p = none → Q (.ref p) (upd H p (.lst (kvs.map fun kv => kV kv.1)))) := by
  intro E m Ω H ds vs Q c r q
  obtain ⟨d, v, ed, ev, h, q1⟩ := op1_of r q
  clear q
  subst ed ev
  cases e1 : asK Ω d with
  | none => rw [e1] at q1; exact q1.elim
  | some kvs =>
    rw [e1] at q1
    obtain ⟨a, ws, ea, h1, h2⟩ := asK_ok c h e1
    subst ea
    exact ⟨a, ws, rfl, h1, fun p hp => q1 m _ _ (Go.new c hp) (Rl.newL c hp (rlL_keys h2))⟩
def leastI : List Int → Option Int
  | [] => none
  | n :: ns => some (ns.foldl (fun a b => if b < a then b else a) n)
theorem leastI_spec : ∀ (ns : List Int) (n : Int), (ns.foldl (fun a b => if b < a then b else a) n) ∈ n :: ns ∧ ∀ y ∈ n :: ns, (ns.foldl (fun a b => if b < a then b else a) n) ≤ y
  | [], n => ⟨by simp, fun y hy => by simp at hy; simp [hy]⟩
  | b :: ns, n => by
    obtain ⟨h1, h2⟩ := leastI_spec ns (if b < n then b else n)
    rw [List.foldl_cons]
    refine ⟨?_, fun y hy => ?_⟩
    · rcases List.mem_cons.mp h1 with e | e
      · rw [e]; split <;> simp
      · simp [e]
    · have h3 := h2 _ (List.mem_cons_self ..)
      have hb : (if b < n then b else n) ≤ b ∧ (if b < n then b else n) ≤ n := by split <;> omega
      simp only [List.mem_cons] at hy
      rcases hy with hy | hy | hy
      · rw [hy]; exact Int.le_trans h3 hb.2
      · rw [hy]; exact Int.le_trans h3 hb.1
      · exact h2 y (List.mem_cons_of_mem _ hy)
def dMinI : OpA := onInts fun ns Ω => match leastI ns with
  | some m => some (.ok (.int m), Ω)
  | none => none
theorem cd_minI : CallD K dMinI (rMin K) := by
  intro E m Ω H ds vs Q c r q
  obtain ⟨a, ns, ev, h, q⟩ := onInts_of c r q
  cases ns with
  | nil => exact q.elim
  | cons n ns =>
    refine ⟨a, n :: ns, ev, SqL.of h, by simp, fun z hz hle => ?_⟩
    obtain ⟨h1, h2⟩ := leastI_spec ns n
    have e : z = ns.foldl (fun a b => if b < a then b else a) n := Int.le_antisymm (hle _ h1) (h2 _ hz)
    rw [e]
    exact q.now c rl_int
/-! ### d.get(k) -/
def fGetN (f g : Den D) : Den D := bnd f fun x Γ Ω => if (asK Ω x).isSome = true then bR (g Γ Ω) fun y Ω2 => dGetN x y Ω2 else none
theorem de_dgetN {apos cpos : Pos} (hr : RoomG k X.A) (ha : DE X E a f) (hb : DE X E b g) (m : M1 X a "get" apos b cpos := by exact ⟨by rfl, by rfl, by rfl, by rfl⟩) : DE X E (.Call (.Attribute a "get" apos) [b] [] cpos) (fGetN f g) := PE.mono (pe_dget1 (hu_of hr.toRoom) ha hb m) fun σ H Q h => by
  obtain ⟨m, Γ, Ω, s, h⟩ := h
  refine ⟨m, Γ, Ω, s, (Af.bind (R := Rl X.K) h).imp fun _ _ _ _ _ _ _ _ ⟨m1, Ω1, x, g1, r1, q⟩ => ?_⟩
  obtain ⟨hk, q⟩ := Af.guard q
  obtain ⟨kvs, ek⟩ := Option.isSome_iff_exists.mp hk
  obtain ⟨a, ws, ev, hd, rk⟩ := asK_ok g1.ok r1 ek
  refine ⟨a, ev, .inl ⟨ws, hd⟩, m1, Γ, Ω1, s.go g1, (Af.bind (R := Rl X.K) q).imp fun _ _ _ _ _ _ _ _ ⟨m2, Ω2, y, g2, r2, q2⟩ => ?_⟩
  obtain ⟨a', o, e3, _, hg, hh⟩ := onKey_of g2.ok (Rl.go g2.toGw g1.ok x _ r1) r2 q2
  rw [ev] at e3
  cases e3
  refine ⟨o, hg, ?_⟩
  rcases hh with ⟨d, w, rfl, rw_, q3⟩ | ⟨rfl, q3⟩
  · exact q3.now g2.ok rw_
  · exact q3.now g2.ok (by show Rl X.K m2 Ω2 _ .non .non; unfold Rl; rfl)
/-! ### zip(xs, ys) -/
def zipD : List D → List D → List D
  | x :: xs, y :: ys => .tup [x, y] :: zipD xs ys
  | _, _ => []
theorem zipD_get : ∀ (xs ys : List D) (i : Nat) (d : D), (zipD xs ys)[i]? = some d → ∃ x y, xs[i]? = some x ∧ ys[i]? = some y ∧ d = .tup [x, y]
  | [], ys, i, d, h => by unfold zipD at h; simp at h
  | x :: xs, [], i, d, h => by unfold zipD at h; simp at h
  | x :: xs, y :: ys, 0, d, h => by
    unfold zipD at h
    simp at h
    exact ⟨x, y, rfl, rfl, h.symm⟩
  | x :: xs, y :: ys, i + 1, d, h => by
    unfold zipD at h
    obtain ⟨x', y', h1, h2, h3⟩ := zipD_get xs ys i d (by simpa using h)
    exact ⟨x', y', by simpa using h1, by simpa using h2, h3⟩
theorem zipD_length : ∀ (xs ys : List D), (zipD xs ys).length = min xs.length ys.length
  | [], ys => by unfold zipD; simp
  | x :: xs, [] => by unfold zipD; simp
  | x :: xs, y :: ys => by unfold zipD; rw [List.length_cons, List.length_cons, List.length_cons, zipD_length xs ys]; omega
theorem yields_zip {m : Mp} {Ω : Om} {H : Hp} {a b : Addr} {vs ws : List V} {ds es : List D} (c : CellsOk K m Ω H) (h1 : H a = some (.lst vs)) (hl : ¬ Live m Ω a) (h2 : RlL K m Ω H ds vs) (k1 : H b = some (.lst ws)) (kl : ¬ Live m Ω b) (k2 : RlL K m Ω H es ws) :
    Yields K m Ω H (zipD ds es) (Itz K a b) := fun i m' Ω' H' g ok => by
  have e1 := g.frame _ _ h1 hl
  have e2 := RlL.go g c ds vs h2
  have f1 := g.frame _ _ k1 kl
  have f2 := RlL.go g c es ws k2
  refine ⟨fun d hd => ?_, fun hi => ⟨vs, ws, SqL.of e1, SqL.of f1, by rw [zipD_length, h2.length, k2.length] at hi; omega⟩⟩
  obtain ⟨x, y, hx, hy, ed⟩ := zipD_get ds es i d hd
  obtain ⟨v, hv, rv⟩ := e2.get hx
  obtain ⟨w, hw, rw_⟩ := f2.get hy
  refine ⟨⟨vs, ws, v, w, SqL.of e1, SqL.of f1, hv, hw⟩, fun z H'' yy => ?_⟩
  obtain ⟨T, x', y', ez, hT, eH, y1, y2⟩ := yy
  have z1 := y1 vs (SqL.of e1)
  have z2 := y2 ws (SqL.of f1)
  rw [hv] at z1
  rw [hw] at z2
  cases z1
  cases z2
  subst ez eH ed
  refine ⟨Go.new ok hT, ?_⟩
  unfold Rl
  exact ⟨T, _, rfl, .inl upd_same, RlL.new ok hT (rlL_2 rv rw_)⟩
def fZip (r : Den (List D)) : Den (List D) := bnd r fun ds _ Ω => match ds with
  | [d, e] => match d, e with
    | .lst xs, .lst ys => some (.ok (zipD xs ys), Ω)
    | _, _ => none
  | _ => none
theorem di_zip {elts : List Expr} {kk : Nat} {tpos p : Pos} {e2 : Expr} {r : Den (List D)} (ha : DA X E [e, e2] r) (hm : X.mg "zip" = none) (hg : Gl X "zip" := by rfl) (hs : starEach [e, e2] X.env = (false, eval e X.env) :: starEach [e2] X.env := by rfl) (hpl : (backTo pos (starEach [e2] X.env)).any (·.1) = false := by rfl) :
    DI X E (.Tuple elts kk tpos) (.Call (.Name "zip" p) [e, e2] [] pos) (fZip r) := PI.mono (pi_zip hg hm ha hs hpl) fun σ H R h => by
  obtain ⟨m, Γ, Ω, s, h⟩ := h
  refine ⟨m, Γ, Ω, s, (Af.bind (R := RlL X.K) h).imp fun _ _ H1 _ vs _ _ _ ⟨m1, Ω1, ds, g1, r1, q⟩ => ?_⟩
  have two : ∃ xs ys, ds = [.lst xs, .lst ys] := by
    match ds, q with
    | [x, y], q => cases x <;> cases y <;> first | exact ⟨_, _, rfl⟩ | exact q.elim
    | [], q => exact q.elim
    | [_], q => exact q.elim
    | _ :: _ :: _ :: _, q => exact q.elim
  obtain ⟨xs, ys, ed⟩ := two
  subst ed
  obtain ⟨v, w, ev, h1, h2⟩ := r1.two
  unfold Rl at h1 h2
  obtain ⟨a, vs', e1, k1, l1, t1⟩ := h1
  obtain ⟨b, ws', e2, k2, l2, t2⟩ := h2
  subst e1 e2 ev
  exact ⟨a, b, vs', ws', rfl, SqL.of k1, SqL.of k2, q m1 _ H1 (Go.refl g1.ok) (yields_zip g1.ok k1 l1 t1 k2 l2 t2)⟩
/-! ### own != -/
structure NoNe (K : PySem.W.Frag) (C : Addr) : Prop where
  ne : PySem.W.findIn K (.ref C) "__ne__" = some (some (.builtin "object.__ne__"))
  ob : PySem.W.subIn K (.ref C) (.type "object") = some true
def noNeB (c : Str) (K : PySem.W.Frag) : Bool := He.eqO (PySem.W.findIn K (.ref (cad K c)) "__ne__") (some (some (.builtin "object.__ne__"))) && decide (PySem.W.subIn K (.ref (cad K c)) (.type "object") = some true)
theorem noNeB_ok {c : Str} (h : noNeB c K = true) : NoNe K (cad K c) := by
  obtain ⟨h1, h2⟩ := Bool.and_eq_true_iff.mp h
  exact ⟨He.eqO_ok h1, of_decide_eq_true h2⟩
end
section
open PySem.W
variable {prog : Program} {w : World} {A : Around} {XE : Value → Shared → Prop} {s : Shared} {K : Frag} {x C f : Addr} {ox : Obj} {od : Option Obj} {b : Value}
theorem check_ne (X : K.In s.heap) (I : InstAt s.heap x ox C od) (N : NoNe K C) {M : Model} {Q : Unit → Shared → Prop} (q : Q () s) : wpAny M A (checkBuiltinCall "object.__ne__" ⟨[.ref x, b], []⟩) Q XE s := by
  have ha := F.cmpArgs_ne (.ref x) b
  simp only [checkBuiltinCall, F.cmpKind_ne, F.cmpSplit_ne]
  refine wpAny_bind ?_
  unfold isInstance
  refine wpAny_bind (I.type.here ((looks_subIn X N.ob).here ?_))
  simp only [Bool.not_true, Bool.false_eq_true, if_false]
  cases hsig : Manifest.signature? "object.__ne__" with
  | none => exact wpAny_pure (by first | exact q | exact wpAny_pure q)
  | some sig =>
    simp only [argsOk, hsig] at ha
    have h2 : Bind.checkArgs "object.__ne__" sig ⟨[.ref x, b], []⟩ = pure () := ha
    show wpAny M A (Bind.checkArgs "object.__ne__" sig ⟨[Value.ref x, b], []⟩) Q XE s
    rw [h2]
    exact wpAny_pure q
/-- object.__ne__: not of the class's own == -/
theorem entry_ne (hu : A.units < cLine) (X : K.In s.heap) (I : InstAt s.heap x ox C od) (hs : findIn K (.ref C) "__eq__" = some (some (.ref f))) (hf : isFn K (.ref f) = true) {Q : PySem.Fin → Shared → Prop}
    (h : wpAny (model prog w) A (call (.ref f) [.ref x, b]) (fun v s' => ∃ c, v = .bool c ∧ Q (.done (.ret (.bool (!c)))) s') XE s) : wpAny (model prog w) A (Builtin.«object.__ne__» ⟨[.ref x, b], []⟩) Q XE s := by
  unfold Builtin.«object.__ne__»
  repeat (first | with_reducible refine wpAny_cRoomFor hu ?_ | with_reducible refine ifBound_K X I hs hf (wpAny_mono h (fun v s' ⟨c, e, q⟩ => ?_) fun _ _ e => e) | wp_step)
  subst e
  repeat wp_step
  exact q
theorem try_ne (hu : A.units + 1 < cLine) (X : K.In s.heap) (I : InstAt s.heap x ox C od) (N : NoNe K C) (hs : findIn K (.ref C) "__eq__" = some (some (.ref f))) (hf : isFn K (.ref f) = true) {Q : Value → Shared → Prop}
    (h : wpAny (model prog w) A.in1 (call (.ref f) [.ref x, b]) (fun v s' => ∃ c, v = .bool c ∧ Q (.bool (!c)) s') XE s) : wpAny (model prog w) A (tryCompare (.ref x) "__ne__" b) (fun r s' => ∃ v, r = some v ∧ Q v s') XE s := by
  have sl := F.cmp_object.ne
  simp only [tryCompare, callSpecialIfBound?, bindSpecialIfBound?]
  refine wpAny_bind (wpAny_holding (wpAny_bind (wpAny_bind (wpAny_bind (I.type.here ((looks_findIn X N.ne).here ?_))))))
  simp only [sl.bind]
  refine wpAny_bind (wpAny_askSetting (wpAny_ite ?_))
  have one : wpAny (model prog w) A (call (.builtin "object.__ne__") [.ref x, b]) (fun v s' => ∃ c, v = .bool c ∧ Q (.bool c) s') XE s :=
    wpAny_call (codeAny_call_builtin sl.plain F.cmpEntry_ne (check_ne X I N (entry_ne (A := A.in1) hu X I hs hf (wpAny_mono h (fun v s' ⟨c, e, q⟩ => ⟨c, e, ⟨!c, rfl, q⟩⟩) fun _ _ e => e))))
  have fin : wpAny (model prog w) A (call (.builtin "object.__ne__") ([.ref x] ++ [b]) >>= fun v => pure (some v)) (fun r s' => ∃ c, r = some (.bool c) ∧ Q (.bool c) s') XE s :=
    wpAny_bind (wpAny_mono one (fun v s' ⟨c, e, q⟩ => by subst e; exact wpAny_pure ⟨c, rfl, q⟩) fun _ _ e => e)
  split
  · exact wpAny_bind (wpAny_pure (wpAny_pure (wpAny_mono fin (fun r s' ⟨c, e, q⟩ => by subst e; exact wpAny_pure ⟨_, rfl, q⟩) fun _ _ e => e)))
  · exact wpAny_tryCatch (wpAny_bind (wpAny_pure (wpAny_pure (wpAny_mono fin (fun r s' ⟨c, e, q⟩ => by subst e; exact wpAny_pure ⟨_, rfl, q⟩) fun _ _ e => e))))
theorem rich_ne {tb : Value} (hu : A.units + 1 < cLine) (X : K.In s.heap) (I : InstAt s.heap x ox C od) (hb : Looks (model prog w) s.heap (typeOf b) tb) (hn : notFirst K C tb = true) (N : NoNe K C) (hs : findIn K (.ref C) "__eq__" = some (some (.ref f))) (hf : isFn K (.ref f) = true)
    {Q : Value → Shared → Prop} (h : wpAny (model prog w) A.in1 (call (.ref f) [.ref x, b]) (fun v s' => ∃ c, v = .bool c ∧ Q (.bool (!c)) s') XE s) : wpAny (model prog w) A (richCompare .NotEq (.ref x) b) Q XE s := by
  have one := try_ne hu X I N hs hf h
  unfold richCompare
  simp only [oneThing_ref]
  have back : ∀ (α : Type) (k : Option Value → Sem α) (R : α → Shared → Prop), (∀ v s', Q v s' → wpAny (model prog w) A (k (some v)) R XE s') → wpAny (model prog w) A (tryCompare (.ref x) "__ne__" b >>= k) R XE s := fun α k R hk =>
    wpAny_bind (wpAny_mono one (fun r s' ⟨v, e, q⟩ => by subst e; exact hk v s' q) fun _ _ e => e)
  refine wpAny_holding (wpAny_bind (wpAny_cRoomFor (by omega) (wpAny_bind (I.type.here (wpAny_bind (hb.here ?_))))))
  split
  · rename_i q
    have e : subIn K tb (.ref C) = some false := (Bool.or_eq_true_iff.mp hn).elim (fun z => by rw [beq_iff_eq.mp z] at q; simp at q) fun z => beq_iff_eq.mp z
    refine wpAny_bind ((looks_subIn X e).here ?_)
    simp only [Bool.false_eq_true, if_false]
    exact back _ _ _ fun v s' q => wpAny_pure q
  · refine wpAny_bind (wpAny_pure ?_)
    simp only [Bool.false_eq_true, if_false]
    exact back _ _ _ fun v s' q => wpAny_pure q
end
section
variable {X : Cx} {T : CXT} {k : Nat} {f : Addr} {fd : FuncData} {ps : List Str} {sp : Sp} {E : St → XK}
/-- the callee runs, one unit deeper -/
theorem run_fnG1 {pins : List (Addr × Obj)} {σ : St} {H : Hp} {s : Shared} {Q : VK} {us : List Value} {vs : List V} (F : FnOkG X.prog X.w X.K X.mg X.base T k f fd ps sp) (hr : RoomG (k + 1) X.A) (hb : Binds X.K fd ps [])
    (hx : PassesAt T X σ (E σ)) (I : Inv X pins σ H s) (r : Vals vs us) (h : sp vs H Q (E σ)) : wpAny (model X.prog X.w) X.A.in1 (call (.ref f) us) (EP X pins σ Q) X.xe s := by
  have n1 := F.len _ _ _ _ h
  have n2 := r.length
  have b := hb s us I.kIn (by rw [List.append_nil]; omega)
  rw [List.append_nil] at b
  have hr1 : RoomG k X.A.in1 := ⟨hr.toRoom.in1, hr.gd⟩
  refine wpAny_call (codeAny_mono (F.run X.A.in1 X.stack s H ⟨us, []⟩ us vs Q (E σ) hr1 I.env0.in1 b r h) fun out s' q => ?_)
  match out, q with
  | .error e, q => exact hx pins H s e s' I q
  | .ok (.ret u), q => exact I.after q
  | .ok .next, q => exact q.elim
  | .ok .brk, q => exact q.elim
  | .ok .cont, q => exact q.elim
end
section
variable {X : Cx} {E : St → XK} {a b : Expr} {f g : Den D} {pos : Pos} {c : Str} {ps : List Str} {k n : Nat} {F : FD}
def notD : D → D
  | .bl b => .bl (!b)
  | d => d
def dOwnNe (c : Str) (n : Nat) (F : FD) : Op2 := fun x y Ω => bR (dOwn c n F x y Ω) fun d Ω1 => some (.ok (notD d), Ω1)
theorem op_ownNe (G : OwnG X.prog X.w X.K X.mg X.base c "__eq__" ps k F) (N : NoNe X.K (cad X.K c)) (hr : RoomG (k + 1) X.A) : OpR X (compareOp .NotEq) (fun x y H Q => rOwn X.K c ps.length F x y H fun v H' => ∃ z, v = .bl z ∧ Q (.bl (!z)) H') := by
  intro pins s σ H x y v u Q I rx ry h
  obtain ⟨a, b, dx, dy, fs, gs, ex, ey, ha, hb, sp⟩ := h
  subst ex ey
  obtain rfl : v = Value.ref a := rx
  obtain rfl : u = Value.ref b := ry
  obtain ⟨f, fd, hs, hf, ok, bi⟩ := G.ex
  obtain ⟨mA, J, _⟩ := ins_get I.hok ha
  obtain ⟨mB, J', _⟩ := ins_get I.hok hb
  obtain ⟨od, J, _⟩ := J.look
  obtain ⟨od', J', _⟩ := J'.look
  show wpAny (model X.prog X.w) X.A (richCompare .NotEq (.ref a) (.ref b)) (EP X pins σ Q) X.xe s
  have hun := hr.units
  refine rich_ne (tb := .ref (cad X.K c)) (by omega) I.kIn J J'.type (by simp [PySem.W.notFirst]) N hs hf ?_
  refine thn (run_fnG1 (E := fun _ => fun _ _ _ => False) (us := [.ref a, .ref b]) (vs := [.ref a, .ref b]) ok hr bi (fun pins H s e s' I h => by
    obtain ⟨_, _, _, _, _, _, _, _, _, _, _, _, z⟩ := h
    exact z.elim) I (.cons rfl (.cons rfl .nil)) sp) fun w s' ⟨z, H', I', rz, ⟨b', eb⟩, z2, ez, q⟩ => ?_
  subst eb
  cases ez
  cases rz
  exact ⟨b', rfl, .bl (!b'), H', I', rfl, q⟩
theorem od_ownNe : OpD X.K (dOwnNe c ps.length F) (fun x y H Q => rOwn X.K c ps.length F x y H fun v H' => ∃ z, v = .bl z ∧ Q (.bl (!z)) H') := by
  intro E m Ω H x y v u Q cc rx ry q
  unfold dOwnNe at q
  refine od_own E m Ω H x y v u _ cc rx ry ?_
  refine (Af.bind (R := Rl X.K) q).imp fun m1 Ω1 H1 d w e g1 r1 ⟨m2, Ω2, d2, g2, r2, q2⟩ => ?_
  have hb : ∃ z, d = .bl z := by
    unfold dOwn at e
    split at e
    · split at e
      · split at e
        · split at e
          · split at e
            · cases e; exact ⟨_, rfl⟩
            · cases e
          · cases e
        · cases e
      · cases e
    · cases e
  obtain ⟨z, rfl⟩ := hb
  unfold Rl at r1
  subst r1
  cases d2 with
  | bl z2 =>
    unfold Rl at r2
    cases r2
    exact ⟨z, rfl, q2.now g2.ok rl_bl⟩
  | tup _ => unfold Rl at r2; obtain ⟨_, _, z, _⟩ := r2; cases z
  | lst _ => unfold Rl at r2; obtain ⟨_, _, z, _⟩ := r2; cases z
  | dct _ => unfold Rl at r2; obtain ⟨_, _, z, _⟩ := r2; cases z
  | obj _ _ => unfold Rl at r2; obtain ⟨_, _, _, z, _⟩ := r2; cases z
  | ref _ => unfold Rl at r2; obtain ⟨_, z, _⟩ := r2; cases z
  | scr _ => unfold Rl at r2; obtain ⟨_, z, _⟩ := r2; cases z
  | cl _ => unfold Rl at r2; cases r2
  | non => unfold Rl at r2; cases r2
  | int _ => unfold Rl at r2; cases r2
  | str _ => unfold Rl at r2; cases r2
theorem de_ownNeN (G : OwnG X.prog X.w X.K X.mg X.base c "__eq__" ps k F) (N : NoNe X.K (cad X.K c)) (hr : RoomG (k + 1) X.A) (ha : DE X E a f) (hb : DE X E b g) (hn : ps.length = n := by rfl) : DE X E (.Compare a [.NotEq] [b] pos) (fBin (dOwnNe c n F) f g) := by
  subst hn
  exact de_cmp (op_ownNe G N hr) od_ownNe ha hb (nomark _)
theorem dt_ownNeN (G : OwnG X.prog X.w X.K X.mg X.base c "__eq__" ps k F) (N : NoNe X.K (cad X.K c)) (hr : RoomG (k + 1) X.A) (ha : DE X E a f) (hb : DE X E b g) (hn : ps.length = n := by rfl) : DT X E (.Compare a [.NotEq] [b] pos) (fT (fBin (dOwnNe c n F) f g)) := by
  subst hn
  exact dt_cmp (op_ownNe G N hr) od_ownNe ha hb (nomark _)
end
theorem bt_repr : bootBuiltins "repr" = some (.builtin "repr") := by decide +kernel
end Dn


set_option Elab.async false
set_option linter.all false
set_option maxRecDepth 100000
/-! DnKw: f(k = e, ..), keywords alone; C(k = e). -/
namespace Dn
open PySem L2
structure FnK (P : Program) (w : World) (K : PySem.W.Frag) (mg : Str → Option Value) (base : Heap) (x : Str) (ps : List Str) (ks : List Str) (ix : List Nat) (k : Nat) (F : FD) : Prop where
  ex : ∃ f fd, mg x = some (.ref f) ∧ FnOkG P w K mg base (L2N.CX P w) k f fd ps (spD K ps.length F) ∧ PySem.W.keepIn K (.ref f) = true ∧ KwB K fd ps 0 ks ix
def fCallK (n l : Nat) (ix : List Nat) (F : FD) (r : Den (List D)) : Den D := bnd r fun ds _ Ω => if ds.length = l ∧ (reord ix ds).length = n then F (reord ix ds) Ω else none
section
variable {X : Cx} {E : St → XK} {kws : List Keyword} {r : Den (List D)} {p pos : Pos} {x : Str} {ps ks : List Str} {k n l : Nat} {F : FD} {ix : List Nat}
theorem de_callKN (G : FnK X.prog X.w X.K X.mg X.base x ps ks ix k F) (hr : RoomG k X.A) (hx : ∀ σ, PassesAt (L2N.CX X.prog X.w) X σ (E σ)) (ha : DK X E kws r) (hn : ps.length = n := by rfl) (hl : ks.length = l := by rfl) (hg : Gl X x := by rfl)
    (hdb : (x == ("__debug__" : Str)) = false := by decide) (hall : (backToKw pos (keywordEach kws X.env)).all (·.1.isSome) = true := by rfl) (hks : (backToKw pos (keywordEach kws X.env)).filterMap (·.1) = ks := by rfl)
    (hpl : ((backTo pos (starEach [] X.env)).any (·.1) || (backToKw pos (keywordEach kws X.env)).any (·.1.isNone)) = false := by rfl) :
    DE X E (.Call (.Name x p) [] kws pos) (fCallK n l ix F r) := by
  subst hn hl
  obtain ⟨f, fd, hm, ok, kp, bi⟩ := G.ex
  refine ⟨fun pins s σ H Q I h => ?_⟩
  have h2 : tDA X.K E r σ H fun vs H2 => vs.length = ks.length ∧ spD X.K ps.length F (reord ix vs) H2 Q (E σ) := by
    obtain ⟨m, Γ, Ω, s, h⟩ := h
    refine ⟨m, Γ, Ω, s, (Af.bind (R := RlL X.K) h).imp fun _ _ H2 _ vs2 _ _ _ ⟨m2, Ω2, ds, g2, r2, q2⟩ => ?_⟩
    obtain ⟨⟨hl, hn⟩, q2⟩ := Af.guard q2
    exact ⟨by rw [← r2.length]; exact hl, by rw [← (reord_rl (ix := ix) r2).length]; exact hn, m2, Ω2, _, g2.ok, reord_rl r2, q2⟩
  refine wpAny_Call_Name_kw (ld_glob I hg hm ?_ hdb)
  refine PySem.W.callWith_KW0 (first := []) (h₀ := X.base) I.ok.mod.kin kp hall (thn (ha.run pos pins s σ H _ I h2) fun ws s2 ⟨zs, H2, I2, rz, l2, q2⟩ => ⟨I2.kIn, ?_⟩) hpl
  rw [hks, List.append_nil]
  have rr : Vals (reord ix zs) (reord ix ws) := reord_vals rz
  refine wpAny_call (codeAny_mono (ok.run X.A X.stack s2 H2 ⟨[], ks.zip ws⟩ (reord ix ws) (reord ix zs) Q (E σ) hr I2.env0 (bi.to s2 [] ws I2.kIn rfl (rz.length.symm.trans l2)) rr q2) fun out s' q => ?_)
  match out, q with
  | .error e, q => exact hx σ pins H2 s2 e s' I2 q
  | .ok (.ret u), q => exact I2.after q
  | .ok .next, q => exact q.elim
  | .ok .brk, q => exact q.elim
  | .ok .cont, q => exact q.elim
end
/-! ### tuples put together -/
def dCatT : Op2 := fun x y Ω => match x, y with
  | .tup xs, .tup ys => if xs.length + ys.length ≤ 100000 then some (.ok (.tup (xs ++ ys)), Ω) else none
  | _, _ => none
section
variable {K : PySem.W.Frag} {X : Cx} {E : St → XK} {a b : Expr} {f g : Den D} {pos : Pos}
theorem od_catT : OpD K dCatT (rCatA K) := by
  intro E m Ω H x y v u Q c rx ry q
  cases x with
  | tup xs =>
    cases y with
    | tup ys =>
      obtain ⟨hz, q⟩ := Af.guard q
      have rx0 := rx
      have ry0 := ry
      unfold Rl at rx ry
      obtain ⟨a, vs, ev, h1, h2⟩ := rx
      obtain ⟨b, ws, ew, k1, k2⟩ := ry
      subst ev ew
      refine ⟨a, b, vs, ws, rfl, rfl, h1.sq, k1.sq, by rw [← h2.length, ← k2.length]; exact sz hz, fun e => ?_, fun _ e => ?_, fun _ _ p hp => ?_⟩
      · have e2 : xs = [] := List.length_eq_zero_iff.mp (by rw [h2.length, e]; rfl)
        subst e2
        exact q.now c ry0
      · have e2 : ys = [] := List.length_eq_zero_iff.mp (by rw [k2.length, e]; rfl)
        subst e2
        rw [List.append_nil] at q
        exact q.now c rx0
      · exact q m _ _ (Go.new c hp) (rl_tupNew c hp (h2.append k2))
    | _ => exact q.elim
  | _ => cases y <;> exact q.elim
theorem de_catT (ha : DE X E a f) (hb : DE X E b g) : DE X E (.BinOp a .Add b pos) (fBin dCatT f g) := de_bin op_catA od_catT ha hb
end
end Dn


set_option Elab.async false
set_option linter.all false
set_option maxRecDepth 100000
/-! DnOwn2: an instance called, asked with `in`, its len, its repr, its properties. -/
namespace Dn
open PySem L2
/-- only answers, no error -/
def okO (r : Option (Rs D × Om)) : Option (Rs D × Om) := match r with
  | some (.ok d, Ω) => some (.ok d, Ω)
  | _ => none
theorem okO_of {K : PySem.W.Frag} {E E' : XK} {Q : VK} {m : Mp} {Ω : Om} {H : Hp} {r : Option (Rs D × Om)} (h : Af K (Rl K) E Q m Ω H (okO r)) : Af K (Rl K) E' Q m Ω H r := by
  cases r with
  | none => exact h
  | some z =>
    obtain ⟨q, Ω'⟩ := z
    cases q with
    | ok d => exact h
    | ex e => exact h.elim
def fCallO (c : Str) (n : Nat) (F : FD) (fo : Den D) (r : Den (List D)) : Den D := bnd fo fun x Γ Ω => match x with
  | .obj c' fs => if c' = c then bR (r Γ Ω) fun ds Ω1 => if (x :: ds).length = n then okO (F (x :: ds) Ω1) else none else none
  | _ => none
structure ClG (P : Program) (w : World) (K : PySem.W.Frag) (mg : Str → Option Value) (base : Heap) (c : Str) (ps : List Str) (k : Nat) (F : FD) : Prop where
  ex : ∃ f fd, StX.CallO K (cad K c) f ∧ FnOkG P w K mg base (L2N.CX P w) k f fd ps (spD K ps.length F) ∧ Binds K fd ps []
section
variable {X : Cx} {E : St → XK} {fe e : Expr} {es : List Expr} {fo : Den D} {r : Den (List D)} {pos : Pos} {c : Str} {ps : List Str} {k n : Nat} {F : FD}
theorem pass0X {σ : St} : PassesAt (L2N.CX X.prog X.w) X σ (fun _ _ _ => False) := fun pins H s e s' I h => by
  obtain ⟨_, _, _, _, _, _, _, _, _, _, _, _, z⟩ := h
  exact z.elim
/-! ### len(x) -/
def dLenO (c : Str) (n : Nat) (F : FD) : OpA := op1 fun d Ω => match asO c Ω d with
  | some _ => if [d].length = n then match F [d] Ω with
    | some (.ok z, Ω') => match z with
      | .int i => if 0 ≤ i ∧ i < 9223372036854775808 then some (.ok (.int i), Ω') else none
      | _ => none
    | _ => none
    else none
  | none => none
def rLenO (K : PySem.W.Frag) (c : Str) (n : Nat) (F : FD) : List V → Hp → VK → Prop := fun xs H Q => ∃ a dx fs, xs = [.ref a] ∧ H a = some (.ins (cad K c) dx fs) ∧ spD K n F [.ref a] H (fun v H' => ∃ i : Int, v = .int i ∧ 0 ≤ i ∧ i < 9223372036854775808 ∧ Q (.int i) H') fun _ _ _ => False
theorem call_lenO (G : OwnG X.prog X.w X.K X.mg X.base c "__len__" ps k F) (hr : RoomG (k + 1) X.A) : CallR X (.builtin "len") (rLenO X.K c ps.length F) := by
  intro pins s σ H xs us Q I rv h
  obtain ⟨a, dx, fs, ex, ha, sp⟩ := h
  subst ex
  obtain ⟨u, rfl, ru⟩ := vals1 rv
  obtain rfl : u = Value.ref a := ru
  obtain ⟨f, fd, hs, hf, ok, bi⟩ := G.ex
  obtain ⟨mA, J, _⟩ := ins_get I.hok ha
  obtain ⟨od, J, _⟩ := J.look
  obtain ⟨mm, hF⟩ := I.fr
  refine PySem.W.len_K hF I.ok.mod.kin J hs hf ?_
  refine thn (run_fnG1 (E := fun _ => fun _ _ _ => False) (us := [.ref a]) (vs := [.ref a]) ok hr bi pass0X I (.cons rfl .nil) sp) fun w s' ⟨z, H', I', rz, i, ez, b1, b2, q⟩ => ?_
  subst ez
  obtain ⟨t, rfl⟩ := rz
  exact ⟨⟨b1, by omega⟩, .int i, H', I'.tok _, ⟨_, rfl⟩, q⟩
theorem cd_lenO : CallD X.K (dLenO c ps.length F) (rLenO X.K c ps.length F) := by
  intro E m Ω H ds vs Q cc r q
  obtain ⟨d, v, ed, ev, h, q1⟩ := op1_of r q
  clear q
  have q := q1
  clear q1
  subst ed ev
  cases e1 : asO c Ω d with
  | none => rw [e1] at q; exact q.elim
  | some fs =>
    rw [e1] at q
    obtain ⟨hl, q⟩ := Af.guard q
    obtain ⟨a, dx, us, ea, h1, _⟩ := asO_ok cc h e1
    subst ea
    refine ⟨a, dx, us, rfl, h1, hl, m, Ω, [d], cc, RlL.one h, ?_⟩
    cases e3 : F [d] Ω with
    | none => rw [e3] at q; exact q
    | some z =>
      obtain ⟨r, Ω'⟩ := z
      rw [e3] at q
      cases r with
      | ex e => exact q.elim
      | ok d =>
        cases d with
        | int i =>
          dsimp only at q
          obtain ⟨hi, q⟩ := Af.guard q
          intro m' v' H' g r
          have r0 := r
          unfold Rl at r0
          exact ⟨i, r0, hi.1, hi.2, r0 ▸ q m' v' H' g r⟩
        | _ => exact q.elim
/-! ### repr(x) -/
def dReprO (c : Str) (n : Nat) (F : FD) : OpA := op1 fun d Ω => match asO c Ω d with
  | some _ => if [d].length = n then match F [d] Ω with
    | some (.ok z, Ω') => match z with
      | .str x => some (.ok (.str x), Ω')
      | _ => none
    | _ => none
    else none
  | none => none
def rReprO (K : PySem.W.Frag) (c : Str) (n : Nat) (F : FD) : List V → Hp → VK → Prop := fun xs H Q => ∃ a dx fs, xs = [.ref a] ∧ H a = some (.ins (cad K c) dx fs) ∧ spD K n F [.ref a] H (fun v H' => ∃ x : Str, v = .str x ∧ Q (.str x) H') fun _ _ _ => False
theorem call_reprO (G : OwnG X.prog X.w X.K X.mg X.base c "__repr__" ps k F) (hr : RoomG (k + 1) X.A) : CallR X (.builtin "repr") (rReprO X.K c ps.length F) := by
  intro pins s σ H xs us Q I rv h
  obtain ⟨a, dx, fs, ex, ha, sp⟩ := h
  subst ex
  obtain ⟨u, rfl, ru⟩ := vals1 rv
  obtain rfl : u = Value.ref a := ru
  obtain ⟨f, fd, hs, hf, ok, bi⟩ := G.ex
  obtain ⟨mA, J, _⟩ := ins_get I.hok ha
  obtain ⟨od, J, _⟩ := J.look
  obtain ⟨mm, hF⟩ := I.fr
  have hun := hr.units
  refine PySem.W.repr_K (by show X.A.units + 1 < cLine; omega) hF I.ok.mod.kin J hs hf ?_
  refine thn (run_fnG1 (E := fun _ => fun _ _ _ => False) (us := [.ref a]) (vs := [.ref a]) ok hr bi pass0X I (.cons rfl .nil) sp) fun w s' ⟨z, H', I', rz, i, ez, q⟩ => ?_
  subst ez
  obtain ⟨t, rfl⟩ := rz
  exact ⟨.str i, H', I', ⟨_, rfl⟩, q⟩
theorem cd_reprO : CallD X.K (dReprO c ps.length F) (rReprO X.K c ps.length F) := by
  intro E m Ω H ds vs Q cc r q
  obtain ⟨d, v, ed, ev, h, q1⟩ := op1_of r q
  clear q
  have q := q1
  clear q1
  subst ed ev
  cases e1 : asO c Ω d with
  | none => rw [e1] at q; exact q.elim
  | some fs =>
    rw [e1] at q
    obtain ⟨hl, q⟩ := Af.guard q
    obtain ⟨a, dx, us, ea, h1, _⟩ := asO_ok cc h e1
    subst ea
    refine ⟨a, dx, us, rfl, h1, hl, m, Ω, [d], cc, RlL.one h, ?_⟩
    cases e3 : F [d] Ω with
    | none => rw [e3] at q; exact q
    | some z =>
      obtain ⟨r, Ω'⟩ := z
      rw [e3] at q
      cases r with
      | ex e => exact q.elim
      | ok d =>
        cases d with
        | str x =>
          intro m' v' H' g r
          have r0 := r
          unfold Rl at r0
          exact ⟨x, r0, r0 ▸ q m' v' H' g r⟩
        | _ => exact q.elim
/-! ### v in x -/
def dInO (c : Str) (n : Nat) (F : FD) : Op2 := fun x y Ω => match asO c Ω y with
  | some _ => if [y, x].length = n then match F [y, x] Ω with
    | some (.ok z, Ω') => match z with
      | .bl b => some (.ok (.bl b), Ω')
      | _ => none
    | _ => none
    else none
  | none => none
def rInO (K : PySem.W.Frag) (c : Str) (n : Nat) (F : FD) : R2 := fun x y H Q => ∃ a dx fs, y = .ref a ∧ H a = some (.ins (cad K c) dx fs) ∧ spD K n F [y, x] H (fun v H' => ∃ b : Bool, v = .bl b ∧ Q (.bl b) H') fun _ _ _ => False
theorem op_inO (G : OwnG X.prog X.w X.K X.mg X.base c "__contains__" ps k F) (hr : RoomG k X.A) : OpR X (compareOp .In) (rInO X.K c ps.length F) := by
  intro pins s σ H x y v u Q I rx ry h
  obtain ⟨a, dx, fs, ey, ha, sp⟩ := h
  subst ey
  obtain rfl : u = Value.ref a := ry
  obtain ⟨f, fd, hs, hf, ok, bi⟩ := G.ex
  obtain ⟨mA, J, _⟩ := ins_get I.hok ha
  obtain ⟨od, J, _⟩ := J.look
  obtain ⟨mm, hF⟩ := I.fr
  refine PySem.W.in_K hF I.ok.mod.kin J hs hf ?_
  refine thn (run_fnG (E := fun _ => fun _ _ _ => False) (us := [.ref a, v]) (vs := [.ref a, x]) ok hr bi pass0X I (.cons rfl (.cons rx .nil)) sp) fun w s' ⟨z, H', I', rz, b, ez, q⟩ => ?_
  subst ez
  cases rz
  exact wpAny_pure ⟨.bl b, H', I', rfl, q⟩
theorem od_inO : OpD X.K (dInO c ps.length F) (rInO X.K c ps.length F) := by
  intro E m Ω H x y v u Q cc rx ry q
  unfold dInO at q
  cases e1 : asO c Ω y with
  | none => rw [e1] at q; exact q.elim
  | some fs =>
    rw [e1] at q
    obtain ⟨hl, q⟩ := Af.guard q
    obtain ⟨a, dx, us, ea, h1, _⟩ := asO_ok cc ry e1
    refine ⟨a, dx, us, ea, h1, hl, m, Ω, [y, x], cc, rlL_2 ry rx, ?_⟩
    cases e3 : F [y, x] Ω with
    | none => rw [e3] at q; exact q
    | some z =>
      obtain ⟨r, Ω'⟩ := z
      rw [e3] at q
      cases r with
      | ex e => exact q.elim
      | ok d =>
        cases d with
        | bl b =>
          intro m' v' H' g r
          have r0 := r
          unfold Rl at r0
          exact ⟨b, r0, r0 ▸ q m' v' H' g r⟩
        | _ => exact q.elim
/-! ### a property -/
structure PpG (P : Program) (w : World) (K : PySem.W.Frag) (mg : Str → Option Value) (base : Heap) (c at_ : Str) (ps : List Str) (k : Nat) (F : FD) : Prop where
  ex : ∃ p f fd, PropOf K (cad K c) at_ p f ∧ FnOkG P w K mg base (L2N.CX P w) k f fd ps (spD K ps.length F) ∧ Binds K fd ps []
theorem get_prop {pins : List (Addr × Obj)} {σ : St} {H : Hp} {s : Shared} {Q : VK} {b : Bool} {E' : Value → Shared → Prop} {a C p g dx : Addr} {fs : List (Str × V)} {fd : FuncData} {sp : Sp} {at_ : Str} (I : Inv X pins σ H s) (ea : H a = some (.ins C dx fs)) (c : Cls X.K C)
    (hp : PropOf X.K C at_ p g) (F : FnOkG X.prog X.w X.K X.mg X.base (L2N.CX X.prog X.w) k g fd ps sp) (hr : RoomG (k + 1) X.A) (hb : Binds X.K fd ps []) (h : sp [.ref a] H Q fun _ _ _ => False) :
    wpAny (model X.prog X.w) X.A (getAttr (.ref a) at_ b) (EP X pins σ Q) E' s := by
  obtain ⟨_, O, _⟩ := ins_get I.hok ea
  obtain ⟨_, J, _⟩ := O.look
  obtain ⟨_, rc⟩ := hp.rec_
  have I1 := I.tok (s.toks + 1)
  have hl := F.len _ _ _ _ h
  have known : (PySem.W.clsIn X.K C).isSome = true := by
    obtain ⟨_, e, _⟩ := PySem.W.any_some c.hd
    simp [e]
  have bb := hb { s with toks := s.toks + 1 } [.ref a] I1.kIn (by simpa using hl)
  rw [List.append_nil] at bb
  have hr1 : RoomG k X.A.in1 := ⟨hr.toRoom.in1, hr.gd⟩
  refine PySem.W.get_bind I.kIn J (PySem.W.plainGet_of (c.get at_)).1 (PySem.W.findObj_data known hp.at_ hp.get hp.tak) (PySem.W.plainGet_of (c.get at_)).2
    (wpAny_call (PySem.W.prop_get (s := { s with toks := s.toks + 1 }) I.kIn rc (codeAny_mono (F.run X.A.in1 X.stack { s with toks := s.toks + 1 } H ⟨[.ref a], []⟩ [.ref a] [.ref a] Q (fun _ _ _ => False) hr1 I1.env0.in1 bb (.cons rfl .nil) h) fun out s' q => ?_)))
  match out, q with
  | .error er, q =>
    obtain ⟨_, _, _, _, _, _, _, _, _, _, _, _, z⟩ := q
    exact z.elim
  | .ok (.ret u), q =>
    obtain ⟨v, H', I3, rv, q3⟩ := I1.after q
    show wpAny _ _ (handedOut u) _ _ _
    rw [PySem.W.handedOut_of (handed_of rv)]
    exact wpAny_pure ⟨v, H', I3, rv, q3⟩
  | .ok .next, q => exact q.elim
  | .ok .brk, q => exact q.elim
  | .ok .cont, q => exact q.elim
theorem de_prop {at_ : Str} (hc : Cls X.K (cad X.K c)) (G : PpG X.prog X.w X.K X.mg X.base c at_ ps k F) (hr : RoomG (k + 1) X.A) (he : DE X E fe fo) (hn : ps.length = n := by rfl)
    (hab : attributeBase fe at_ X.env (eval fe X.env) = eval fe X.env := by rfl) : DE X E (.Attribute fe at_ pos) (fUn (dUnO c n F) fo) := by
  subst hn
  obtain ⟨p, f, fd, hp, ok, bi⟩ := G.ex
  have h0 : PE X (.Attribute fe at_ pos) (fun σ H Q => tUn (rUnO X.K c ps.length F) (tD X.K E fo) σ H Q) := ⟨fun pins s σ H Q I h =>
    attr_of hab (thn (he.run pins s σ H _ I h) fun u s1 ⟨x, H1, I1, rx, a, dx, fs, ex, ea, q⟩ => by
      subst ex
      obtain rfl : u = Value.ref a := rx
      exact get_prop I1 ea hc hp ok hr bi q)⟩
  exact PE.mono h0 fun _ _ _ h => un_of ud_unO h
/-! ### x(v) -/
theorem de_callO (G : ClG X.prog X.w X.K X.mg X.base c ps k F) (hr : RoomG k X.A) (hf : DE X E fe fo) (ha : DA X E (e :: es) r) (hn : ps.length = n := by rfl)
    (ht : eval (.Call fe (e :: es) [] pos) X.env = (do callWith pos (← eval fe X.env) [] (backTo pos (starEach (e :: es) X.env)) (backToKw pos (keywordEach [] X.env))) := by rfl)
    (he : starEach (e :: es) X.env = (false, eval e X.env) :: starEach es X.env := by rfl) (hpl : (backTo pos (starEach es X.env)).any (·.1) = false := by rfl) : DE X E (.Call fe (e :: es) [] pos) (fCallO c n F fo r) := by
  subst hn
  obtain ⟨f, fd, co, ok, bi⟩ := G.ex
  have h0 : PE X (.Call fe (e :: es) [] pos) (StX.tCallO X (cad X.K c) (spD X.K ps.length F) (fun _ _ _ => False) (tD X.K E fo) (tDA X.K E r)) := ⟨fun pins s σ H Q I h => by
    refine PyProof.Rows.Call_ (thn (hf.run pins s σ H _ I h) fun u s1 ⟨y, H1, I1, ry, a, ey, q⟩ => ?_) ht
    cases ey
    cases ry
    refine StX.callO_with (thn (ha.run pos pins s1 σ H1 _ I1 q) fun us s2 ⟨vs, H2, I2, rv, hi, q2⟩ => ?_) he hpl
    obtain ⟨ox, od, J, hd⟩ := StX.insC_at I2 hi
    have n1 := ok.len _ _ _ _ q2
    have n2 := rv.length
    have b := bi s2 (.ref a :: us) I2.kIn (by rw [List.append_nil, List.length_cons, ← n2, ← n1, List.length_cons])
    rw [List.append_nil] at b
    refine ⟨⟨_, ox, od, J, hd⟩, wpAny_call (PySem.W.kco_code I2.kIn J hd co.at_ co.fn co.fi (codeAny_mono (ok.run X.A X.stack s2 H2 ⟨.ref a :: us, []⟩ (.ref a :: us) (.ref a :: vs) Q (fun _ _ _ => False) hr I2.env0 b (.cons rfl rv) q2) fun out s' q => ?_))⟩
    match out, q with
    | .error er, q => exact pass0X pins H2 s2 er s' I2 q
    | .ok (.ret u), q => exact I2.after q
    | .ok .next, q => exact q.elim
    | .ok .brk, q => exact q.elim
    | .ok .cont, q => exact q.elim⟩
  refine PE.mono h0 fun σ H Q h => ?_
  obtain ⟨m, Γ, Ω, s, h⟩ := h
  refine ⟨m, Γ, Ω, s, (Af.bind (R := Rl X.K) h).imp fun _ _ _ _ _ _ _ _ ⟨m1, Ω1, x, g1, r1, q⟩ => ?_⟩
  cases x with
  | obj c' fs =>
    have r2 := r1
    unfold Rl at r2
    obtain ⟨a, dx, gs, ev, h1, _⟩ := r2
    dsimp only at q
    obtain ⟨hc, q1⟩ := Af.guard q
    clear q
    subst hc
    have q := q1
    clear q1
    refine ⟨a, ev, m1, Γ, Ω1, s.go g1, (Af.bind (R := RlL X.K) q).imp fun _ _ _ _ vs _ _ _ ⟨m2, Ω2, ds, g2, r2, q2⟩ => ?_⟩
    have r3 := Rl.go g2.toGw g1.ok _ _ r1
    obtain ⟨hl, q2⟩ := Af.guard q2
    have r4 := r3
    unfold Rl at r4
    obtain ⟨a', dx', gs', ev', h1', _⟩ := r4
    rw [ev] at ev'
    cases ev'
    refine ⟨.inr ⟨dx', gs', h1'⟩, ?_⟩
    subst ev
    refine ⟨?_, m2, Ω2, D.obj c' fs :: ds, g2.ok, ?_, okO_of q2⟩
    · rw [← hl, List.length_cons, List.length_cons, r2.length]
    · unfold RlL
      exact ⟨_, _, rfl, r3, r2⟩
  | _ => exact q.elim
end
end Dn


set_option Elab.async false
set_option linter.all false
set_option maxRecDepth 100000
set_option maxHeartbeats 2000000
/-! DnExc: errors of own classes over any built-in one, with an __init__ of their own. -/
namespace Dn
open PySem L2
/-- a row of classes: own ones, then a built-in tail -/
def overB (tl : List Value) : List Value → Bool
  | [] => false
  | v :: r => (match v with | .ref _ => overB tl r | _ => false) || decide (v :: r = tl)
structure MroOk (l : List Value) : Prop where
  ne : l.isEmpty = false
  ob : l.contains (.type "object") = true
  ps : ∀ self : Value, refuseLoop self "__setattr__" l = pure ()
theorem over_ok {B sa ow : String} {tl : List Value} (SF : StoreFacts B tl sa ow) (ht : tl.contains (.type "object") = true) : ∀ {l : List Value}, overB tl l = true → MroOk l
  | [], h => by cases h
  | v :: r, h => by
    unfold overB at h
    rcases Bool.or_eq_true_iff.mp h with h | h
    · cases v with
      | ref c =>
        have ih := over_ok SF ht (l := r) h
        exact ⟨rfl, by rw [List.contains_cons, ih.ob, Bool.or_true], fun self => by rw [refuseLoop_ref]; exact ih.ps self⟩
      | _ => cases h
    · have e := of_decide_eq_true h
      exact ⟨rfl, by rw [e]; exact ht, fun self => by rw [e]; exact SF.passes self⟩
theorem over_has {tl : List Value} (T : String) : ∀ {l : List Value}, overB tl l = true → l.contains (.type T) = tl.contains (.type T)
  | [], h => by cases h
  | v :: r, h => by
    unfold overB at h
    rcases Bool.or_eq_true_iff.mp h with h | h
    · cases v with
      | ref c =>
        rw [List.contains_cons, over_has T h]
        rfl
      | _ => cases h
    · rw [of_decide_eq_true h]
section
open Builtin Builtin.ObjectAttr PySem.W PySem.Calls PyProof.Rows PySem.HandSPX
variable {prog : Program} {w : World} {A : Around} {R : Result → Shared → Prop} {hp : Heap} {g : Array GenState} {d : Drawn} {t : Nat} {os : OsState}
/-- self.name = v of an error: the way to its own dict -/
theorem set_enter {K : PySem.W.Frag} {name : Str} {tk : Tok} {v : Value} {x C : Addr} {ox : Obj} {od : Option Obj} {cd : ClassData} (X : K.In hp) (I : PySem.W.InstAt hp x ox C od) (hcd : PySem.W.clsIn K C = some cd) (hm : MroOk cd.mro) (ha : PySem.W.findIn K (.ref C) name = some none)
    (hq : wpAny (model prog w) A.in1 (storeInOwnDict (.ref x) (.ref C) (.str name tk) name v false) (fun fin s' => match fin with
      | .done f => R (.ok f) s'
      | .again c' => c'.quiet = true ∧ codeAny (model prog w) A c' R s') (fun e s' => R (.error e) s') ⟨hp, g, d, t, os⟩) :
    codeAny (model prog w) A (.call (.builtin "object.__setattr__") ⟨[.ref x, .str name tk, v], []⟩) R ⟨hp, g, d, t, os⟩ := by
  have sf := F.store_object
  have isO : PySem.W.Looks (model prog w) hp (isInstance (.ref x) (.type "object")) true :=
    I.type.andThen (PySem.W.looks_mroIn X (by
      unfold PySem.W.mroIn
      rw [hcd, Option.bind_some, if_neg (by simp [hm.ne]), hm.ob]))
  have lm : PySem.W.Looks (model prog w) hp (mroOf (.ref C)) cd.mro := (PySem.W.looks_clsIn X hcd).andThen .now
  have ln : PySem.W.Looks (model prog w) hp (storeTaker? none) none := .now
  have fits := sf.args (.ref x) (.str name tk) v
  refine codeAny_call_builtin sf.slot.plain sf.entry
    (@PySem.W.check_slot (model prog w) _ _ ⟨hp, g, d, t, os⟩ "object.__setattr__" "object" "__setattr__"
      (.ref x) [.str name tk, v] [] _ sf.kind sf.split isO fits ?_)
  rw [PySem.W.osa_eq, refuse_eq]
  refine wpAny_bind (wpAny_bind (I.type.at (wpAny_bind (lm.at ?_))))
  rw [hm.ps]
  exact wpAny_pure (wpAny_bind (I.type.at (wpAny_bind ((PySem.W.looks_findIn X ha).at (wpAny_bind (ln.at hq))))))
/-- the first attribute: a dict is made -/
theorem set_first {K : PySem.W.Frag} {name : Str} {tk : Tok} {v : Value} {x C : Addr} {fv : Array Value} {cd : ClassData} (X : K.In hp) (hx : hp.get? x = some { cls := .ref C, data := .fields fv }) (hcd : PySem.W.clsIn K C = some cd) (hm : MroOk cd.mro) (hh : cd.hasDict = true) (ha : PySem.W.findIn K (.ref C) name = some none)
    (hq : ∀ h' tk' dx, (∀ b o, b ≠ x → hp.get? b = some o → h'.get? b = some o) → hp.objs.size ≤ dx → dx ≠ x →
      h'.get? x = some { cls := .ref C, dict := some dx, data := .fields fv } → h'.Ns1 dx (fun y => if y = name then some v else none) → R (.ok (.ret .none)) ⟨h', g, d, tk', os⟩) :
    codeAny (model prog w) A (.call (.builtin "object.__setattr__") ⟨[.ref x, .str name tk, v], []⟩) R ⟨hp, g, d, t, os⟩ := by
  refine set_enter (od := none) X ⟨hx, rfl, rfl, trivial⟩ hcd hm ha ?_
  have far : x ≠ hp.objs.size := Nat.ne_of_lt (Heap.lt_size hx)
  have lc : PySem.W.Looks (model prog w) hp (classData C) cd := PySem.W.looks_clsIn X hcd
  cases cd
  cases hh
  unfold storeInOwnDict ownDictForStores
  repeat (first
    | with_reducible refine store_in_new ?_ ?_
    | with_reducible refine wpAny_loadPart_at hx ?_
    | with_reducible refine lc.at ?_
    | wp_step)
  · refine ⟨_, #[], _, (Heap.get?_update_ne _ _ _ _ far.symm).trans (Heap.get?_push_at rfl rfl), rfl, ?_, fun _ => rfl⟩
    exact fun e z => absurd z (by simp)
  · intro h' tk' n s
    have there := Heap.get?_push_of_some ({ cls := .type "dict", data := .dict #[] } : Obj) hx
    refine hq h' tk' hp.objs.size (fun b o nb z => ?_) (Nat.le_refl _) far.symm ?_ n
    · have e1 := s.2 b (Nat.ne_of_lt (Heap.lt_size z))
      rw [e1, Heap.get?_update_ne _ _ _ _ nb]
      exact Heap.get?_push_of_some _ z
    · rw [s.2 x far]
      exact Heap.get?_update_self _ there rfl
/-- a further one -/
theorem set_next {K : PySem.W.Frag} {name : Str} {tk : Tok} {v : Value} {x C dx : Addr} {fv : Array Value} {cd : ClassData} {m0 : Str → Option Value} {nl : List Str} (X : K.In hp) (hx : hp.get? x = some { cls := .ref C, dict := some dx, data := .fields fv })
    (hns : hp.Ns1 dx m0) (hw : Within m0 nl) (hz : nl.length ≤ 1000) (hcd : PySem.W.clsIn K C = some cd) (hm : MroOk cd.mro) (hh : cd.hasDict = true) (ha : PySem.W.findIn K (.ref C) name = some none)
    (hq : ∀ h' tk', (∀ b o, b ≠ dx → hp.get? b = some o → h'.get? b = some o) →
      h'.Ns1 dx (fun y => if y = name then some v else m0 y) → R (.ok (.ret .none)) ⟨h', g, d, tk', os⟩) :
    codeAny (model prog w) A (.call (.builtin "object.__setattr__") ⟨[.ref x, .str name tk, v], []⟩) R ⟨hp, g, d, t, os⟩ := by
  obtain ⟨oD, _, _, at_, _⟩ := hns.count hw
  refine set_enter (od := some oD) X ⟨hx, rfl, rfl, at_⟩ hcd hm ha ?_
  have lc : PySem.W.Looks (model prog w) hp (classData C) cd := PySem.W.looks_clsIn X hcd
  cases cd
  cases hh
  unfold storeInOwnDict ownDictForStores
  repeat (first
    | with_reducible refine PySem.OEX.store_in_old hns hw hz ?_
    | with_reducible refine wpAny_loadPart_at hx ?_
    | with_reducible refine lc.at ?_
    | wp_step)
  exact fun h' tk' n s => hq h' tk' (fun b o nb z => (s.2 b nb).trans z) n
end
/-! ### over the abstract heap -/
/-- the class of an error: over the built-in B -/
structure ErC (K : PySem.W.Frag) (C : Addr) (bmB : List Value) (newId : String) : Prop where
  cls : ∃ nm q N bs bm sn sub ab col dd k0 k1 k2 k3 k5, K.lookup C = some (excClassObj nm q C N bs bm true sn sub ab col dd k0 k1 k2 k3 k5 newId) ∧ overB bmB (.ref C :: bm) = true ∧ overB bmB bm = true
  mok : ∀ l, overB bmB l = true → MroOk l
  sa : PySem.W.findIn K (.ref C) "__setattr__" = some (some (.builtin "object.__setattr__"))
  exC : PySem.W.subIn K (.ref C) (.type "BaseException") = some true
  tyC : PySem.W.typeIn K (.ref C) = some (.type "type")
  kC : PySem.W.keepIn K (.ref C) = true
theorem ErC.cd {K : PySem.W.Frag} {C : Addr} {bmB : List Value} {newId : String} (T : ErC K C bmB newId) : ∃ cd, PySem.W.clsIn K C = some cd ∧ MroOk cd.mro ∧ cd.hasDict = true := by
  obtain ⟨nm, q, N, bs, bm, sn, sub, ab, col, dd, k0, k1, k2, k3, k5, hC, hm, _⟩ := T.cls
  refine ⟨{ name := nm, bases := bs, mro := .ref C :: bm, ns := N, qualname := q, hasDict := true, slotNames := sn, subclasses := sub, abstract := ab, collection := col, hasDel := false }, ?_, T.mok _ hm, rfl⟩
  unfold PySem.W.clsIn
  rw [hC] <;> rfl
section
variable {X : Cx} {pins : List (Addr × Obj)} {σ : St} {H : Hp} {s : Shared} {a C dx : Addr} {f : Str} {y : V} {u : Value} {fs : List (Str × V)} {Q : Unit → Shared → Prop} {E : Value → Shared → Prop} {A : Around} {bmB : List Value} {newId : String}
theorem err_first (T : ErC X.K C bmB newId) (I : Inv X pins σ H s) (e : H a = some (exo a C none)) (hno : PySem.W.findIn X.K (.ref C) f = some none) (ry : RelV y u)
    (h : ∀ dx s', H dx = none → dx ≠ a → Inv X pins σ (upd (upd H dx (exd dx [(f, y)])) a (exo a C (some dx))) s' → Q () s') : wpAny (model X.prog X.w) A (setAttr (.ref a) f u) Q E s := by
  obtain ⟨cd, hcd, hm, hh⟩ := T.cd
  obtain ⟨t1, ho⟩ := exo_at I.hok e
  obtain ⟨hp, g, d, t, os⟩ := s
  refine PySem.W.set_plain I.kIn (od := none) ⟨ho, rfl, rfl, trivial⟩ T.sa (set_first I.kIn ho hcd hm hh hno fun h' tk' dx k dn dne hx hn => ?_)
  have hnd : H dx = none := I.hok.fresh dn
  have off : ∀ {b : Addr} {o : Obj}, hp.get? b = some o → b ≠ dx := fun q => Nat.ne_of_lt (Nat.lt_of_lt_of_le (Heap.lt_size q) dn)
  have na : ∀ {b : Addr}, H b = none → b ≠ a := fun n z => by
    rw [z, e] at n
    cases n
  refine h dx _ hnd dne (I.un (t' := tk') {
    keep := fun b o q n _ _ => k b o (na n) q
    slot := fun b o q n _ _ => ⟨o.slots, k b o (na n) q⟩
    free := fun b o q n _ => by
      rw [upd_ne (na n), upd_ne (off q)]
      exact n
    there := fun b o q _ => if hb : b = a then ⟨_, hb ▸ hx⟩ else ⟨o, k b o hb q⟩
    tups := fun b xs q => by
      rw [upd_ne (at_ne e q exo_tup), upd_ne (ne_of_none q hnd)]
      exact q
    frzs := fun b o v q => by
      rw [upd_ne (at_ne e q exo_frz), upd_ne (ne_of_none q hnd)]
      exact q
    tbls := fun b ps q => ⟨#[], by
      rw [upd_ne (at_ne e q exo_tbl), upd_ne (ne_of_none q hnd), q]
      simp⟩ } fun b o q => ?_)
  rcases Decidable.em (b = a) with rfl | hb
  · rw [upd_same] at q
    cases q
    exact exo_ok hx
  · rw [upd_ne hb] at q
    rcases Decidable.em (b = dx) with rfl | hd
    · rw [upd_same] at q
      cases q
      exact exd_ok hn (relO_put (fs := []) ry fun g => True.intro)
    · rw [upd_ne hd] at q
      refine (I.hok b o q).stay (fun c v hc z => k c v ?_ z) (fun c hc => ?_) (fun c xs hc => ?_)
      · rcases hc with hc | hc
        · rw [hc]
          exact hb
        · exact at_ne e hc exo_own
      · rw [upd_ne (at_ne e hc exo_own), upd_ne (ne_of_none hc hnd)]
        exact hc
      · rw [upd_ne (at_ne e hc exo_tup), upd_ne (ne_of_none hc hnd)]
        exact hc
theorem err_next (T : ErC X.K C bmB newId) (I : Inv X pins σ H s) (e : H a = some (exo a C (some dx))) (ed : H dx = some (exd dx fs)) (hl : fs.length ≤ 900) (hno : PySem.W.findIn X.K (.ref C) f = some none) (ry : RelV y u)
    (h : ∀ s', Inv X pins σ (upd H dx (exd dx ((f, y) :: fs))) s' → Q () s') : wpAny (model X.prog X.w) A (setAttr (.ref a) f u) Q E s := by
  obtain ⟨cd, hcd, hm, hh⟩ := T.cd
  obtain ⟨t1, ho⟩ := exo_at I.hok e
  obtain ⟨mA, hns, rel⟩ := exd_at I.hok ed
  have hw := within_of rel
  obtain ⟨hp, g, d, t, os⟩ := s
  obtain ⟨oD, _, _, hoD, _⟩ := hns.count hw
  refine PySem.W.set_plain I.kIn (od := some oD) ⟨ho, rfl, rfl, hoD⟩ T.sa (set_next I.kIn ho hns hw (by rw [List.length_map]; omega) hcd hm hh hno fun h' tk' k hn => ?_)
  obtain ⟨o, _, _, e', _⟩ := id hn
  exact h _ (I.write (t' := tk') (x := dx) (e := dx) (o := exd dx ((f, y) :: fs)) (by rw [ed]; trivial) (.inl rfl) k ⟨o, e'⟩ (exd_ok hn (relO_put ry rel)))
end
end Dn


set_option Elab.async false
set_option linter.all false
set_option maxRecDepth 100000
set_option maxHeartbeats 2000000
/-! DnErr: an error's __init__, the error made, raised. -/
namespace Dn
open PySem L2
/-- self.f = e, self an error under construction -/
def tEst (K : PySem.W.Frag) (bmB : List Value) (newId : String) (f : Str) (to te : TE) : TS := fun D σ H => te σ H fun y H1 => to σ H1 fun x H2 => ∃ a C : Addr, x = .ref a ∧ ErC K C bmB newId ∧ PySem.W.findIn K (.ref C) f = some none ∧
  ((H2 a = some (exo a C none) ∧ ∀ dx, H2 dx = none → dx ≠ a → D.nx σ (upd (upd H2 dx (exd dx [(f, y)])) a (exo a C (some dx)))) ∨
    ∃ (dx : Addr) (fs : List (Str × V)), H2 a = some (exo a C (some dx)) ∧ H2 dx = some (exd dx fs) ∧ fs.length ≤ 900 ∧ D.nx σ (upd H2 dx (exd dx ((f, y) :: fs))))
theorem ps_est {X : Cx} {bmB : List Value} {newId : String} {o e : Expr} {to te : TE} {f : Str} {p' pos : Pos} (ho : PE X o to) (he : PE X e te) (hs : swapsWith e (some (.Attribute o f p')) pos.line X.env = pure false) :
    PS X (.Assign [.Attribute o f p'] e pos) (tEst X.K bmB newId f to te) := ⟨fun pins s σ H D I h => by
  refine plainObj_wpAny_Assign_Attribute (thn (he.run pins s σ H _ I h) fun v s1 ⟨y, H1, I1, r1, q1⟩ => thn (ho.run pins s1 σ H1 _ I1 q1) fun u s2 ⟨x, H2, I2, r2, a, C, ex, T, hno, q⟩ => ?_) hs
  cases ex
  cases r2
  rcases q with ⟨ea, q⟩ | ⟨dx, fs, ea, ed, hl, q⟩
  · exact err_first T I2 ea hno r1 fun dx s' n ne J => ⟨σ, _, J, q dx n ne⟩
  · exact err_next T I2 ea ed hl hno r1 fun s' J => ⟨σ, _, J, q⟩⟩
/-- the promise of such an __init__ -/
def spE (K : PySem.W.Frag) (bmB : List Value) (newId : String) (fns : List Str) : Sp := fun vs H Q _ => ∃ (a C : Addr) (ws : List V), vs = .ref a :: ws ∧ ws.length = fns.length ∧ H a = some (exo a C none) ∧ ErC K C bmB newId ∧ (∀ f ∈ fns, PySem.W.findIn K (.ref C) f = some none) ∧
  ∀ dx, H dx = none → dx ≠ a → Q .non (upd (upd H dx (exd dx (fns.zip ws).reverse)) a (exo a C (some dx)))
section
variable {P : Program} {w : World} {K : PySem.W.Frag} {mg : Str → Option Value} {base : Heap} {T : CXT} {k : Nat} {f : Addr} {fd : FuncData} {x qual f1 f2 : Str} {params : Arguments} {scope : Scope} {bmB : List Value} {newId : String} {p1 p2 p3 p4 q1 q2 q3 q4 : Pos}
theorem fn_err1 (G : FunD K x qual params [.Assign [.Attribute (.Name "self" p1) f1 p2] (.Name f1 p3) p4] scope [] [] f fd) (S : FnScope ["self", f1] ["self", f1] scope) (v0 : Vis scope "self") (v1 : Vis scope f1)
    (d1 : (f1 == ("__debug__" : Str)) = false) (c1 : (f1 == ("__classdict__" : Str)) = false) (sw : ∀ env, swapsWith (.Name f1 p3) (some (.Attribute (.Name "self" p1) f1 p2)) p4.line env = pure false) :
    FnOkG P w K mg base T (k + 1) f fd ["self", f1] (spE K bmB newId [f1]) := by
  refine fn_ofG G S (fun vs H Q E h => ?_) fun cdv A out s H vs Q E hr h => ⟨_, pss_one (ps_est (bmB := bmB) (newId := newId) (pe_var (i := 0) rfl v0) (pe_var (i := 1) rfl v1 d1 c1) (sw _)), ?_⟩
  · obtain ⟨a, C, ws, rfl, hl, _⟩ := h
    simp [hl]
  · obtain ⟨a, C, ws, rfl, hl, ha, hT, hno, q⟩ := h
    match ws, hl with
    | [y], _ => exact ⟨y, rfl, .ref a, rfl, a, C, rfl, hT, hno f1 (by simp), .inl ⟨ha, fun dx h1 h2 => q dx h1 h2⟩⟩
theorem upd_pair {H : Hp} {a d : Addr} {o u v : HO} (h : d ≠ a) : upd (upd (upd H d o) a u) d v = upd (upd H d v) a u := by
  funext b
  unfold upd
  by_cases h1 : b = d
  · subst h1
    simp [h]
  · simp [h1]
theorem fn_err2 (G : FunD K x qual params [.Assign [.Attribute (.Name "self" p1) f1 p2] (.Name f1 p3) p4, .Assign [.Attribute (.Name "self" q1) f2 q2] (.Name f2 q3) q4] scope [] [] f fd) (S : FnScope ["self", f1, f2] ["self", f1, f2] scope)
    (v0 : Vis scope "self") (v1 : Vis scope f1) (v2 : Vis scope f2) (d1 : (f1 == ("__debug__" : Str)) = false) (c1 : (f1 == ("__classdict__" : Str)) = false) (d2 : (f2 == ("__debug__" : Str)) = false) (c2 : (f2 == ("__classdict__" : Str)) = false)
    (sw : ∀ env, swapsWith (.Name f1 p3) (some (.Attribute (.Name "self" p1) f1 p2)) p4.line env = pure false) (sw2 : ∀ env, swapsWith (.Name f2 q3) (some (.Attribute (.Name "self" q1) f2 q2)) q4.line env = pure false) :
    FnOkG P w K mg base T (k + 1) f fd ["self", f1, f2] (spE K bmB newId [f1, f2]) := by
  refine fn_ofG G S (fun vs H Q E h => ?_) fun cdv A out s H vs Q E hr h => ⟨_, pss_cons (ps_est (bmB := bmB) (newId := newId) (pe_var (i := 0) rfl v0) (pe_var (i := 1) rfl v1 d1 c1) (sw _)) (pss_one (ps_est (bmB := bmB) (newId := newId) (pe_var (i := 0) rfl v0) (pe_var (i := 2) rfl v2 d2 c2) (sw2 _))), ?_⟩
  · obtain ⟨a, C, ws, rfl, hl, _⟩ := h
    simp [hl]
  · obtain ⟨a, C, ws, rfl, hl, ha, hT, hno, q⟩ := h
    match ws, hl with
    | [y, z], _ =>
      refine ⟨y, rfl, .ref a, rfl, a, C, rfl, hT, hno f1 (by simp), .inl ⟨ha, fun dx h1 h2 => ?_⟩⟩
      refine ⟨z, rfl, .ref a, rfl, a, C, rfl, hT, hno f2 (by simp), .inr ⟨dx, [(f1, y)], upd_same, ?_, by simp, ?_⟩⟩
      · rw [upd_ne h2, upd_same]
      · rw [upd_pair h2]
        exact q dx h1 h2
end
/-! ### the error made, raised -/
def tMkE (C : Addr) (fns : List Str) (ta : TA) : St → Hp → XK → Prop := fun σ H Q => ta σ H fun vs H1 => vs.length = fns.length ∧ ∀ d, H1 d = none → Q (.ref C) (some d) (upd H1 d (.xd (fns.zip vs).reverse))
theorem del_pair {H : Hp} {a d : Addr} {o u v w : HO} (ha : H a = none) (h : d ≠ a) : upd (L2.del (upd (upd (upd H a w) d o) a u) a) d v = upd H d v := by
  funext b
  unfold upd L2.del
  by_cases h1 : b = d
  · simp [h1]
  · by_cases h2 : b = a
    · subst h2
      simp [h1, ha]
    · simp [h1, h2]
section
variable {X : Cx} {e : Expr} {es : List Expr} {ta : TA} {p pos : Pos} {x : Str} {C fI : Addr} {k : Nat} {fd : FuncData} {ps fns : List Str} {B newId initId : String} {bmB : List Value}
theorem pmk_err (FB : ExcBaseFacts B newId initId bmB) (T : ErC X.K C bmB newId) (hno : ∀ f ∈ fns, PySem.W.findIn X.K (.ref C) f = some none) (iC : PySem.W.findIn X.K (.ref C) "__init__" = some (some (.ref fI))) (tI : PySem.W.typeIn X.K (.ref fI) = some (.type "function"))
    (F1 : FnOkG X.prog X.w X.K X.mg X.base (L2N.CX X.prog X.w) k fI fd ps (spE X.K bmB newId fns)) (hr : RoomG (k + 1) X.A) (hb : Binds X.K fd ps []) (hz : fns.length ≤ 900) (hg : Gl X x) (hm : X.mg x = some (.ref C)) (ha : PA X (e :: es) ta)
    (hdb : (x == ("__debug__" : Str)) = false) (he : starEach (e :: es) X.env = (false, eval e X.env) :: starEach es X.env) (hpl : (backTo pos (starEach es X.env)).any (·.1) = false) :
    L2N.PMk X (.Call (.Name x p) (e :: es) [] pos) (tMkE C fns ta) := by
  intro pins s σ H Q I h
  obtain ⟨nm, q, N, bs, bm, sn, sub, ab, col, dd, k0, k1, k2, k3, k5, hC, _, hbm⟩ := T.cls
  refine wpAny_Call_Name_kw (ld_glob I hg hm (PySem.W.callWith_K (h₀ := X.base) I.ok.mod.kin T.kC
    (thn (ha.run pos pins s σ H _ I h) fun us s1 ⟨vs, H1, I1, r1, hl, q1⟩ => ⟨I1.kIn, ?_⟩) he hpl) hdb)
  show wpAny _ _ (call (.ref C) us) _ _ _
  obtain ⟨hp, g, dr, tk, os⟩ := s1
  obtain ⟨a, hA⟩ : ∃ a, a = hp.objs.size + 1 := ⟨_, rfl⟩
  have hsz : hp.objs.size ≤ a := by omega
  have hn : H1 a = none := I1.hok.fresh hsz
  obtain ⟨h2, hH⟩ : ∃ h2, h2 = (hp.push (PySem.W.kdv_tup us)).push (PySem.HandSPX.excO C hp.objs.size) := ⟨_, rfl⟩
  have kk : ∀ b o, hp.get? b = some o → h2.get? b = some o := fun b o z => by
    rw [hH]
    exact Heap.get?_push_of_some _ (Heap.get?_push_of_some _ z)
  have at2 : h2.get? a = some (PySem.HandSPX.excO C hp.objs.size) := by
    rw [hH, hA]
    heap_get
  have I2 : Inv X pins σ (upd H1 a (exo a C none)) ⟨h2, g, dr, tk, os⟩ := I1.laid (t' := tk) (a := a) (o := exo a C none) (h' := h2) kk hsz (exo_ok at2)
  have lus : us.length = fns.length := by rw [← r1.length, hl]
  have sp : spE X.K bmB newId fns (.ref a :: vs) (upd H1 a (exo a C none)) (fun v H2 => v = .non ∧ ∃ (d : Addr) (fs : List (Str × V)), H2 a = some (exo a C (some d)) ∧ H2 d = some (exd d fs) ∧ H1 d = none ∧ Q (.ref C) (some d) (upd (L2.del H2 a) d (.xd fs))) fun _ _ _ => False := by
    refine ⟨a, C, vs, rfl, hl, upd_same, T, hno, fun dx h1 h3 => ⟨rfl, dx, (fns.zip vs).reverse, upd_same, ?_, ?_, ?_⟩⟩
    · rw [upd_ne h3, upd_same]
    · rw [upd_ne h3] at h1
      exact h1
    · rw [del_pair hn h3]
      rw [upd_ne h3] at h1
      exact q1 dx h1
  have nps := F1.len _ _ _ _ sp
  have r2 : Vals (V.ref a :: vs) (Value.ref a :: us) := .cons rfl r1
  have b2 := hb ⟨h2, g, dr, tk, os⟩ (.ref a :: us) I2.kIn (by rw [List.append_nil, ← nps, r2.length])
  rw [List.append_nil] at b2
  have big : us.length ≤ sizeLine := by
    rw [lus, sizeLine_eq]
    omega
  subst hA hH
  refine wpAny_call (PySem.HandSPX.call_own FB (fun Y => over_has Y hbm) (I1.kIn _ _ hC) (PySem.W.looks_findIn I1.kIn iC) (fun self => PySem.W.bind_fn I1.kIn self tI) big
    (codeAny_mono (F1.run _ X.stack _ _ ⟨Value.ref (hp.objs.size + 1) :: us, []⟩ _ _ _ (fun _ _ _ => False) (hr.make C us []) (I2.env0.make C us []) b2 r2 sp) fun r s' hq => ?_))
  match r, hq with
  | .error er, hq =>
    obtain ⟨_, _, _, _, _, _, _, _, _, _, _, _, z⟩ := hq
    exact z.elim
  | .ok (.ret u), hq =>
    obtain ⟨v, H2, os2, bare2, un2, hok2, rv, ev, d, fs, ea, ed, hd1, q2⟩ := hq
    cases ev
    obtain ⟨h3, g2, d2, t2, os'⟩ := s'
    obtain ⟨t0, G, J, kG, ge, hoe, na⟩ := mk_end0 (d2 := d2) (t2 := t2) I1 hsz kk un2 hok2 os2 bare2 ea ed hd1
    exact ⟨rv, _, _, _, ⟨G, g2, d2, t2, os'⟩, _, .ref C, some d, rfl, J, kG, ge, hoe, ⟨rfl, rfl, fun vs hv => by cases hv; rfl⟩, rfl, rfl, na, rfl, bare2, raises_own T.exC T.tyC, q2⟩
  | .ok .next, hq => exact hq.elim
  | .ok .brk, hq => exact hq.elim
  | .ok .cont, hq => exact hq.elim
end
/-- raise C(e, ..) -/
def sRaise (c : Str) (fns : List Str) (r : Den (List D)) : DenS := fun Γ Ω => match r Γ Ω with
  | none => none
  | some (.ok ds, Ω1) => if ds.length = fns.length then some (.ex ⟨c, (fns.zip ds).reverse⟩, Γ, Ω1) else none
  | some (.ex e, Ω1) => some (.ex e, Γ, Ω1)
theorem rlF_snoc {K : PySem.W.Frag} {m : Mp} {Ω : Om} {H : Hp} {f : Str} {d : D} {v : V} : ∀ {fs : List (Str × D)} {gs : List (Str × V)}, RlF K m Ω H fs gs → Rl K m Ω H d v → RlF K m Ω H (fs ++ [(f, d)]) (gs ++ [(f, v)])
  | [], gs, h, r => by
    unfold RlF at h
    subst h
    rw [List.nil_append, List.nil_append]
    unfold RlF
    exact ⟨v, [], rfl, r, by unfold RlF; rfl⟩
  | (k, d') :: fs, gs, h, r => by
    unfold RlF at h
    obtain ⟨v', gs', rfl, h1, h2⟩ := h
    rw [List.cons_append, List.cons_append]
    unfold RlF
    exact ⟨v', gs' ++ [(f, v)], rfl, h1, rlF_snoc h2 r⟩
theorem rlF_zip {K : PySem.W.Frag} {m : Mp} {Ω : Om} {H : Hp} : ∀ {fns : List Str} {ds : List D} {vs : List V}, RlL K m Ω H ds vs → ds.length = fns.length → RlF K m Ω H (fns.zip ds).reverse (fns.zip vs).reverse
  | [], ds, vs, h, hl => by
    rw [List.zip_nil_left, List.zip_nil_left, List.reverse_nil, List.reverse_nil]
    unfold RlF
    rfl
  | f :: fns, [], vs, h, hl => by cases hl
  | f :: fns, d :: ds, vs, h, hl => by
    unfold RlL at h
    obtain ⟨v, vs', rfl, h1, h2⟩ := h
    rw [List.zip_cons_cons, List.zip_cons_cons, List.reverse_cons, List.reverse_cons]
    exact rlF_snoc (rlF_zip h2 (by simpa using hl)) h1
structure ErG (P : Program) (w : World) (K : PySem.W.Frag) (mg : Str → Option Value) (base : Heap) (c : Str) (fns ps : List Str) (k : Nat) : Prop where
  ex : ∃ (B newId initId : String) (bmB : List Value) (fI : Addr) (fd : FuncData), ExcBaseFacts B newId initId bmB ∧ ErC K (cad K c) bmB newId ∧ (∀ f ∈ fns, PySem.W.findIn K (.ref (cad K c)) f = some none) ∧ PySem.W.findIn K (.ref (cad K c)) "__init__" = some (some (.ref fI)) ∧
    PySem.W.typeIn K (.ref fI) = some (.type "function") ∧ FnOkG P w K mg base (L2N.CX P w) k fI fd ps (spE K bmB newId fns) ∧ Binds K fd ps [] ∧ fns.length ≤ 900 ∧ mg c = some (.ref (cad K c))
section
variable {X : Cx} {E : St → XK} {e : Expr} {es : List Expr} {r : Den (List D)} {p pos pos' : Pos} {c : Str} {k : Nat} {ps fns : List Str}
theorem ds_raise (G : ErG X.prog X.w X.K X.mg X.base c fns ps k) (hr : RoomG (k + 1) X.A) (hc : X.calm = true) (tk : L2N.Takes X (fun cls d σ H => E σ cls d H)) (ha : DA X E (e :: es) r) (hg : Gl X c := by rfl)
    (hdb : (c == ("__debug__" : Str)) = false := by decide) (he : starEach (e :: es) X.env = (false, eval e X.env) :: starEach es X.env := by rfl) (hpl : (backTo pos (starEach es X.env)).any (·.1) = false := by rfl) :
    DS X E (.Raise (some (.Call (.Name c p) (e :: es) [] pos)) none pos') (sRaise c fns r) := by
  obtain ⟨B, newId, initId, bmB, fI, fd, FB, T, hno, iC, tI, F1, hb, hz, hm⟩ := G.ex
  refine PS.mono (L2N.ps_raise hc tk (pmk_err FB T hno iC tI F1 hr hb hz hg hm ha hdb he hpl)) fun D σ H h => ?_
  obtain ⟨m, Γ, Ω, s, h⟩ := h
  refine ⟨m, Γ, Ω, s, ?_⟩
  unfold sRaise at h
  cases e1 : r Γ Ω with
  | none => rw [e1] at h; exact h
  | some x =>
    obtain ⟨q, Ω'⟩ := x
    rw [e1] at h
    cases q with
    | ok ds =>
      dsimp only at h
      by_cases hl : ds.length = fns.length
      · rw [if_pos hl] at h
        intro m' vs H' g rl
        refine ⟨by rw [← rl.length, hl], fun d hd => ?_⟩
        have g2 := Go.new (K := X.K) g.ok (o := .xd (fns.zip vs).reverse) hd
        exact h m' σ _ _ _ (g.trans g2) ((s.go (g.trans g2)).slots) ⟨rfl, .inr ⟨d, _, rfl, upd_same, RlF.go g2.toGw g.ok _ _ (rlF_zip rl hl)⟩⟩
      · rw [if_neg hl] at h
        exact h.elim
    | ex e => exact fun m' H' cls dd g r => h m' σ H' cls dd g (s.go g).slots r
end
end Dn


set_option Elab.async false
set_option linter.all false
set_option maxRecDepth 100000
set_option maxHeartbeats 2000000
/-! DnTry: try: .. except C as n: .. -/
namespace Dn
open PySem L2
section
open PyProof.Rows
variable {prog : Program} {w : World} {A : Around} {E : Value → Shared → Prop} {s : Shared}
/-- a tuple's iterator at its end, while an error is handled -/
theorem next_endH {it t a : Addr} {i : Nat} {items : Array Value} {oa : Obj} {vs : Array Value} {Q : Option Value → Shared → Prop} (hh : A.handled = some (.ref a)) (ha : s.heap.get? a = some oa) (hda : oa.data = .fields vs) (h2 : vs[2]? = some .none) (hai : a ≠ it)
    (hit : IsTupIter s.heap it t i) (ht : IsTup s.heap t items) (hx : items[i]? = none)
    (hQ : ∀ h', Heap.ExtBut it s.heap h' → Q none { s with heap := h' }) : wpAny (model prog w) A (pyNext (.ref it)) Q E s := by
  have ty := hit.typeIs
  obtain ⟨o, ho, hc, hd⟩ := hit
  obtain ⟨ol, hol, _, nl, hdl⟩ := ht
  unfold pyNext
  have go := wpAny_call_entry (prog := prog) (w := w) (A := A) (s := s) slot_tupleiter_next ty entry_tupleiter_next (Q := fun _ _ => False)
    (E := fun u s' => ∃ e : Addr, u = .ref e ∧ s'.TypeIs (.ref e) "StopIteration" ∧ ∃ h', s' = { s with heap := h' } ∧ Heap.ExtBut it s.heap h') ?_ (args_tupleiter_next _)
  · refine wpAny_bind (wpAny_attempt (wpAny_callSpecial?_slot (name := Str.ofString "__next__") ty slot_tupleiter_next (wpAny_mono go (fun _ _ z => z.elim) fun u s' z => ?_)))
    obtain ⟨e, rfl, tyE, h', rfl, ext⟩ := z
    refine wpAny_bind (wpAny_isInstance (T := "StopIteration") (b := true) tyE isSubtype_stop ?_)
    exact wpAny_pure (hQ h' ext)
  · show wpAny _ _ (field (.ref it) 0 >>= _) _ _ s
    refine wpAny_bind (wpAny_field ho hd (x := .ref t) rfl ?_)
    show wpAny _ _ (if (Value.ref t == Value.none) = true then _ else _) _ _ s
    rw [if_neg (show ¬ ((Value.ref t == Value.none) = true) from fun z => Bool.noConfusion z)]
    show wpAny _ _ (field (.ref it) 1 >>= _) _ _ s
    refine wpAny_bind (wpAny_field ho hd (x := .int i 0) rfl (wpAny_bind (wpAny_seqItems hol hdl ?_)))
    simp only [Int.toNat_natCast, hx]
    refine wpAny_bind (wpAny_rule (wpAny_bind (wpAny_setField ho hd (by simp) (wpAny_bind ?_))))
    simp only [newExc, newTuple]
    refine wpAny_bind (wpAny_newObj_type ?_ (by size_fits))
    refine wpAny_bind (m := firstArgMember _ _) (wpAny_of_eq (a := Value.none) (by first | rfl | (simp only [firstArgMember]; rfl)) ?_)
    refine wpAny_newObj_type ?_ (by size_fits)
    obtain ⟨h3, e3⟩ : ∃ h3 : Heap, h3 = s.heap.update it (Obj.mapFields (·.setIfInBounds 0 Value.none)) := ⟨_, rfl⟩
    have x3 : Heap.ExtBut it s.heap h3 := by
      rw [e3]
      exact (Heap.SameBut.update ..).extBut
    have z3 : h3.objs.size = s.heap.objs.size := by
      rw [e3]
      exact (Heap.SameBut.update s.heap it _).1
    rw [← e3]
    have x5 := ((x3.push (seqObj "tuple" #[] 0)).push ({ cls := .type "StopIteration", data := .fields #[.ref h3.objs.size, .none, .none, .none, .bool false, .none] } : Obj))
    have at5 := Heap.get?_push_size (h3.push (seqObj "tuple" #[] 0)) (o := ({ cls := .type "StopIteration", data := .fields #[.ref h3.objs.size, .none, .none, .none, .bool false, .none] } : Obj)) rfl
    have la := Heap.lt_size ha
    have old : ∀ {b : Addr}, b < s.heap.objs.size → b < (h3.push (seqObj "tuple" #[] 0)).objs.size := fun {b} q => by
      rw [size_push', z3]
      exact Nat.lt_succ_of_lt q
    refine wpAny_raiseNew_in (a := a) hh (fun z => ?_) (x5 a oa hai ha) hda h2 at5 rfl (by simp) ⟨_, rfl, ⟨_, Heap.get?_update_self _ at5 rfl, rfl⟩, _, rfl, fun b o hb q => ?_⟩
    · exact Nat.ne_of_lt (old la) z
    · rw [Heap.get?_update_ne]
      · exact x5 b o hb q
      · exact Nat.ne_of_lt (old (Heap.lt_size q))
theorem unpackH {t a : Addr} {items : Array Value} {oa : Obj} {vs : Array Value} {Q : List Value → Shared → Prop} (hh : A.handled = some (.ref a)) (ha : s.heap.get? a = some oa) (hda : oa.data = .fields vs) (h2 : vs[2]? = some .none) (ht : IsTup s.heap t items)
    (hQ : ∀ h', Heap.ExtBut s.heap.objs.size s.heap h' → Q items.toList { s with heap := h' }) : wpAny (model prog w) A (unpackItems (.ref t) items.size none) Q E s := by
  have nt : t ≠ s.heap.objs.size := by
    obtain ⟨o, ho, _⟩ := ht
    exact Nat.ne_of_lt (Heap.lt_size ho)
  have na : a ≠ s.heap.objs.size := Nat.ne_of_lt (Heap.lt_size ha)
  unfold unpackItems notIterableAtAll
  refine wpAny_bind (wpAny_bind (wpAny_specialOf ht.typeIs slot_tuple_iter.lookup (wpAny_pure ?_)))
  rw [if_neg (by simp)]
  refine wpAny_bind (wpAny_holding (iter_tuple ht (wpAny_bind (wpAny_holding ?_))))
  refine draw_tuple nt items.size 0 _ _ ⟨_, Heap.get?_push_size _ rfl, rfl, rfl⟩ (ht.push _) (by omega) fun h1 hit sb => ?_
  have whole : List.take items.size (List.drop 0 items.toList) = items.toList := List.take_of_length_le (by simp)
  rw [whole, if_neg (by simp)]
  have ext := sb.extBut
  refine wpAny_bind (wpAny_holding (next_endH hh (ext _ _ na (Heap.get?_push_of_some _ ha)) hda h2 na hit ((ht.push _).extBut ext nt) (by simp) fun h2 ext2 => ?_))
  simp only [Option.isSome_none, Bool.false_eq_true, if_false]
  exact wpAny_pure (hQ h2 fun b o nb q => ext2 b o nb (ext b o nb (Heap.get?_push_of_some _ q)))
end
/-- x, y = a, b in an except suite -/
theorem ps_parH {Y : Cx} {e0 : Addr} {oe : Obj} {cls : Value} {d : Option Addr} {pn : List (Addr × Obj)} {i j : Nat} {x y : Str} {a b : Expr} {ta : TA} {px py pt pos : Pos} {kt k2 pt2} (hz : L2N.Zn cls d oe) (hf : ∃ vs, oe.data = .fields vs) (hN : Y.N.Nodup) (hi : Y.N[i]? = some x) (hj : Y.N[j]? = some y) (hij : i ≠ j)
    (hx : Y.env.scope.names.lookup x = some .local) (hy : Y.env.scope.names.lookup y = some .local) (ha : PA (Y.suite e0 ((e0, oe) :: pn)) [a, b] ta)
    (hw : swappedStores [.Tuple [.Name x px, .Name y py] kt pt] (.Tuple [a, b] k2 pt2) Y.env = pure (some [x, y]))
    (hs : swapsWithSole [.Tuple [.Name x px, .Name y py] kt pt] (.Tuple [a, b] k2 pt2) pos.line Y.env = pure false) :
    PS (Y.suite e0 ((e0, oe) :: pn)) (.Assign [.Tuple [.Name x px, .Name y py] kt pt] (.Tuple [a, b] k2 pt2) pos) (tPar i j ta) := ⟨fun pins s σ H D I h => by
  obtain ⟨vs, hv⟩ := hf
  rw [exec_Assign_arm]
  refine wpAny_bind (wpAny_standAt ?_)
  rw [show swapsWithSole [.Tuple [.Name x px, .Name y py] kt pt] (.Tuple [a, b] k2 pt2) pos.line (Y.suite e0 ((e0, oe) :: pn)).env = pure false from hs]
  refine wpAny_bind (wpAny_pure ?_)
  rw [if_neg Bool.false_ne_true]
  refine wpAny_bind (PyProof.Rows.Tuple_ (thn (ha.run _ pins s σ H _ I h) fun us s1 ⟨ws, H1, I1, r1, v, w, e1, q1⟩ => ?_))
  subst e1
  obtain ⟨u1, u2, rfl, rv, rw'⟩ := vals2 r1
  refine wpAny_newObj_type ?_ (by show 2 ≤ sizeLine; decide)
  have I2 := I1.kept (h' := s1.heap.push { cls := .type "tuple", data := .seq [u1, u2].toArray }) (t' := s1.toks) fun b o z => Heap.get?_push_of_some _ z
  obtain ⟨there, _⟩ := I2.pin (e0, oe) (List.mem_append_left _ List.mem_cons_self)
  rw [show swappedStores [.Tuple [.Name x px, .Name y py] kt pt] (.Tuple [a, b] k2 pt2) (Y.suite e0 ((e0, oe) :: pn)).env = pure (some [x, y]) from hw]
  refine wpAny_bind (wpAny_pure ?_)
  show wpAny (model Y.prog Y.w) (Y.suite e0 ((e0, oe) :: pn)).A (do
    rule "assign.swapped-stores"
    let items ← unpackItems (.ref s1.heap.objs.size) 2 none
    assignInOrder [fun v => bindName Y.env y v, fun v => bindName Y.env x v] items.reverse
    pure Flow.next) _ _ _
  refine wpAny_bind (wpAny_rule (wpAny_bind (unpackH (items := #[u1, u2]) (a := e0) rfl there hv (hz.2.2 vs hv) (PyProof.Rows.IsTup.new s1.heap _) fun h' hx' => ?_)))
  have I3 := I2.kept (h' := h') (t' := s1.toks) fun b o z => hx' b o (Nat.ne_of_lt (Heap.lt_size z)) z
  show wpAny _ _ (assignInOrder [fun v => bindName Y.env y v, fun v => bindName Y.env x v] [u2, u1] >>= fun _ => pure Flow.next) _ _ _
  refine wpAny_bind (PyProof.Rows.assignInOrder_cons (wpAny_bindName (store_ok (X := Y.suite e0 ((e0, oe) :: pn)) I3 hN hj (.inl hy) rw' (fun s2 I4 => ?_) (.inr hy))))
  refine PyProof.Rows.assignInOrder_cons (wpAny_bindName (store_ok (X := Y.suite e0 ((e0, oe) :: pn)) I4 hN hi (.inl hx) rv (fun s3 I5 => PyProof.Rows.assignInOrder_nil (wpAny_pure ?_)) (.inr hx)))
  rw [List.set_comm _ _ hij.symm] at I5
  exact ⟨_, H1, I5, q1⟩⟩
/-! ### the statement -/
theorem Slots.drop {K : PySem.W.Frag} {m : Mp} {Ω : Om} {H : Hp} {Γ : Gm} {σ : St} (s : Slots K m Ω H Γ σ) (i : Nat) (v : Option V) : Slots K m Ω H (Γ.set i none) (σ.set i v) := by
  refine ⟨by rw [List.length_set, List.length_set, s.1], fun j e h => ?_⟩
  by_cases hj : i = j
  · subst hj
    have hl : i < Γ.length := by
      have := (List.getElem?_eq_some_iff.mp h).1
      rwa [List.length_set] at this
    rw [List.getElem?_set_self hl] at h
    cases h
  · rw [List.getElem?_set_ne hj] at h ⊢
    exact s.2 j e h
/-- behind the suite the name is gone -/
def endX (i : Nat) : Option (Fl × Gm × Om) → Option (Fl × Gm × Om)
  | some (.nx, Γ, Ω) => some (.nx, Γ.set i none, Ω)
  | some (.bk, Γ, Ω) => some (.bk, Γ.set i none, Ω)
  | some (.ct, Γ, Ω) => some (.ct, Γ.set i none, Ω)
  | some (.rt d, Γ, Ω) => some (.rt d, Γ, Ω)
  | _ => none
def sTry (tab : List (Str × Bool)) (i : Nat) (b : DenS) (u : Xn → DenS) : DenS := fun Γ Ω => match b Γ Ω with
  | some (.ex x, Γ1, Ω1) => match tab.lookup x.cls with
    | none => none
    | some false => some (.ex x, Γ1, Ω1)
    | some true => if i < Γ1.length ∧ x.fs ≠ [] then endX i (u x (Γ1.set i none) Ω1) else none
  | r => r
/-- in a suite: the error x stands at a, slot i names it -/
def tSx (K : PySem.W.Frag) (i : Nat) (a : Addr) (cls : Value) (d : Option Addr) (u : Xn → DenS) : TS := fun D σ H => σ[i]? = some (some (.ref a)) ∧ ∃ (x : Xn) (m : Mp) (Γ : Gm) (Ω : Om) (gs : List (Str × V)) (dd : Addr),
  SR K m Γ Ω σ H ∧ cls = .ref (He.ga K x.cls) ∧ d = some dd ∧ H dd = some (.xd gs) ∧ RlF K m Ω H x.fs gs ∧ AfS K E0S D m Ω H (u x Γ Ω)
theorem mem_lookup {tab : List (Str × Bool)} {c : Str} {b : Bool} : tab.lookup c = some b → (c, b) ∈ tab := by
  induction tab with
  | nil => intro h; cases h
  | cons p tab ih =>
    intro h
    obtain ⟨k, v⟩ := p
    rw [List.lookup_cons] at h
    by_cases e : c = k
    · subst e
      rw [beq_self_eq_true] at h
      cases h
      exact List.mem_cons_self ..
    · rw [beq_eq_false_iff_ne.mpr e] at h
      exact List.mem_cons_of_mem _ (ih h)
section
variable {X : Cx} {E : St → XK} {c n : Str} {i : Nat} {body suite : List Stmt} {b₀ : Stmt} {np pos pos' : Pos} {b : DenS} {u : Xn → DenS} {tab : List (Str × Bool)}
theorem ds_try (hs : X.stack = X.env :: X.outer) (hf : X.env.frame = some X.env.locals) (hN : X.N.Nodup) (hi : X.N[i]? = some n) (hln : X.env.kindOf n = some .local) (hc : Names X c (.ref (cad X.K c))) (tk : L2N.Takes X (fun cls d σ H => E σ cls d H))
    (ht : ∀ p ∈ tab, PySem.W.exmOne X.K (.ref (He.ga X.K p.1)) (.ref (cad X.K c)) = some p.2)
    (hb : ∀ (W : WX) (pn : List (Addr × Obj)) (xe : Value → Shared → Prop), L2N.Takes (X.tr pn xe) W → PassesOwn (model X.prog X.w) X.A X.env xe → DSs (X.tr pn xe) (fun σ cls d H => W cls d σ H) body b)
    (hsu : ∀ (a : Addr) (oe : Obj) (cls : Value) (d : Option Addr) (pn : List (Addr × Obj)), L2N.Zn cls d oe → (∃ vs, oe.data = .fields vs) → PSs (X.suite a ((a, oe) :: pn)) (b₀ :: suite) (tSx X.K i a cls d u)) :
    DS X E (.Try body [.ExceptHandler (some (.Name c np)) (some n) (b₀ :: suite) pos'] [] [] pos) (sTry tab i b u) := by
  refine PS.mono (L2N.ps_try_as (i := i) (Wout := fun cls d σ H => E σ cls d H) (ts := fun a cls d => tSx X.K i a cls d u) (tb := fun W => tS X.K (fun σ cls d H => W cls d σ H) b) hs hf hN hi hln hc tk hb hsu) fun D σ H h => ?_
  obtain ⟨m, Γ, Ω, s, h⟩ := h
  refine ⟨m, Γ, Ω, s, ?_⟩
  unfold sTry at h
  cases e : b Γ Ω with
  | none => rw [e] at h; exact h
  | some z =>
    obtain ⟨fl, Γ1, Ω1⟩ := z
    rw [e] at h
    cases fl with
    | ex x =>
      intro m' σ' H' cls dd g sl xr
      dsimp only at h
      cases e1 : tab.lookup x.cls with
      | none => rw [e1] at h; exact h.elim
      | some bb =>
        have hx := ht _ (mem_lookup e1)
        rw [e1] at h
        have ec := xr.1
        cases bb with
        | false =>
          refine ⟨false, by rw [ec]; exact hx, fun z => Bool.noConfusion z, fun _ => ?_⟩
          exact h m' σ' H' cls dd g sl xr
        | true =>
          dsimp only at h
          by_cases hg : i < Γ1.length ∧ x.fs ≠ []
          · rw [if_pos hg] at h
            refine ⟨true, by rw [ec]; exact hx, fun _ a ha => ?_, fun z => Bool.noConfusion z⟩
            rcases xr.2 with ⟨z, _⟩ | ⟨d, gs, ed, hd, rf⟩
            · exact absurd z hg.2
            · refine ⟨List.getElem?_set_self (by rw [← sl.1]; exact hg.1), x, m', Γ1.set i none, Ω1, gs, d, ⟨g.ok, sl.drop i _⟩, ec, ed, hd, rf, ?_⟩
              cases e2 : u x (Γ1.set i none) Ω1 with
              | none => rw [e2] at h; exact h
              | some y =>
                obtain ⟨f2, Γ2, Ω2⟩ := y
                rw [e2] at h
                cases f2 with
                | nx => exact fun m2 σ2 H2 g2 sl2 => h m2 _ H2 (g.trans g2) (sl2.drop i none)
                | bk => exact fun m2 σ2 H2 g2 sl2 => h m2 _ H2 (g.trans g2) (sl2.drop i none)
                | ct => exact fun m2 σ2 H2 g2 sl2 => h m2 _ H2 (g.trans g2) (sl2.drop i none)
                | rt d => exact fun m2 v H2 g2 r => h m2 v H2 (g.trans g2) r
                | ex y => exact h.elim
          · rw [if_neg hg] at h
            exact h.elim
    | _ => exact h
end
/-! ### expressions in a suite -/
def tDx (K : PySem.W.Frag) (i : Nat) (a : Addr) (cls : Value) (d : Option Addr) (f : Xn → Den D) : TE := fun σ H Q => σ[i]? = some (some (.ref a)) ∧ ∃ (x : Xn) (m : Mp) (Γ : Gm) (Ω : Om) (gs : List (Str × V)) (dd : Addr),
  SR K m Γ Ω σ H ∧ cls = .ref (He.ga K x.cls) ∧ d = some dd ∧ H dd = some (.xd gs) ∧ RlF K m Ω H x.fs gs ∧ Af K (Rl K) (fun _ _ _ => False) Q m Ω H (f x Γ Ω)
def tDAx (K : PySem.W.Frag) (i : Nat) (a : Addr) (cls : Value) (d : Option Addr) (f : Xn → Den (List D)) : TA := fun σ H Q => σ[i]? = some (some (.ref a)) ∧ ∃ (x : Xn) (m : Mp) (Γ : Gm) (Ω : Om) (gs : List (Str × V)) (dd : Addr),
  SR K m Γ Ω σ H ∧ cls = .ref (He.ga K x.cls) ∧ d = some dd ∧ H dd = some (.xd gs) ∧ RlF K m Ω H x.fs gs ∧ Af K (RlL K) (fun _ _ _ => False) Q m Ω H (f x Γ Ω)
theorem xd_go {K : PySem.W.Frag} {m m' : Mp} {Ω Ω' : Om} {H H' : Hp} {dd : Addr} {gs : List (Str × V)} (c : CellsOk K m Ω H) (h : H dd = some (.xd gs)) (g : Go K m Ω H m' Ω' H') : H' dd = some (.xd gs) := by
  refine g.frame _ _ h fun l => ?_
  rcases c.live l with ⟨_, z⟩ | ⟨_, z⟩ | ⟨_, _, _, z⟩ <;> rw [h] at z <;> cases z
/-- e.f of the caught error -/
def fXf (c f : Str) (x : Xn) : Den D := fun _ Ω => if x.cls = c then match x.fs.lookup f with
  | some d => some (.ok d, Ω)
  | none => none
  else none
section
variable {X : Cx} {i : Nat} {a : Addr} {cls : Value} {d : Option Addr} {e e2 : Expr} {es : List Expr} {f g : Xn → Den D} {r : Xn → Den (List D)} {pos : Pos}
theorem dex_of {g : Den D} (h : DE X E0S e g) : PE X e (tDx X.K i a cls d fun _ => g) := PE.mono h fun σ H Q ⟨_, _, m, Γ, Ω, _, _, s, _, _, _, _, af⟩ => ⟨m, Γ, Ω, s, af⟩
theorem dex_cmp {op : CmpOp} {o : Op2} {r : R2} (hr : OpR X (compareOp op) r) (hd : OpD X.K o r) (ha : PE X e (tDx X.K i a cls d f)) (hb : PE X e2 (tDx X.K i a cls d g)) (hm : behindInMarks op e2 = false) :
    PE X (.Compare e [op] [e2] pos) (tDx X.K i a cls d fun x => fBin o (f x) (g x)) := PE.mono (pe_cmpR hr ha hb hm) fun σ H Q ⟨h0, x, m, Γ, Ω, gs, dd, s, h1, h2, h3, h4, af⟩ => by
  refine ⟨h0, x, m, Γ, Ω, gs, dd, s, h1, h2, h3, h4, (Af.bind (R := Rl X.K) af).imp fun _ _ _ _ _ _ _ _ ⟨m1, Ω1, y, g1, r1, q⟩ => ?_⟩
  refine ⟨h0, x, m1, Γ, Ω1, gs, dd, s.go g1, h1, h2, xd_go s.cells h3 g1, RlF.go g1.toGw s.cells _ _ h4, (Af.bind (R := Rl X.K) q).imp fun _ _ _ _ _ _ _ _ ⟨m2, Ω2, y2, g2, r2, q2⟩ => ?_⟩
  exact hd (fun _ _ _ => False) m2 Ω2 _ y y2 _ _ Q g2.ok (Rl.go g2.toGw g1.ok y _ r1) r2 q2
theorem dax_nil : PA X [] (tDAx X.K i a cls d fun _ => fNil) := PA.mono (da_nil (E := E0S)) fun σ H Q ⟨_, _, m, Γ, Ω, _, _, s, _, _, _, _, af⟩ => ⟨m, Γ, Ω, s, af⟩
theorem dex_fld {Y : Cx} {oe : Obj} {pn : List (Addr × Obj)} {c n fl : Str} {p : Pos} (T : XfC Y.K (cad Y.K c)) (hno : PySem.W.findIn Y.K (.ref (cad Y.K c)) fl = some none) (hz : L2N.Zn cls d oe) (hf : ∃ vs, oe.data = .fields vs) (hN : Y.N[i]? = some n) (hv : Vis Y.env.scope n)
    (h1 : (n == ("__debug__" : Str)) = false) (h2 : (n == ("__classdict__" : Str)) = false) (hb : attributeBase (.Name n p) fl Y.env (eval (.Name n p) Y.env) = eval (.Name n p) Y.env) :
    PE (Y.suite a ((a, oe) :: pn)) (.Attribute (.Name n p) fl pos) (tDx Y.K i a cls d fun x => fXf c fl x) :=
  PE.mono (pe_xf T hno hz.zc hf (pe_var (X := Y.suite a ((a, oe) :: pn)) (i := i) hN hv h1 h2) hb) fun σ H Q ⟨h0, x, m, Γ, Ω, gs, dd, s, e1, e2, e3, e4, af⟩ => by
    refine ⟨_, h0, rfl, ?_⟩
    unfold fXf at af
    dsimp only at af
    by_cases hc : x.cls = c
    · rw [if_pos hc] at af
      rcases e4.lookup (f := fl) with ⟨dv, v, z1, z2, z3⟩ | ⟨z1, z2⟩
      · rw [z1] at af
        exact ⟨by rw [e1, hc], dd, gs, v, e2, e3, z2, af m v H (Go.refl s.cells) z3⟩
      · rw [z1] at af
        exact af.elim
    · rw [if_neg hc] at af
      exact af.elim
theorem dax_cons (ha : PE X e (tDx X.K i a cls d f)) (hb : PA X es (tDAx X.K i a cls d r)) (hs : starEach (e :: es) X.env = (false, eval e X.env) :: starEach es X.env := by rfl) : PA X (e :: es) (tDAx X.K i a cls d fun x => fCons (f x) (r x)) :=
  PA.mono (pa_cons ha hb hs) fun σ H Q ⟨h0, x, m, Γ, Ω, gs, dd, s, h1, h2, h3, h4, af⟩ => by
    refine ⟨h0, x, m, Γ, Ω, gs, dd, s, h1, h2, h3, h4, (Af.bind (R := Rl X.K) af).imp fun _ _ _ _ _ _ _ _ ⟨m1, Ω1, y, g1, r1, q⟩ => ?_⟩
    refine ⟨h0, x, m1, Γ, Ω1, gs, dd, s.go g1, h1, h2, xd_go s.cells h3 g1, RlF.go g1.toGw s.cells _ _ h4, (Af.bind (R := RlL X.K) q).imp fun _ _ _ _ _ _ _ _ ⟨m2, Ω2, ys, g2, r2, q2⟩ => ?_⟩
    refine q2 m2 _ _ (Go.refl g2.ok) ?_
    unfold RlL
    exact ⟨_, _, rfl, Rl.go g2.toGw g1.ok y _ r1, r2⟩
/-- x, y = e1, e2: the whole suite -/
theorem dsx_par2 {Y : Cx} {oe : Obj} {pn : List (Addr × Obj)} {j k : Nat} {x y : Str} {px py pt : Pos} {kt k2 pt2} (hz : L2N.Zn cls d oe) (hf : ∃ vs, oe.data = .fields vs) (hN : Y.N.Nodup) (hj : Y.N[j]? = some x) (hk : Y.N[k]? = some y) (hjk : j ≠ k)
    (hx : Y.env.scope.names.lookup x = some .local) (hy : Y.env.scope.names.lookup y = some .local) (ha : PA (Y.suite a ((a, oe) :: pn)) [e, e2] (tDAx Y.K i a cls d r))
    (hw : swappedStores [.Tuple [.Name x px, .Name y py] kt pt] (.Tuple [e, e2] k2 pt2) Y.env = pure (some [x, y]))
    (hs : swapsWithSole [.Tuple [.Name x px, .Name y py] kt pt] (.Tuple [e, e2] k2 pt2) pos.line Y.env = pure false) :
    PSs (Y.suite a ((a, oe) :: pn)) [.Assign [.Tuple [.Name x px, .Name y py] kt pt] (.Tuple [e, e2] k2 pt2) pos] (tSx Y.K i a cls d fun x => sPar [j, k] (r x)) := by
  refine PSs.mono (pss_one (ps_parH hz hf hN hj hk hjk hx hy ha hw hs)) fun D σ H ⟨h0, x, m, Γ, Ω, gs, dd, s, h1, h2, h3, h4, af⟩ => ?_
  refine ⟨h0, x, m, Γ, Ω, gs, dd, s, h1, h2, h3, h4, ?_⟩
  unfold sPar at af
  dsimp only at af
  cases e : r x Γ Ω with
  | none => rw [e] at af; exact af
  | some z =>
    obtain ⟨q, Ω'⟩ := z
    rw [e] at af
    cases q with
    | ex e => exact fun m' H' cls dd g2 r => af m' σ H' cls dd g2 (s.go g2).slots r
    | ok ds =>
      intro m' vs H' g2 rr
      match ds, af, rr with
      | [d1, d2], af, rr =>
        unfold RlL at rr
        obtain ⟨v1, w1, e1, r1, q1⟩ := rr
        unfold RlL at q1
        obtain ⟨v2, w2, e2, r2, q2⟩ := q1
        unfold RlL at q2
        subst e1 e2 q2
        exact ⟨v1, v2, rfl, af m' _ H' g2 (((s.go g2).slots.set r1).set r2)⟩
      | [], af, rr => exact af.elim
      | [_], af, rr => exact af.elim
      | _ :: _ :: _ :: _, af, rr => exact af.elim
end
end Dn


set_option Elab.async false
set_option linter.all false
set_option maxRecDepth 100000
set_option maxHeartbeats 2000000
/-! DnErrH: what the head must know of errors; sorted(d) of any size. -/
namespace Dn
open PySem PySem.Spec PyProof.Rows L2
def erClsB (K : PySem.W.Frag) (C : Addr) (bmB : List Value) (newId : String) : Bool := match K.lookup C with
  | some ⟨.type "type", _, .cls cd, sl⟩ => (match cd.mro, sl.toList with
    | .ref D :: bm, [_, _, _, _, some (.builtin n), _] => decide (D = C) && (decide (n = newId) && (!cd.hasDel && (cd.hasDict && overB bmB bm)))
    | _, _ => false)
  | _ => false
theorem erCls_ok {K : PySem.W.Frag} {C : Addr} {bmB : List Value} {newId : String} (q : erClsB K C bmB newId = true) :
    ∃ nm q N bs bm sn sub ab col dd k0 k1 k2 k3 k5, K.lookup C = some (excClassObj nm q C N bs bm true sn sub ab col dd k0 k1 k2 k3 k5 newId) ∧ overB bmB (.ref C :: bm) = true ∧ overB bmB bm = true := by
  unfold erClsB at q
  split at q
  · rename_i dd cd sl ho
    split at q
    · rename_i D bm k0 k1 k2 k3 n k5 hm hs
      obtain ⟨q1, q⟩ := He.ba q
      obtain ⟨q2, q⟩ := He.ba q
      obtain ⟨q3, q⟩ := He.ba q
      obtain ⟨q4, q5⟩ := He.ba q
      have e1 := of_decide_eq_true q1
      have e2 := of_decide_eq_true q2
      subst e1 e2
      cases cd with
      | mk nm bs mro ns qn hd sn sub ab col del =>
        dsimp only at hm q3 q4
        have e3 : del = false := by simpa using q3
        subst hm q4 e3
        have e4 : sl = #[k0, k1, k2, k3, some (.builtin n), k5] := by
          cases sl with
          | mk l => exact congrArg Array.mk hs
        subst e4
        refine ⟨nm, qn, ns, bs, bm, sn, sub, ab, col, dd, k0, k1, k2, k3, k5, ho, ?_, q5⟩
        unfold overB
        rw [q5, Bool.true_or]
    · cases q
  · cases q
/-- the built-in ones -/
inductive Base2 where
  | value | arith | lookup_ | runtime
def veT : List Value := [.type "ValueError", .type "Exception", .type "BaseException", .type "object"]
def aeT : List Value := [.type "ArithmeticError", .type "Exception", .type "BaseException", .type "object"]
def erB (c : Str) (fns : List Str) (bmB : List Value) (newId : String) (K : PySem.W.Frag) : Bool := erClsB K (cad K c) bmB newId && (He.eqO (PySem.W.findIn K (.ref (cad K c)) "__setattr__") (some (some (.builtin "object.__setattr__"))) && (decide (PySem.W.subIn K (.ref (cad K c)) (.type "BaseException") = some true) &&
  (decide (PySem.W.typeIn K (.ref (cad K c)) = some (.type "type")) && (PySem.W.keepIn K (.ref (cad K c)) && ((fns.all fun f => He.eqO (PySem.W.findIn K (.ref (cad K c)) f) (some none)) &&
  (decide (PySem.W.typeIn K (.ref (He.ma K (cad K c) "__init__")) = some (.type "function")) && He.eqO (PySem.W.findIn K (.ref (cad K c)) "__init__") (some (some (.ref (He.ma K (cad K c) "__init__"))))))))))
structure ErF (K : PySem.W.Frag) (c : Str) (fns : List Str) (bmB : List Value) (newId : String) : Prop where
  er : (∀ l, overB bmB l = true → MroOk l) → ErC K (cad K c) bmB newId
  no : ∀ f ∈ fns, PySem.W.findIn K (.ref (cad K c)) f = some none
  ty : PySem.W.typeIn K (.ref (He.ma K (cad K c) "__init__")) = some (.type "function")
  ini : PySem.W.findIn K (.ref (cad K c)) "__init__" = some (some (.ref (He.ma K (cad K c) "__init__")))
theorem erB_ok {c : Str} {fns : List Str} {bmB : List Value} {newId : String} {K : PySem.W.Frag} (h : erB c fns bmB newId K = true) : ErF K c fns bmB newId := by
  unfold erB at h
  obtain ⟨h1, h⟩ := He.ba h
  obtain ⟨h2, h⟩ := He.ba h
  obtain ⟨h3, h⟩ := He.ba h
  obtain ⟨h4, h⟩ := He.ba h
  obtain ⟨h5, h⟩ := He.ba h
  obtain ⟨h6, h⟩ := He.ba h
  obtain ⟨h7, h8⟩ := He.ba h
  exact ⟨fun m => ⟨erCls_ok h1, m, He.eqO_ok h2, of_decide_eq_true h3, of_decide_eq_true h4, h5⟩, fun f hf => He.eqO_ok (List.all_eq_true.mp h6 f hf), of_decide_eq_true h7, He.eqO_ok h8⟩
theorem ve_mok : ∀ l, overB veT l = true → MroOk l := fun l h => over_ok F.store_ValueError (by decide +kernel) h
theorem ae_mok : ∀ l, overB aeT l = true → MroOk l := fun l h => over_ok F.store_ArithmeticError (by decide +kernel) h
/-! ### sorted(d), any size -/
section
variable {X : Cx}
theorem call_sortBig (hcalm : X.calm = true) : CallR X (.builtin "sorted") (fun xs H Q => ∃ (a : Addr) (kvs : List (Key × V)) (ks : List Int), xs = [.ref a] ∧ Rd H a (.dK kvs) ∧ kvs.map (·.1) = ks.map Sum.inl ∧ ks.length ≤ 100000 ∧
    ∀ (ys : List Int) (p : Addr), ys.Perm ks → ys.Pairwise (· ≤ ·) → H p = none → Q (.ref p) (upd H p (.lst (ys.map V.int)))) := by
  intro pins s σ H xs us Q I r q
  obtain ⟨a, kvs, ks, ex, hd, hks, hsz, q⟩ := q
  subst ex
  obtain ⟨u, eu, rx⟩ := vals1 r
  subst eu
  cases rx
  obtain ⟨z, lo, vs, rel, dd⟩ := dk_rd I.hok hd
  obtain ⟨ep, hat⟩ := dd.dictAt
  have hkeys : vs.map (·.1) = ks.map Sum.inl := rel.keys.symm.trans hks
  have hl : vs.length = ks.length := by simpa using congrArg List.length hkeys
  have fits : vs.length ≤ sizeLine := by
    rw [hl, sizeLine_eq]
    omega
  refine Calls.call_function_entry PyProof.Rows.kind_sorted PyProof.Rows.plain_sorted
    PyProof.Rows.entry_sorted (PyProof.Rows.args_sorted1 _) ?_
  unfold Builtin.«sorted»
  refine wpAny_bind (m := checkCount "sorted" 1 1 _) (wpAny_pure (wpAny_bind
    (PySem.W.kdu_collect (A := X.A.in1) (PySem.W.kdl_dict (knd := mixKind X.prog X.w) (kvs := vs) (ep := ep) lo) (I.ok.hd hcalm) hat fits fun h' tk acc hk hacc => ?_)))
  have hal : acc.toList.length = ks.length := by rw [Array.length_toList, hacc.1, hl]
  have hS : IntsAre acc.toList ks := ints_each hal fun j v e => by
    obtain ⟨k, x, e1, e2⟩ := hacc.2 j v (by rw [← Array.getElem?_toList]; exact e)
    have e3 : (vs.map (·.1))[j]? = some k := by
      rw [List.getElem?_map, e1]
      rfl
    rw [hkeys, List.getElem?_map] at e3
    obtain ⟨y, e4, e5⟩ := Option.map_eq_some_iff.mp e3
    subst e5
    rcases keyIs_shape (show keyIs (Sum.inl y) v = true from e2) with ⟨i, t, ek, ev⟩ | ⟨z, t, ek, ev⟩
    · cases ek
      exact ⟨y, t, e4, ev⟩
    · cases ek
  have I1 : Inv X pins σ H { s with heap := h', toks := tk } := I.kept hk
  refine wpAny_bind (wpAny_newList ?_ (by rw [hal, sizeLine_eq]; omega))
  have hoL : (h'.push (seqObj "list" acc.toList.toArray 0)).get? h'.objs.size = some (seqObj "list" acc.toList.toArray 0) := Heap.get?_push_size _ rfl
  show wpAny _ _ _ _ _ { s with heap := h'.push (seqObj "list" acc.toList.toArray 0), toks := tk }
  refine wpAny_bind (wpAny_holding (wpAny_call_entry PyProof.Rows.slot_list_sort ⟨_, hoL, rfl⟩ PyProof.Rows.entry_list_sort
    (SrtO.list_sort_ord (s := { s with heap := h'.push (seqObj "list" acc.toList.toArray 0), toks := tk }) SrtO.swo_int hoL (by rw [hal, sizeLine_eq]; omega)
      (fun h2 => SrtO.ints_sortable hS h2) fun out g1 g2 => ⟨_, rfl, ?_⟩) (PyProof.Rows.args_list_sort _)))
  obtain ⟨k1, k2, k3⟩ := SrtO.ints_out hS g1 g2
  obtain ⟨e', he'⟩ := PyProof.Rows.sortedHeap_at (vs := acc.toList) (out := out.toArray) hoL
  have hlen : ((out.map SrtO.iv).map V.int).length ≤ sizeLine := by
    rw [List.length_map, k2.length_eq, sizeLine_eq]
    omega
  refine wpAny_pure ⟨_, rfl, .ref h'.objs.size, upd H h'.objs.size (.lst ((out.map SrtO.iv).map V.int)), I1.laid (t' := tk) (fun b u e => ?_) (Nat.le_refl _)
    (show ObjOk X.prog X.w _ _ _ (.lst ((out.map SrtO.iv).map V.int)) from ⟨hlen, out, e', vals_of_ints k1, he'⟩), rfl, q _ _ k2 k3 (I1.hok.fresh (Nat.le_refl _))⟩
  have hb : b < h'.objs.size := Heap.lt_size e
  rw [PyProof.Rows.sortedHeap_old (Nat.ne_of_lt hb) (by rw [size_push']; exact Nat.lt_succ_of_lt hb)]
  exact Heap.get?_push_of_some _ e
def dSortB : OpA := op1 fun d Ω => match asK Ω d with
  | some kvs => match intKeys kvs with
    | some ns => if ns.length ≤ 100000 then some (.ok (.lst ((sortI ns).map D.int)), Ω) else none
    | none => none
  | none => none
theorem cd_sortB {K : PySem.W.Frag} : CallD K dSortB (fun xs H Q => ∃ (a : Addr) (kvs : List (Key × V)) (ks : List Int), xs = [.ref a] ∧ Rd H a (.dK kvs) ∧ kvs.map (·.1) = ks.map Sum.inl ∧ ks.length ≤ 100000 ∧
    ∀ (ys : List Int) (p : Addr), ys.Perm ks → ys.Pairwise (· ≤ ·) → H p = none → Q (.ref p) (upd H p (.lst (ys.map V.int)))) := by
  intro E m Ω H ds vs Q c r q
  obtain ⟨d, v, ed, ev, h, q1⟩ := op1_of r q
  clear q
  subst ed ev
  cases e1 : asK Ω d with
  | none => rw [e1] at q1; exact q1.elim
  | some kvs =>
    rw [e1] at q1
    obtain ⟨a, ws, ea, h1, h2⟩ := asK_ok c h e1
    subst ea
    dsimp only at q1
    cases e2 : intKeys kvs with
    | none => rw [e2] at q1; exact q1.elim
    | some ns =>
      rw [e2] at q1
      obtain ⟨hz, q1⟩ := Af.guard q1
      refine ⟨a, ws, ns, rfl, h1, by rw [← h2.keys]; exact intKeys_ok e2, hz, fun ys p hp hs hn => ?_⟩
      rw [sorted_unique (hp.trans (sortI_perm ns).symm) hs (sortI_le ns)]
      exact q1 m _ _ (Go.new c hn) (Rl.newL c hn (rlL_ints _))
end
end Dn


set_option Elab.async false
set_option linter.all false
set_option maxRecDepth 100000
/-! DnHead2: the Hook with defs inside properties and class methods. -/
namespace Dn
open PySem L2
abbrev AlC : Type := AlB × He.AlD
def obsC (n : Nat) (fa : List He.Fa) (fn : List He.DefD) (fw : List He5.DefA) (ex : PySem.W.Frag → Bool) (g : Addr → Option Obj) : AlC := (obsB n fa fn ex g, He5.obsA [] fw (He.frG g (asS g n)))
structure SaysC (fa : List He.Fa) (fn : List He.DefD) (fw : List He5.DefA) (ex : PySem.W.Frag → Bool) (K : PySem.W.Frag) : Prop extends SaysB fa fn ex K where
  w : He5.SaysA [] fw K
def hookC (n : Nat) (fa : List He.Fa) (fn : List He.DefD) (fw : List He5.DefA) (ex : PySem.W.Frag → Bool) : PySem.W.Hook where
  α := AlC
  obs := fun s => obsC n fa fn fw ex s.heap.get?
  val := fun _ => ((He.valD fn, true), He5.valA fw)
  says := fun _ h => ∃ K : PySem.W.Frag, K.In h ∧ SaysC fa fn fw ex K
  of := fun _ _ e => ⟨_, He.frG_in, ⟨⟨congrArg (fun z : AlC => z.1.1) e, congrArg (fun z : AlC => z.1.2) e⟩, congrArg (fun z : AlC => z.2) e⟩⟩
  keeps := fun _ _ _ ⟨K, hK, c⟩ k => ⟨K, PySem.W.Frag.In.keeps hK k, c⟩
theorem obsC_eq {n : Nat} {fa : List He.Fa} {fn : List He.DefD} {fw : List He5.DefA} {ex : PySem.W.Frag → Bool} {g : Addr → Option Obj} {s : Shared} (h : ∀ a, g a = s.heap.get? a) : obsC n fa fn fw ex g = (hookC n fa fn fw ex).obs s := by
  have e : g = s.heap.get? := funext h
  rw [e] <;> rfl
theorem de_lenO {X : Cx} {E : St → XK} {e : Expr} {r : Den (List D)} {pos p : Pos} {c : Str} {ps : List Str} {k n : Nat} {F : FD} (G : OwnG X.prog X.w X.K X.mg X.base c "__len__" ps k F) (hr : RoomG (k + 1) X.A) (hg : X.mg "len" = none) (ha : DA X E [e] r) (hn : ps.length = n := by rfl) (hl : Gl X "len" := by rfl)
    (he : starEach [e] X.env = (false, eval e X.env) :: starEach [] X.env := by rfl) (hpl : (backTo pos (starEach [] X.env)).any (·.1) = false := by rfl) : DE X E (.Call (.Name "len" p) [e] [] pos) (fCB (dLenO c n F) r) := by
  subst hn
  exact de_callB (call_lenO G hr) (cd_lenO (X := X)) hg bt_len ha (hg := hl) (he := he) (hpl := hpl)
/-! ### properties -/
def propB (c m : Str) (K : PySem.W.Frag) : Bool := He.eqO (PySem.W.findIn K (.ref (cad K c)) m) (some (some (.ref (He.ma K (cad K c) m)))) && (He.eqO (PySem.W.specialIn K (.ref (He.ma K (cad K c) m)) "__get__") (some (some (.builtin "property.__get__"))) &&
  (decide (PySem.W.takesIn K (.ref (He.ma K (cad K c) m)) = some true) && (match PySem.W.recIn K (He.ma K (cad K c) m) "property" with
    | some (.ref _ :: _) => true
    | _ => false)))
theorem propB_ok {c m : Str} {K : PySem.W.Frag} (h : propB c m K = true) : PropOf K (cad K c) m (He.ma K (cad K c) m) (He5.wf K (cad K c) "property" m) := by
  unfold propB at h
  obtain ⟨h1, h⟩ := He.ba h
  obtain ⟨h2, h⟩ := He.ba h
  obtain ⟨h3, h4⟩ := He.ba h
  refine ⟨He.eqO_ok h1, He.eqO_ok h2, of_decide_eq_true h3, ?_⟩
  unfold He5.wf
  split at h4
  · rename_i f r e
    exact ⟨r, by rw [e]⟩
  · cases h4
/-! ### what a handler must know -/
def xfOkB (c : Str) (K : PySem.W.Frag) : Bool := xfB K (cad K c)
theorem xfOk {c : Str} {K : PySem.W.Frag} (h : xfOkB c K = true) : XfC K (cad K c) := xfB_ok h
def exmB (c d : Str) (b : Bool) (K : PySem.W.Frag) : Bool := decide (PySem.W.exmOne K (.ref (He.ga K c)) (.ref (cad K d)) = some b)
theorem exmB_ok {c d : Str} {b : Bool} {K : PySem.W.Frag} (h : exmB c d b K = true) : PySem.W.exmOne K (.ref (He.ga K c)) (.ref (cad K d)) = some b := of_decide_eq_true h
end Dn


set_option Elab.async false
set_option linter.all false
set_option maxRecDepth 100000
/-! DnVal: what denotations come to. -/
namespace Dn
open PySem L2
/-! ### no cell is named -/
mutual
theorem below_up {k : Nat} : ∀ d : D, below 0 d = true → below k d = true
  | .tup xs, h => by unfold below at h ⊢; exact belowL_up xs h
  | .lst xs, h => by unfold below at h ⊢; exact belowL_up xs h
  | .dct xs, h => by unfold below at h ⊢; exact belowK_up xs h
  | .obj _ xs, h => by unfold below at h ⊢; exact belowF_up xs h
  | .ref n, h => by unfold below at h; exact absurd (of_decide_eq_true h) (Nat.not_lt_zero n)
  | .non, _ => rfl
  | .bl _, _ => rfl
  | .int _, _ => rfl
  | .str _, _ => rfl
  | .scr _, _ => rfl
  | .cl _, _ => rfl
theorem belowL_up {k : Nat} : ∀ d : List D, belowL 0 d = true → belowL k d = true
  | [], _ => rfl
  | d :: ds, h => by
    unfold belowL at h ⊢
    rw [Bool.and_eq_true] at h ⊢
    exact ⟨below_up d h.1, belowL_up ds h.2⟩
theorem belowK_up {k : Nat} : ∀ d : List (Key × D), belowK 0 d = true → belowK k d = true
  | [], _ => rfl
  | (_, d) :: ds, h => by
    unfold belowK at h ⊢
    rw [Bool.and_eq_true] at h ⊢
    exact ⟨below_up d h.1, belowK_up ds h.2⟩
theorem belowF_up {k : Nat} : ∀ d : List (Str × D), belowF 0 d = true → belowF k d = true
  | [], _ => rfl
  | (_, d) :: ds, h => by
    unfold belowF at h ⊢
    rw [Bool.and_eq_true] at h ⊢
    exact ⟨below_up d h.1, belowF_up ds h.2⟩
end
theorem belowL_all {k : Nat} : ∀ {ds : List D}, (∀ d ∈ ds, below k d = true) → belowL k ds = true
  | [], _ => rfl
  | d :: ds, h => by
    unfold belowL
    rw [Bool.and_eq_true]
    exact ⟨h d (by simp), belowL_all fun e he => h e (by simp [he])⟩
theorem belowL_map {α : Type} {k : Nat} {e : α → D} (h : ∀ a, below k (e a) = true) (xs : List α) : belowL k (xs.map e) = true := belowL_all fun d hd => by
  obtain ⟨a, _, rfl⟩ := List.mem_map.mp hd
  exact h a
theorem belowL_mem {k : Nat} : ∀ {ds : List D} {d : D}, belowL k ds = true → d ∈ ds → below k d = true
  | e :: ds, d, h, m => by
    unfold belowL at h
    rw [Bool.and_eq_true] at h
    rcases List.mem_cons.mp m with rfl | m
    · exact h.1
    · exact belowL_mem h.2 m
theorem cellBelow_up {k : Nat} {c : Cell} (h : cellBelow 0 c = true) : cellBelow k c = true := by
  cases c with
  | lst xs => exact belowL_up xs h
  | dct xs => exact belowK_up xs h
  | ins c xs => exact belowF_up xs h
  | dead => rfl
def PureΩ (Ω : Om) : Prop := ∀ c ∈ Ω, cellBelow 0 c = true
theorem PureΩ.below {Ω : Om} (h : PureΩ Ω) (k : Nat) : (Ω.all (cellBelow k)) = true := List.all_eq_true.mpr fun c hc => cellBelow_up (h c hc)
theorem PureΩ.add {Ω : Om} (h : PureΩ Ω) {c : Cell} (hc : cellBelow 0 c = true) : PureΩ (Ω ++ [c]) := fun x hx => by
  rcases List.mem_append.mp hx with hx | hx
  · exact h x hx
  · rw [List.mem_singleton.mp hx]; exact hc
theorem PureΩ.set {Ω : Om} (h : PureΩ Ω) {n : Nat} {c : Cell} (hc : cellBelow 0 c = true) : PureΩ (Ω.set n c) := fun x hx => by
  rcases List.mem_or_eq_of_mem_set hx with hx | rfl
  · exact h x hx
  · exact hc
theorem frz_pure {k : Nat} {Ω : Om} {d : D} (h : below 0 d = true) : frz k Ω d = d := by
  cases d with
  | ref n => unfold below at h; exact absurd (of_decide_eq_true h) (Nat.not_lt_zero n)
  | _ => rfl
/-- a pure answer -/
theorem clean_val {F : FD} {ds : List D} {Ω Ω1 W : Om} {d : D} (h : F ds Ω = some (.ok d, Ω1 ++ W)) (hl : Ω1.length = Ω.length) (hp : PureΩ Ω1) (hd : below 0 d = true) : clean F ds Ω = some (.ok d, Ω1) := by
  unfold clean
  rw [h]
  dsimp only
  rw [frz_pure hd, ← hl, List.take_left]
  have e : cellsBelow Ω1.length (Ω1 ++ W) = true := by
    unfold cellsBelow
    rw [List.take_left]
    exact hp.below _
  rw [if_pos ⟨below_up d hd, e⟩]
theorem clean_val0 {F : FD} {ds : List D} {Ω Ω1 : Om} {d : D} (h : F ds Ω = some (.ok d, Ω1)) (hl : Ω1.length = Ω.length) (hp : PureΩ Ω1) (hd : below 0 d = true) : clean F ds Ω = some (.ok d, Ω1) := clean_val (W := []) (by rw [h, List.append_nil]) hl hp hd
/-- the answer is a list of its own -/
theorem clean_lst {F : FD} {ds : List D} {Ω Ω1 W : Om} {n : Nat} {xs : List D} (h : F ds Ω = some (.ok (.ref n), Ω1 ++ W)) (hl : Ω1.length = Ω.length) (hn : Ω.length ≤ n) (he : (Ω1 ++ W)[n]? = some (.lst xs)) (hp : PureΩ Ω1) (hd : belowL 0 xs = true) : clean F ds Ω = some (.ok (.lst xs), Ω1) := by
  unfold clean
  rw [h]
  have ef : frz Ω.length (Ω1 ++ W) (.ref n) = .lst xs := by
    unfold frz
    dsimp only
    rw [if_neg (by omega), he]
  dsimp only
  rw [ef, ← hl, List.take_left]
  have e : cellsBelow Ω1.length (Ω1 ++ W) = true := by
    unfold cellsBelow
    rw [List.take_left]
    exact hp.below _
  rw [if_pos ⟨by unfold below; exact belowL_up xs hd, e⟩]
theorem clean_dct {F : FD} {ds : List D} {Ω Ω1 W : Om} {n : Nat} {xs : List (Key × D)} (h : F ds Ω = some (.ok (.ref n), Ω1 ++ W)) (hl : Ω1.length = Ω.length) (hn : Ω.length ≤ n) (he : (Ω1 ++ W)[n]? = some (.dct xs)) (hp : PureΩ Ω1) (hd : belowK 0 xs = true) : clean F ds Ω = some (.ok (.dct xs), Ω1) := by
  unfold clean
  rw [h]
  have ef : frz Ω.length (Ω1 ++ W) (.ref n) = .dct xs := by
    unfold frz
    dsimp only
    rw [if_neg (by omega), he]
  dsimp only
  rw [ef, ← hl, List.take_left]
  have e : cellsBelow Ω1.length (Ω1 ++ W) = true := by
    unfold cellsBelow
    rw [List.take_left]
    exact hp.below _
  rw [if_pos ⟨by unfold below; exact belowK_up xs hd, e⟩]
/-- C(..) -/
theorem mk_val {c : Str} {n : Nat} {F : FD} {ds : List D} {Ω Ω1 W : Om} {fs : List (Str × D)} (h : F (.ref Ω.length :: ds) (Ω ++ [.ins c []]) = some (.ok .non, Ω1 ++ .ins c fs :: W)) (hn : ds.length + 1 = n) (hl : Ω1.length = Ω.length) (hp : PureΩ Ω1) (hf : belowF 0 fs = true) : mkD c n F ds Ω = some (.ok (.obj c fs), Ω1) := by
  unfold mkD
  rw [if_pos hn, h]
  have ef : frz Ω.length (Ω1 ++ .ins c fs :: W) (.ref Ω.length) = .obj c fs := by
    unfold frz
    dsimp only
    rw [if_neg (by omega), ← hl]
    simp
  dsimp only
  rw [ef, ← hl, List.take_left]
  have e : cellsBelow Ω1.length (Ω1 ++ .ins c fs :: W) = true := by
    unfold cellsBelow
    rw [List.take_left]
    exact hp.below _
  rw [if_pos ⟨by unfold below; exact belowF_up fs hf, e⟩]
/-! ### cells at the end -/
@[simp] theorem at_end {Ω : Om} {c : Cell} : (Ω ++ [c])[Ω.length]? = some c := by simp
@[simp] theorem set_end {Ω : Om} {c c' : Cell} : (Ω ++ [c]).set Ω.length c' = Ω ++ [c'] := by simp
@[simp] theorem cellL_end {Ω : Om} {xs : List D} : cellL (Ω ++ [.lst xs]) Ω.length = some xs := by unfold cellL; simp
@[simp] theorem asL_end {Ω : Om} {xs : List D} : asL (Ω ++ [.lst xs]) (.ref Ω.length) = some xs := by unfold asL; simp
@[simp] theorem asK_end {Ω : Om} {xs : List (Key × D)} : asK (Ω ++ [.dct xs]) (.ref Ω.length) = some xs := by unfold asK; simp
@[simp] theorem atI_nat {α : Type} (xs : List α) (n : Nat) : L2.atI xs (n : Int) = xs[n]? := by
  unfold L2.atI ixN
  by_cases h : n < xs.length
  · simp [h]
  · simp [h]
    try omega
@[simp] theorem atI_0 {α : Type} (x : α) (xs : List α) : L2.atI (x :: xs) 0 = some x := atI_nat (x :: xs) 0
@[simp] theorem atI_1 {α : Type} (x y : α) (xs : List α) : L2.atI (x :: y :: xs) 1 = some y := atI_nat (x :: y :: xs) 1
@[simp] theorem atI_2 {α : Type} (x y z : α) (xs : List α) : L2.atI (x :: y :: z :: xs) 2 = some z := atI_nat (x :: y :: z :: xs) 2
@[simp] theorem ixN_last (n : Nat) : ixN (n + 1) (-1) = some n := by
  unfold ixN
  simp
  omega
@[simp] theorem atI_last {α : Type} (ys : List α) (z : α) : L2.atI (ys ++ [z]) (-1) = some z := by
  unfold L2.atI
  rw [List.length_append, List.length_singleton, ixN_last]
  simp
@[simp] theorem setIx_last {Ω : Om} {ys : List D} {z d : D} : setIx (.ref Ω.length) (.int (-1)) d (Ω ++ [.lst (ys ++ [z])]) = some (Ω ++ [.lst (ys ++ [d])]) := by
  unfold setIx
  simp
/-! ### steps -/
section
variable {Γ Γ1 : Gm} {Ω Ω1 Ω2 : Om} {g k : DenS} {f : Den D} {r : Den (List D)} {d : D} {ds : List D} {i n : Nat} {F : FD} {t : DenG} {b : DenS}
theorem seq_nx (h : g Γ Ω = some (.nx, Γ1, Ω1)) : sSeq g k Γ Ω = k Γ1 Ω1 := by unfold sSeq; rw [h]; rfl
theorem seq_rt (h : g Γ Ω = some (.rt d, Γ1, Ω1)) : sSeq g k Γ Ω = some (.rt d, Γ1, Ω1) := by unfold sSeq; rw [h]; rfl
theorem set_ok (h : f Γ Ω = some (.ok d, Ω1)) : sSet i f Γ Ω = some (.nx, Γ.set i (some d), Ω1) := by unfold sSet; rw [h]; rfl
theorem ret_ok (h : f Γ Ω = some (.ok d, Ω1)) : sRet f Γ Ω = some (.rt d, Γ, Ω1) := by unfold sRet; rw [h]; rfl
theorem exp_ok (h : f Γ Ω = some (.ok d, Ω1)) : sExp f Γ Ω = some (.nx, Γ, Ω1) := by unfold sExp; rw [h]; rfl
theorem if_t {c : Den Bool} (h : c Γ Ω = some (.ok true, Ω1)) : sIf c g k Γ Ω = g Γ Ω1 := by unfold sIf; rw [h]; rfl
theorem if_f {c : Den Bool} (h : c Γ Ω = some (.ok false, Ω1)) : sIf c g k Γ Ω = k Γ Ω1 := by unfold sIf; rw [h]; rfl
theorem for_ok {fi : Den (List D)} (h : fi Γ Ω = some (.ok ds, Ω1)) : sFor fi t b Γ Ω = loopS t b ds Γ Ω1 := by unfold sFor; rw [h]
theorem call_ok (h : r Γ Ω = some (.ok ds, Ω1)) (hn : ds.length = n) (hF : F ds Ω1 = some (.ok d, Ω2)) : fCall n F r Γ Ω = some (.ok d, Ω2) := by
  unfold fCall bnd
  rw [h]
  simp [hn, hF]
theorem cons_ok {f : Den D} {r : Den (List D)} (h1 : f Γ Ω = some (.ok d, Ω1)) (h2 : r Γ Ω1 = some (.ok ds, Ω2)) : fCons f r Γ Ω = some (.ok (d :: ds), Ω2) := by
  unfold fCons bnd
  rw [h1, bR_ok]
  dsimp only
  rw [h2, bR_ok]
  rfl
theorem nil_ok : fNil Γ Ω = some (.ok [], Ω) := rfl
theorem fn_rt (h : b (startG n ds) Ω = some (.rt d, Γ1, Ω1)) : fnD n b ds Ω = some (.ok d, Ω1) := by unfold fnD; rw [h]; rfl
theorem fn_nx (h : b (startG n ds) Ω = some (.nx, Γ1, Ω1)) : fnD n b ds Ω = some (.ok .non, Ω1) := by unfold fnD; rw [h]; rfl
theorem var_at (h : Γ[i]? = some (some d)) : fVar i Γ Ω = some (.ok d, Ω) := by unfold fVar; rw [h]
/-- a walk whose body runs on -/
theorem loop_nx {α β : Type} {e : α → D} (I : β → Gm → Om → Prop) (step : β → α → β) (ok : β → List α → Prop) (h : ∀ s x xs Γ Ω, ok s (x :: xs) → I s Γ Ω → ∃ Γ1, t (e x) Γ = some Γ1 ∧ ∃ Γ' Ω', b Γ1 Ω = some (.nx, Γ', Ω') ∧ I (step s x) Γ' Ω' ∧ ok (step s x) xs) :
    ∀ (xs : List α) (s : β) (Γ : Gm) (Ω : Om), ok s xs → I s Γ Ω → ∃ Γ' Ω', loopS t b (xs.map e) Γ Ω = some (.nx, Γ', Ω') ∧ I (xs.foldl step s) Γ' Ω'
  | [], s, Γ, Ω, _, hi => ⟨Γ, Ω, rfl, hi⟩
  | x :: xs, s, Γ, Ω, ho, hi => by
    obtain ⟨Γ1, e1, Γ2, Ω2, e2, hi2, ho2⟩ := h s x xs Γ Ω ho hi
    obtain ⟨Γ3, Ω3, e3, hi3⟩ := loop_nx I step ok h xs (step s x) Γ2 Ω2 ho2 hi2
    refine ⟨Γ3, Ω3, ?_, hi3⟩
    rw [List.map_cons]
    unfold loopS
    rw [e1]
    dsimp only
    rw [e2]
    exact e3
/-- a comprehension whose tests and items are plain -/
theorem loopC_map {α : Type} {e : α → D} {ft : Den Bool} {fe : Den D} (p : α → Bool) (y : α → D) : ∀ (xs : List α) (acc : List D), (∀ x ∈ xs, ∃ Γ1, t (e x) Γ = some Γ1 ∧ ft Γ1 Ω = some (.ok (p x), Ω) ∧ (p x = true → fe Γ1 Ω = some (.ok (y x), Ω))) → acc.length + xs.length ≤ 100000 →
    loopC t ft fe Γ (xs.map e) acc Ω = some (.ok (.lst (acc ++ (xs.filter p).map y)), Ω)
  | [], acc, _, _ => by simp [loopC]
  | x :: xs, acc, h, hl => by
    obtain ⟨Γ1, e1, e2, e3⟩ := h x (by simp)
    rw [List.map_cons]
    unfold loopC
    rw [e1]
    dsimp only
    rw [e2]
    rw [List.length_cons] at hl
    cases hp : p x with
    | true =>
      dsimp only
      rw [e3 hp]
      dsimp only
      rw [if_pos (by omega), loopC_map p y xs _ (fun z hz => h z (by simp [hz])) (by simp; omega)]
      simp [hp]
    | false =>
      dsimp only
      rw [loopC_map p y xs _ (fun z hz => h z (by simp [hz])) (by omega)]
      simp [hp]
end
/-! ### data that == reads -/
structure Emb {α : Type} [DecidableEq α] (e : α → D) (p : α → PyData) (n : Nat) : Prop where
  to : ∀ g a, toPg g (e a) = some (p a)
  lay : ∀ a, (p a).canLay0 = true
  dep : ∀ a, (p a).depth ≤ n
  eq : ∀ a b, PyData.eqv (p a) (p b) = decide (a = b)
section
variable {α : Type} [DecidableEq α] {e : α → D} {p : α → PyData} {n : Nat}
theorem Emb.toL (h : Emb e p n) (g : Nat → Option PyData) : ∀ xs : List α, toPLg g (xs.map e) = some (xs.map p)
  | [] => rfl
  | x :: xs => by
    rw [List.map_cons]
    unfold toPLg
    rw [h.to g x]
    dsimp only
    rw [Emb.toL h g xs]
    rfl
theorem Emb.layL (h : Emb e p n) : ∀ xs : List α, PyData.canLayAll0 (xs.map p) = true
  | [] => rfl
  | x :: xs => by
    rw [List.map_cons]
    unfold PyData.canLayAll0
    rw [h.lay x, Emb.layL h xs]
    rfl
theorem Emb.depL (h : Emb e p n) : ∀ xs : List α, PyData.depthAll (xs.map p) ≤ n
  | [] => Nat.zero_le _
  | x :: xs => by
    rw [List.map_cons]
    unfold PyData.depthAll
    exact Nat.max_le.mpr ⟨h.dep x, Emb.depL h xs⟩
theorem Emb.eqL (h : Emb e p n) : ∀ xs ys : List α, PyData.eqvAll (xs.map p) (ys.map p) = decide (xs = ys)
  | [], [] => rfl
  | [], _ :: _ => rfl
  | _ :: _, [] => rfl
  | x :: xs, y :: ys => by
    rw [List.map_cons, List.map_cons]
    unfold PyData.eqvAll
    rw [h.eq x y, Emb.eqL h xs ys]
    by_cases h1 : x = y <;> by_cases h2 : xs = ys <;> simp [h1, h2]
theorem Emb.lst (h : Emb e p n) : Emb (fun xs : List α => D.lst (xs.map e)) (fun xs => PyData.list (xs.map p)) (n + 1) :=
  ⟨fun g xs => by unfold toPg; rw [h.toL g xs]; rfl, fun xs => by unfold PyData.canLay0; exact h.layL xs, fun xs => by unfold PyData.depth; exact Nat.succ_le_succ (h.depL xs), fun xs ys => by unfold PyData.eqv; exact h.eqL xs ys⟩
theorem Emb.tup (h : Emb e p n) : Emb (fun xs : List α => D.tup (xs.map e)) (fun xs => PyData.tuple (xs.map p)) (n + 1) :=
  ⟨fun g xs => by unfold toPg; rw [h.toL g xs]; rfl, fun xs => by unfold PyData.canLay0; exact h.layL xs, fun xs => by unfold PyData.depth; exact Nat.succ_le_succ (h.depL xs), fun xs ys => by unfold PyData.eqv; exact h.eqL xs ys⟩
theorem Emb.shaped (h : Emb e p n) (hn : n ≤ 64) (a : α) : SeqAt.shaped (p a) = true := by
  unfold SeqAt.shaped
  rw [h.lay a]
  have := h.dep a
  simp
  omega
theorem Emb.toP (h : Emb e p n) {Ω : Om} {k : Nat} (a : α) : Dn.toP Ω k (e a) = some (p a) := by
  cases k <;> exact h.to _ a
theorem Emb.toPref (h : Emb e p n) {Ω : Om} {k m : Nat} {xs : List α} (hm : Ω[m]? = some (.lst (xs.map e))) : Dn.toP Ω (k + 1) (.ref m) = some (.list (xs.map p)) := by
  show toPg _ (.ref m) = _
  unfold toPg
  rw [hm]
  dsimp only
  rw [h.toL]
  rfl
end
theorem emb_int : Emb D.int PyData.int 0 := ⟨fun _ _ => rfl, fun _ => rfl, fun _ => by simp [PyData.depth], fun a b => by unfold PyData.eqv; by_cases h : a = b <;> simp [h]⟩
def stD (s : Int × Int × Int) : D := .tup [.int s.1, .int s.2.1, .int s.2.2]
def stP (s : Int × Int × Int) : PyData := .tuple [.int s.1, .int s.2.1, .int s.2.2]
def prP (s : Int × Int) : PyData := .tuple [.int s.1, .int s.2]
theorem emb_st : Emb stD stP 1 := ⟨fun _ _ => rfl, fun _ => rfl, fun _ => by simp [stP, PyData.depth, PyData.depthAll], fun a b => by
  obtain ⟨a1, a2, a3⟩ := a
  obtain ⟨b1, b2, b3⟩ := b
  by_cases h1 : a1 = b1 <;> by_cases h2 : a2 = b2 <;> by_cases h3 : a3 = b3 <;> simp [stP, PyData.eqv, PyData.eqvAll, h1, h2, h3]⟩
theorem emb_pr : Emb prD prP 1 := ⟨fun _ _ => rfl, fun _ => rfl, fun _ => by simp [prP, PyData.depth, PyData.depthAll], fun a b => by
  obtain ⟨a1, a2⟩ := a
  obtain ⟨b1, b2⟩ := b
  by_cases h1 : a1 = b1 <;> by_cases h2 : a2 = b2 <;> simp [prP, PyData.eqv, PyData.eqvAll, h1, h2]⟩
/-- x == y by what they are read as -/
theorem eqG_of {b : Bool → D} {x y : D} {Ω : Om} {p q : PyData} (h1 : toP Ω 3 x = some p) (h2 : toP Ω 3 y = some q) (s1 : SeqAt.shaped p = true) (s2 : SeqAt.shaped q = true) : eqG b x y Ω = some (.ok (b (PyData.eqv p q)), Ω) := by
  unfold eqG
  split
  · rename_i i j
    cases h1
    cases h2
    unfold PyData.eqv
    rfl
  · rw [h1]
    dsimp only
    rw [h2]
    dsimp only
    rw [if_pos ⟨s1, s2⟩]
section
variable {α : Type} [DecidableEq α] {e : α → D} {p : α → PyData} {n : Nat}
theorem ne_nil_end (E : Emb e p n) (hn : n ≤ 60) {Ω : Om} (acc : List α) : dNe (.ref Ω.length) (.lst []) (Ω ++ [.lst (acc.map e)]) = some (.ok (.bl (!decide (acc = []))), Ω ++ [.lst (acc.map e)]) := by
  unfold dNe
  have h := E.eqL acc []
  rw [eqG_of (p := .list (acc.map p)) (q := .list (([] : List α).map p)) (E.toPref (by simp)) (show toP _ 3 (.lst []) = _ from E.lst.toP ([] : List α)) (E.lst.shaped (by omega) acc) (E.lst.shaped (by omega) [])]
  unfold PyData.eqv
  rw [h]
theorem eq_emb (E : Emb e p n) (hn : n ≤ 60) {Ω : Om} (b : Bool → D) (x y : α) : eqG b (e x) (e y) Ω = some (.ok (b (decide (x = y))), Ω) := by
  rw [eqG_of (E.toP x) (E.toP y) (E.shaped (by omega) x) (E.shaped (by omega) y), E.eq]
end
end Dn




set_option Elab.async false
set_option linter.all false
set_option maxRecDepth 100000
set_option maxHeartbeats 2000000
/-! DnFmt: {e!r} of plain data in a formatted text. -/
namespace Dn
open PySem PySem.Spec PyProof.Rows L2
def isSeqP : PyData → Prop
  | .list _ => True
  | .tuple _ => True
  | _ => False
/-- x a list or a tuple of plain data -/
def tFmtD (K : PySem.W.Frag) (te : TE) : TE := fun σ H Q => te σ H fun x H1 => ∃ p, Dp K H1 x p ∧ p.showable = true ∧ p.hasDict = false ∧ p.depth ≤ 60 ∧ p.shown.length ≤ sizeLine ∧ isSeqP p ∧ Q (.str p.shown) H1
theorem pe_fmtD {X : Cx} {k : Nat} {e : Expr} {te : TE} {pos : Pos} (hr : RoomG k X.A) (he : PE X e te) : PE X (.FormattedValue e 114 none pos) (tFmtD X.K te) := by
  refine ⟨fun pins s σ H Q I h => ?_⟩
  refine wpAny_FormattedValue_repr (thn (he.run pins s σ H _ I h) fun v s1 hv => ?_)
  obtain ⟨x, H1, I1, r1, p, hd, h1, h2, h3, h4, hq, q⟩ := hv
  obtain ⟨as, rd⟩ := Dp.reads I1 p x v hd r1
  have hun := hr.units
  have fin : ∀ (u : Tok) (s2 : Shared), Inv X pins σ H1 s2 → wpAny (model X.prog X.w) X.A (formatField (.str p.shown u) Str.empty) (EP X pins σ Q) X.xe s2 := fun u s2 J =>
    wpAny_formatField_str ⟨.str p.shown, H1, J, ⟨_, rfl⟩, q⟩ ⟨.str p.shown, H1, J.tok _, ⟨_, rfl⟩, q⟩ h4
  have big : ∀ (a : Addr), v = .ref a → wpAny (model X.prog X.w) X.A (pyReprObj v) (fun r s₂ => wpAny (model X.prog X.w) X.A (formatField r Str.empty) (EP X pins σ Q) X.xe s₂) X.xe s1 := fun a e => by
    subst e
    exact pyReprObj_of_reads rd h1 (PyData.noDict_hsm h2) hr.gd (by omega) (fun _ _ z => z) (fun h' u tk hk => fin u _ (I1.kept hk)) h4
  cases hd with
  | non => exact hq.elim
  | bl b => exact hq.elim
  | int i => exact hq.elim
  | str y => exact hq.elim
  | lst _ _ => exact big _ r1
  | tup _ _ => exact big _ r1
/-- f'pre{e!r}suf' -/
def isSeqB : PyData → Bool
  | .list _ => true
  | .tuple _ => true
  | _ => false
theorem isSeq_ok {p : PyData} (h : isSeqB p = true) : isSeqP p := by cases p <;> first | trivial | cases h
def fFmt (pre suf : Str) (f : Den D) : Den D := bnd f fun d _ Ω => match toP Ω 3 d with
  | some p => if okRep p = true ∧ isSeqB p = true ∧ (Str.empty ++ pre ++ p.shown).length ≤ 100000 ∧ (Str.empty ++ pre ++ p.shown ++ suf).length ≤ 100000 then some (.ok (.str (Str.empty ++ pre ++ p.shown ++ suf)), Ω) else none
  | none => none
theorem de_fmt3 {X : Cx} {E : L2.St → XK} {k : Nat} {e : Expr} {f : Den D} {pre suf : Str} {k1 k2 : Nat} {p1 p2 p3 pos : Pos} (hr : RoomG k X.A) (he : DE X E e f) (hp : (Str.empty ++ pre).length ≤ 100000 := by decide) :
    DE X E (.JoinedStr [.Constant (.str pre) k1 p1, .FormattedValue e 114 none p2, .Constant (.str suf) k2 p3] pos) (fFmt pre suf f) := by
  refine PE.mono (pe_joined (.cons pe_str (.cons (pe_fmtD hr he) (.cons pe_str .nil)))) fun σ H Q h => ?_
  obtain ⟨m, Γ, Ω, s, h⟩ := h
  refine ⟨pre, rfl, ?_, ?_⟩
  · exact sz hp
  · refine ⟨m, Γ, Ω, s, (Af.bind (R := Rl X.K) h).imp fun _ _ _ _ v _ _ _ ⟨m1, Ω1, d, g1, r1, q⟩ => ?_⟩
    dsimp only at q
    cases e1 : toP Ω1 3 d with
    | none => rw [e1] at q; exact q.elim
    | some p =>
      rw [e1] at q
      obtain ⟨⟨z1, z2, z4, z5⟩, q⟩ := Af.guard q
      unfold okRep at z1
      simp only [Bool.and_eq_true, decide_eq_true_eq, Bool.not_eq_true'] at z1
      obtain ⟨⟨⟨y1, y2⟩, y3⟩, y4⟩ := z1
      exact ⟨p, toP_ok g1.ok 3 d v p r1 e1, y1, y2, y3, sz y4, isSeq_ok z2, p.shown, rfl, sz z4, suf, rfl, sz z5, q.now g1.ok (by unfold Rl; rfl)⟩
theorem de_reprO {X : Cx} {E : L2.St → XK} {e : Expr} {r : Den (List D)} {pos p : Pos} {c : Str} {ps : List Str} {k n : Nat} {F : FD} (G : OwnG X.prog X.w X.K X.mg X.base c "__repr__" ps k F) (hr : RoomG (k + 1) X.A) (hg : X.mg "repr" = none) (ha : DA X E [e] r) (hn : ps.length = n := by rfl) (hl : Gl X "repr" := by rfl)
    (he : starEach [e] X.env = (false, eval e X.env) :: starEach [] X.env := by rfl) (hpl : (backTo pos (starEach [] X.env)).any (·.1) = false := by rfl) : DE X E (.Call (.Name "repr" p) [e] [] pos) (fCB (dReprO c n F) r) := by
  subst hn
  exact de_callB (call_reprO G hr) (cd_reprO (X := X)) hg bt_repr ha (hg := hl) (he := he) (hpl := hpl)
theorem de_inO {X : Cx} {E : L2.St → XK} {a b : Expr} {f g : Den D} {pos : Pos} {c : Str} {ps : List Str} {k n : Nat} {F : FD} (G : OwnG X.prog X.w X.K X.mg X.base c "__contains__" ps k F) (hr : RoomG k X.A) (ha : DE X E a f) (hb : DE X E b g) (hn : ps.length = n := by rfl) (hm : behindInMarks .In b = false := by rfl) :
    DE X E (.Compare a [.In] [b] pos) (fBin (dInO c n F) f g) := by
  subst hn
  exact de_cmp (op_inO G hr) (od_inO (X := X)) ha hb hm
end Dn


set_option Elab.async false
set_option linter.all false
set_option maxRecDepth 100000
set_option maxHeartbeats 2000000
/-! DnCls: C.m(..) of a classmethod, by places and by names; cls(..). -/
namespace Dn
open PySem L2
structure CmG (P : Program) (w : World) (K : PySem.W.Frag) (mg : Str → Option Value) (base : Heap) (c mt : Str) (ps : List Str) (k : Nat) (F : FD) : Prop where
  ex : ∃ mc p g fd, ClX.CRead K (cad K c) mc ∧ ClX.CMet K (cad K c) mc mt p g ∧ FnOkG P w K mg base (L2N.CX P w) k g fd ps (spD K ps.length F) ∧ Binds K fd ps []
structure CmK (P : Program) (w : World) (K : PySem.W.Frag) (mg : Str → Option Value) (base : Heap) (c mt : Str) (ps ks : List Str) (ix : List Nat) (k : Nat) (F : FD) : Prop where
  ex : ∃ mc p g fd, ClX.CRead K (cad K c) mc ∧ ClX.CMet K (cad K c) mc mt p g ∧ FnOkG P w K mg base (L2N.CX P w) k g fd ps (spD K ps.length F) ∧ KwB K fd ps 1 ks ix
def fCMeth (c : Str) (n : Nat) (F : FD) (r : Den (List D)) : Den D := bnd r fun ds _ Ω => if (D.cl c :: ds).length = n then F (D.cl c :: ds) Ω else none
def fCMethK (c : Str) (n l : Nat) (ix : List Nat) (F : FD) (r : Den (List D)) : Den D := bnd r fun ds _ Ω => if ds.length = l ∧ (reord ix (D.cl c :: ds)).length = n then F (reord ix (D.cl c :: ds)) Ω else none
def fMakeV (i : Nat) (c : Str) (n : Nat) (F : FD) (r : Den (List D)) : Den D := fun Γ Ω => match Γ[i]? with
  | some (some (.cl c')) => if c' = c then fMake c n F r Γ Ω else none
  | _ => none
section
variable {X : Cx} {E : St → XK} {e : Expr} {es : List Expr} {kws : List Keyword} {r : Den (List D)} {p apos pos : Pos} {c mt : Str} {ps ks : List Str} {ix : List Nat} {k n l : Nat} {F : FD} {pl : Sem Bool}
theorem rl_cl {m : Mp} {Ω : Om} {H : Hp} {ds : List D} {vs : List V} (h : RlL X.K m Ω H ds vs) : RlL X.K m Ω H (.cl c :: ds) (.ref (cad X.K c) :: vs) := by
  unfold RlL
  exact ⟨_, _, rfl, (by unfold Rl; rfl), h⟩
theorem de_cmeth (hm : X.mg c = some (.ref (cad X.K c))) (G : CmG X.prog X.w X.K X.mg X.base c mt ps k F) (hr : RoomG k X.A) (hx : ∀ σ, PassesAt (L2N.CX X.prog X.w) X σ (E σ)) (ha : DA X E (e :: es) r) (hn : ps.length = n := by rfl) (hg : Gl X c := by rfl) (hd : (c == ("__debug__" : Str)) = false := by decide)
    (hst : starEach (e :: es) X.env = (false, eval e X.env) :: starEach es X.env := by rfl) (hpl : (backTo pos (starEach es X.env)).any (·.1) = false := by rfl)
    (ht : eval (.Call (.Attribute (.Name c p) mt apos) (e :: es) [] pos) X.env = (do
      let ov ← eval (.Name c p) X.env
      standAt apos.atName
      let (f, first) ← holding [ov] (getMethod ov mt pl)
      callWith pos f first (backTo pos (starEach (e :: es) X.env)) (backToKw pos (keywordEach [] X.env))) := by rfl) :
    DE X E (.Call (.Attribute (.Name c p) mt apos) (e :: es) [] pos) (fCMeth c n F r) := by
  subst hn
  obtain ⟨mc, pp, g, fd, rd, cm, ok, bi⟩ := G.ex
  refine ⟨fun pins s σ H Q I h => ?_⟩
  have h2 : tDA X.K E r σ H fun vs H2 => spD X.K ps.length F (.ref (cad X.K c) :: vs) H2 Q (E σ) := by
    obtain ⟨m, Γ, Ω, s, h⟩ := h
    refine ⟨m, Γ, Ω, s, (Af.bind (R := RlL X.K) h).imp fun _ _ H2 _ vs2 _ _ _ ⟨m2, Ω2, ds, g2, r2, q2⟩ => ?_⟩
    obtain ⟨hl, q2⟩ := Af.guard q2
    have rr := rl_cl (c := c) r2
    exact ⟨by rw [← rr.length]; exact hl, m2, Ω2, _, g2.ok, rr, q2⟩
  refine PySem.W.methodCall_KW (pl := pl) (thn ((pe_glob (v := .ref (cad X.K c)) hg hm rfl hd).run pins s σ H (fun x H1 => x = .ref (cad X.K c) ∧ H1 = H) I ⟨rfl, rfl⟩) fun u s1 ⟨x, H1, I1, rx, ex, eH⟩ => ?_) ht
  subst ex eH
  obtain rfl : u = Value.ref (cad X.K c) := rx
  refine ClX.getmethcm_ok I1 rd cm fun s2 I2 => ?_
  refine ClX.callwith_cm I2 (ClX.base_none I1 (Nat.le_refl _)) cm.fi (thn (ha.run pos _ s2 σ H1 _ I2 h2) fun us s3 ⟨vs, H2, I3, rv, q2⟩ => ⟨⟨ClX.pin_at I3, I3.kIn⟩, ?_⟩) hst hpl
  have n1 := ok.len _ _ _ _ q2
  have n2 := rv.length
  have b := bi s3 (.ref (cad X.K c) :: us) I3.kIn (by rw [List.append_nil, List.length_cons, ← n2, ← n1, List.length_cons])
  rw [List.append_nil] at b
  refine wpAny_call (PySem.W.method_call (ClX.pin_at I3) (codeAny_mono (ok.run X.A X.stack s3 H2 ⟨.ref (cad X.K c) :: us, []⟩ (.ref (cad X.K c) :: us) (.ref (cad X.K c) :: vs) Q (E σ) hr I3.env0 b (.cons rfl rv) q2) fun out s' q => ?_))
  match out, q with
  | .error er, q => exact hx σ _ H2 s3 er s' I3 q
  | .ok (.ret u), q => exact ClX.unpinE (I3.after q)
  | .ok .next, q => exact q.elim
  | .ok .brk, q => exact q.elim
  | .ok .cont, q => exact q.elim
theorem de_cmethK (hm : X.mg c = some (.ref (cad X.K c))) (G : CmK X.prog X.w X.K X.mg X.base c mt ps ks ix k F) (hr : RoomG k X.A) (hx : ∀ σ, PassesAt (L2N.CX X.prog X.w) X σ (E σ)) (ha : DK X E kws r) (hn : ps.length = n := by rfl) (hl : ks.length = l := by rfl) (hg : Gl X c := by rfl) (hd : (c == ("__debug__" : Str)) = false := by decide)
    (hall : (backToKw pos (keywordEach kws X.env)).all (·.1.isSome) = true := by rfl) (hks : (backToKw pos (keywordEach kws X.env)).filterMap (·.1) = ks := by rfl)
    (hpl : ((backTo pos (starEach [] X.env)).any (·.1) || (backToKw pos (keywordEach kws X.env)).any (·.1.isNone)) = false := by rfl)
    (ht : eval (.Call (.Attribute (.Name c p) mt apos) [] kws pos) X.env = (do
      let ov ← eval (.Name c p) X.env
      standAt apos.atName
      let (f, first) ← holding [ov] (getMethod ov mt pl)
      callWith pos f first (backTo pos (starEach [] X.env)) (backToKw pos (keywordEach kws X.env))) := by rfl) :
    DE X E (.Call (.Attribute (.Name c p) mt apos) [] kws pos) (fCMethK c n l ix F r) := by
  subst hn hl
  obtain ⟨mc, pp, g, fd, rd, cm, ok, bi⟩ := G.ex
  refine ⟨fun pins s σ H Q I h => ?_⟩
  have h2 : tDA X.K E r σ H fun vs H2 => vs.length = ks.length ∧ spD X.K ps.length F (reord ix (.ref (cad X.K c) :: vs)) H2 Q (E σ) := by
    obtain ⟨m, Γ, Ω, s, h⟩ := h
    refine ⟨m, Γ, Ω, s, (Af.bind (R := RlL X.K) h).imp fun _ _ H2 _ vs2 _ _ _ ⟨m2, Ω2, ds, g2, r2, q2⟩ => ?_⟩
    obtain ⟨⟨hl, hn⟩, q2⟩ := Af.guard q2
    have rr := rl_cl (c := c) r2
    exact ⟨by rw [← r2.length]; exact hl, by rw [← (reord_rl (ix := ix) rr).length]; exact hn, m2, Ω2, _, g2.ok, reord_rl rr, q2⟩
  refine PySem.W.methodCall_KW (pl := pl) (thn ((pe_glob (v := .ref (cad X.K c)) hg hm rfl hd).run pins s σ H (fun x H1 => x = .ref (cad X.K c) ∧ H1 = H) I ⟨rfl, rfl⟩) fun u s1 ⟨x, H1, I1, rx, ex, eH⟩ => ?_) ht
  subst ex eH
  obtain rfl : u = Value.ref (cad X.K c) := rx
  refine ClX.getmethcm_ok I1 rd cm fun s2 I2 => ?_
  refine PySem.W.callWith_of (P := PySem.W.MethP X.K s1.heap.objs.size g (.ref (cad X.K c))) hpl (fun hh z => PySem.W.keeps_M cm.fi hh z) (PyProof.Rows.evalArgs_kw2_nil hall (thn (ha.run pos _ s2 σ H1 _ I2 h2) fun ws s3 ⟨zs, H2, I3, rz, l2, q2⟩ => ⟨⟨ClX.pin_at I3, I3.kIn⟩, ?_⟩))
  rw [hks]
  dsimp only [List.nil_append]
  have rr : Vals (reord ix (.ref (cad X.K c) :: zs)) (reord ix ([Value.ref (cad X.K c)] ++ ws)) := reord_vals (us := .ref (cad X.K c) :: ws) (.cons rfl rz)
  refine wpAny_call (PySem.W.method_call (ClX.pin_at I3) (codeAny_mono (ok.run X.A X.stack s3 H2 ⟨[.ref (cad X.K c)], ks.zip ws⟩ (reord ix ([Value.ref (cad X.K c)] ++ ws)) (reord ix (.ref (cad X.K c) :: zs)) Q (E σ) hr I3.env0 (bi.to s3 [.ref (cad X.K c)] ws I3.kIn rfl (rz.length.symm.trans l2)) rr q2) fun out s' q => ?_))
  match out, q with
  | .error er, q => exact hx σ _ H2 s3 er s' I3 q
  | .ok (.ret u), q => exact ClX.unpinE (I3.after q)
  | .ok .next, q => exact q.elim
  | .ok .brk, q => exact q.elim
  | .ok .cont, q => exact q.elim
/-- cls(..) -/
theorem de_makeV {x : Str} (i : Nat) (G : MkG X.prog X.w X.K X.mg X.base c ps k F) (hr : RoomG (k + 1) X.A) (hx : ∀ σ, PassesAt (L2N.CX X.prog X.w) X σ (E σ)) (ha : DA X E (e :: es) r) (hn : ps.length = n := by rfl) (hN : X.N[i]? = some x := by rfl)
    (hv : Vis X.env.scope x := by first | exact Or.inl rfl | exact Or.inr (Or.inl rfl) | exact Or.inr (Or.inr rfl)) (hd : (x == ("__debug__" : Str)) = false := by decide)
    (hcd : (x == ("__classdict__" : Str)) = false := by decide) (he : starEach (e :: es) X.env = (false, eval e X.env) :: starEach es X.env := by rfl) (hpl : (backTo pos (starEach es X.env)).any (·.1) = false := by rfl) :
    DE X E (.Call (.Name x p) (e :: es) [] pos) (fMakeV i c n F r) := by
  subst hn
  obtain ⟨f, fd, M, hm, ok, bi⟩ := G.ex
  refine ⟨fun pins s σ H Q I h => ?_⟩
  obtain ⟨m, Γ, Ω, s', h⟩ := h
  unfold fMakeV at h
  cases e1 : Γ[i]? with
  | none => rw [e1] at h; exact h.elim
  | some o =>
    rw [e1] at h
    cases o with
    | none => exact h.elim
    | some d =>
      cases d with
      | cl c' =>
        dsimp only at h
        obtain ⟨ec, h⟩ := Af.guard h
        subst ec
        obtain ⟨v, z1, z2⟩ := s'.slots.2 i _ e1
        unfold Rl at z2
        subst z2
        have h2 : tDA X.K E r σ H fun vs H1 => ∀ x dx, H1 x = none → H1 dx = none → dx ≠ x → spD X.K ps.length F (.ref x :: vs) (upd (upd H1 dx (.own x)) x (.ins (cad X.K c') dx [])) (fun v H2 => v = .non ∧ Q (.ref x) H2) (E σ) :=
          ⟨m, Γ, Ω, s', (Af.bind (R := RlL X.K) h).imp fun _ _ _ _ _ _ _ _ ⟨m1, Ω1, ds, g1, r1, q⟩ => make_of g1.ok r1 q⟩
        refine wpAny_Call_Name_kw (thn ((pe_var hN hv hd hcd).run pins s σ H (fun x H1 => x = .ref (cad X.K c') ∧ H1 = H) I ⟨_, z1, rfl, rfl⟩) fun u s1 ⟨y, H1, I1, ry, ey, eH⟩ => ?_)
        subst ey eH
        obtain rfl : u = Value.ref (cad X.K c') := ry
        refine PySem.W.callWith_K (h₀ := X.base) I1.ok.mod.kin M.kp (thn (ha.run pos pins s1 σ H1 _ I1 h2) fun us s2 ⟨vs, H2, I2, r2, q⟩ => ⟨I2.kIn, ?_⟩) he hpl
        exact run_makeS (E := E) M ok hr bi (hx σ) I2 r2 q
      | _ => exact h.elim
end
/-! ### the head -/
def cmB (c m : Str) (K : PySem.W.Frag) : Bool := PySem.W.readsIn K (cad K c) (.type "type") && (He.eqO (PySem.W.specialIn K (.ref (cad K c)) "__getattribute__") (some (some (.builtin "type.__getattribute__"))) &&
  (He5.wrapB K (cad K c) "classmethod" "classmethod.__get__" m && PySem.W.fnIn K (He5.wf K (cad K c) "classmethod" m)))
theorem cmB_ok {c m : Str} {K : PySem.W.Frag} (h : cmB c m K = true) : ClX.CRead K (cad K c) (.type "type") ∧ ClX.CMet K (cad K c) (.type "type") m (He.ma K (cad K c) m) (He5.wf K (cad K c) "classmethod" m) := by
  unfold cmB at h
  obtain ⟨h1, h⟩ := He.ba h
  obtain ⟨h2, h⟩ := He.ba h
  obtain ⟨h3, h4⟩ := He.ba h
  exact ⟨⟨h1, He.eqO_ok h2⟩, He5.cmet_of h3 h4⟩
end Dn


set_option Elab.async false
set_option linter.all false
set_option maxRecDepth 100000
set_option maxHeartbeats 2000000
/-! DnRp: the repr of a list of own objects; their __repr__ while a list is shown. -/
namespace Dn
open PySem PySem.Spec PyProof.Rows L2
/-- what is shown at the time: a list whose first item is an instance -/
def Bad (H : Hp) (b : Addr) : Prop := ∃ i vs C dx fs, H b = some (.lst (.ref i :: vs)) ∧ H i = some (.ins C dx fs)
def GdOk (H : Hp) (g : List Code) : Prop := ∀ id v rest kw, Code.builtin id ⟨v :: rest, kw⟩ ∈ g → ∃ b, v = .ref b ∧ Bad H b
def LeH (H H' : Hp) : Prop := ∀ b o, H b = some o → H' b = some o
theorem LeH.refl (H : Hp) : LeH H H := fun _ _ h => h
theorem LeH.trans {H H1 H2 : Hp} (x : LeH H H1) (y : LeH H1 H2) : LeH H H2 := fun b o h => y b o (x b o h)
theorem LeH.upd {H : Hp} {q : Addr} {o : HO} (h : H q = none) : LeH H (upd H q o) := fun b u e => by
  rw [upd_ne (fun z => by rw [z, h] at e; cases e)]
  exact e
theorem Bad.up {H H' : Hp} {b : Addr} (l : LeH H H') (h : Bad H b) : Bad H' b := let ⟨i, vs, C, dx, fs, h1, h2⟩ := h; ⟨i, vs, C, dx, fs, l _ _ h1, l _ _ h2⟩
theorem GdOk.up {H H' : Hp} {g : List Code} (l : LeH H H') (h : GdOk H g) : GdOk H' g := fun id v rest kw m => let ⟨b, e, q⟩ := h id v rest kw m; ⟨b, e, q.up l⟩
theorem gd_nil {H : Hp} : GdOk H [] := fun _ _ _ _ h => nomatch h
section
variable {K : PySem.W.Frag} {H H' : Hp}
theorem sqL_up (l : LeH H H') {a : Addr} {xs : List V} (h : SqL K H a xs) : SqL K H' a xs := by
  rcases h with (h | ⟨o, h⟩) | h
  · exact .inl (.inl (l _ _ h))
  · exact .inl (.inr ⟨o, l _ _ h⟩)
  · exact .inr h
theorem sqT_up (l : LeH H H') {a : Addr} {xs : List V} (h : SqT K H a xs) : SqT K H' a xs := by
  rcases h with (h | ⟨o, h⟩) | h
  · exact .inl (.inl (l _ _ h))
  · exact .inl (.inr ⟨o, l _ _ h⟩)
  · exact .inr h
mutual
theorem dp_up (l : LeH H H') : ∀ {v : V} {p : PyData}, Dp K H v p → Dp K H' v p
  | _, _, .non => .non
  | _, _, .bl b => .bl b
  | _, _, .int i => .int i
  | _, _, .str x => .str x
  | _, _, .lst h1 h2 => .lst (sqL_up l h1) (dpA_up l h2)
  | _, _, .tup h1 h2 => .tup (sqT_up l h1) (dpA_up l h2)
theorem dpA_up (l : LeH H H') : ∀ {vs : List V} {ps : List PyData}, DpAll K H vs ps → DpAll K H' vs ps
  | _, _, .nil => .nil
  | _, _, .cons h1 h2 => .cons (dp_up l h1) (dpA_up l h2)
end
end
/-- a list of instances is no plain data -/
theorem bad_unread {P : Program} {w : World} {H : Hp} {h : Heap} {b : Addr} (ok : HOk P w H h) (x : Bad H b) {d : PyData} {as : List Addr} (r : Reads h (.ref b) d as) : False := by
  obtain ⟨i, vs, C, dx, fs, h1, h2⟩ := x
  obtain ⟨hz, its, c, rv, hb⟩ := ok b _ h1
  obtain ⟨mA, O, _⟩ := ins_get ok h2
  obtain ⟨od, J, _⟩ := O.look
  have hi := J.at_
  have hcls := J.cls
  cases rv with
  | cons r1 r2 =>
    rename_i u us
    obtain rfl : u = Value.ref i := r1
    cases r with
    | list k1 k2 k3 k4 =>
      rename_i o vs' n xs bs
      rw [hb] at k1
      cases k1
      have k3' : Data.seq (Value.ref i :: us).toArray c = Data.seq vs' n := k3
      cases k3'
      have k4' : ReadsAll h (Value.ref i :: us) xs bs := by simpa using k4
      cases k4' with
      | cons q1 q2 =>
        cases q1 with
        | list j1 j2 j3 j4 => rw [hi] at j1; cases j1; rw [hcls] at j2; cases j2
        | tuple j1 j2 j3 j4 => rw [hi] at j1; cases j1; rw [hcls] at j2; cases j2
        | dict j1 j2 j3 j4 j5 => rw [hi] at j1; cases j1; rw [hcls] at j2; cases j2
    | tuple k1 k2 k3 k4 => rw [hb] at k1; cases k1; exact absurd (Value.type.inj k2) (by decide)
    | dict k1 k2 k3 k4 k5 => rw [hb] at k1; cases k1; exact absurd (Value.type.inj k2) (by decide)
theorem clear_of {P : Program} {w : World} {H : Hp} {h : Heap} {g : List Code} (ok : HOk P w H h) (x : GdOk H g) {n : Nat} {bs : List Addr} (r : ReadAtMost h n bs) : ∀ b ∈ bs, Clear g b := by
  intro b hb id v rest kw hm e
  obtain ⟨d, as, rr, _⟩ := r b hb
  obtain ⟨b', e', bad⟩ := x id v rest kw hm
  rw [e] at e'
  cases e'
  exact bad_unread ok bad rr
/-- the repr of a list of plain data while something is shown -/
theorem reprObj_list {prog : Program} {w : World} {A : Around} {E : Value → Shared → Prop} {s : Shared} {Q : Value → Shared → Prop} {H : Hp} {g : List Code} {a : Addr} {xs : List PyData} {as : List Addr} (ok : HOk prog w H s.heap) (hG : GdOk H g)
    (r : Reads s.heap (.ref a) (.list xs) as) (hs : (PyData.list xs).showable = true) (hd : (PyData.list xs).hasDict = false) (hg : A.guards = some g) (hu : A.units + (PyData.list xs).depth < cLine)
    (hQ : ∀ h' u tk, (∀ b o, s.heap.get? b = some o → h'.get? b = some o) → Q (.str (PyData.list xs).shown u) { s with heap := h', toks := tk }) (hsz : (PyData.list xs).shown.length ≤ sizeLine) :
    wpAny (model prog w) A (pyReprObj (.ref a)) Q E s := by
  have r0 := r
  cases r with
  | list h1 h2 h3 h4 =>
    rename_i o vs n bs₀
    have hz' : (listText (PyData.shownAll xs)).length ≤ sizeLine := by simpa only [PyData.shown] using hsz
    obtain ⟨bs, hb, hk⟩ := ReprAllK.of_readsAll (prog := prog) (w := w) h4 (by simpa [PyData.showable] using hs) (fun hx => by
      have : PyData.hasDictAll xs = false := by simpa [PyData.hasDict] using hd
      rw [this] at hx
      cases hx) (fun t ht => Nat.le_trans (listText_mem_le ht) hz')
    have hna : a ∉ bs := not_mem_of_deeper r0 (by simp only [PyData.depth]; omega) hb
    have hcl : ∀ b ∈ a :: bs, Clear g b := clear_of ok hG (ReadAtMost.cons r0 (Nat.le_refl _) (hb.mono (by simp only [PyData.depth]; omega)))
    simp only [PyData.depth] at hu
    simp only [PyData.shown] at hQ
    obtain ⟨l⟩ := vs
    cases l with
    | nil =>
      have h4' : ReadsAll s.heap [] xs _ := h4
      cases h4'
      simp only [PyData.shownAll, listText_nil] at hQ
      exact wpAny_pyReprObj_list_empty ⟨_, h1, h2⟩ (by omega) h1 h3 (hQ s.heap _ _ fun _ _ e => e)
    | cons x l =>
      exact wpAny_pyReprObj_listK h1 h2 h3 hna (by simpa using hk.length_eq) (fun i y e => hk.item i y (by simpa using e)) hg hcl (by omega) (fun _ _ e => e) hQ hz'
/-! ### a def's promise while something is shown -/
structure FnOkK (P : Program) (w : World) (K : PySem.W.Frag) (mg : Str → Option Value) (base : Heap) (T : CXT) (k : Nat) (f : Addr) (fd : FuncData) (ps : List Str) (sp : Sp) : Prop where
  run : ∀ (A : Around) (g : List Code) (out : List Env) (s : Shared) (H : Hp) (ar : Args) (us : List Value) (vs : List V) (Q : VK) (E : XK), Room k A → A.guards = some g → GdOk H g → Env0 P w K mg base A out s H → BindsTo s fd ar (ps.zip us) → Vals vs us →
    sp vs H Q E → codeAny (model P w) A (.call (.ref f) ar) (CR T out P w H s Q E) s
theorem fn_ofK {P : Program} {w : World} {K : PySem.W.Frag} {mg : Str → Option Value} {base : Heap} {T : CXT} {k : Nat} {f : Addr} {fd : FuncData} {ps : List Str} {sp : Sp} {x qual : Str} {params : Arguments} {body : List Stmt} {scope : Scope} {N : List Str} (G : FunD K x qual params body scope [] [] f fd) (S : FnScope N ps scope)
    (hlen : ∀ vs H Q E, sp vs H Q E → vs.length = ps.length)
    (hbody : ∀ (cdv : Value) (A : Around) (g : List Code) (out : List Env) (s : Shared) (H : Hp) (vs : List V) (Q : VK) (E : XK), Room k (A.deeper (envOfC qual scope s.heap.objs.size f cdv)) → A.guards = some g → GdOk H g → sp vs H Q E →
      ∃ t, PSs (cxOf T P w K mg base N qual scope f cdv A out s H E) body t ∧ t { nx := fun _ Hz => Q .non Hz, rt := Q } (L2.start N vs) H) :
    FnOkK P w K mg base T (k + 1) f fd ps sp := by
  obtain ⟨oc, od, dV, kV, doc, pm, an, cdv, ct, osl, rfl, lk, hcd, _, _⟩ := G.ex
  refine ⟨fun A g out s H ar us vs Q E room hg hG env bnd vals z => ?_⟩
  have nps := hlen _ _ _ _ z
  have kin : K.In s.heap := env.mod.kin.keeps fun b o q => (env.bs b o q).1
  have nolim : s.heap.NoLimit := env.mod.nolimit.keeps fun b o q => (env.bs b o q).1
  have kinds : ∀ y ∈ ps.zip us, scope.names.lookup y.1 = some .local ∨
      (scope.names.lookup y.1 = some .cell ∧ ((cellsFrom (s.heap.objs.size + 1) scope.names []).lookup y.1).isSome = true) := fun y hy =>
    (S.par y.1 (List.of_mem_zip (a := y.1) (b := y.2) hy).1).imp (fun z => z) fun z => ⟨z, PySem.W.cellsFrom_some _ _ _ (.inl z)⟩
  refine codeAny_call_function room.depth (kin _ _ lk) rfl S.co S.gen rfl (PySem.W.codeRec_of kin hcd)
    (bnd _ _ _ _ (wpAny_newFunctionEnv_cells S.kind kinds fun ev hev s1 ic => ?_))
  subst hev
  obtain ⟨t, ht, hz⟩ := hbody cdv A g out s H vs Q E (room.deeper _) hg hG z
  have inv : Inv (cxOf T P w K mg base N qual scope f cdv A out s H E) [] (L2.start N vs) H s1 :=
    inv_start S room.hd env nps vals ic
  refine ⟨nolim.keeps ic.toInCall.keep, codeAny_func (wpAny_mono (ht.run [] s1 _ H _ inv hz) (fun fl s' q => ?_) fun _ _ q => q)⟩
  match fl, q with
  | .ret u, ⟨v, σ', H', J, rv, q⟩ => exact ⟨v, H', J.os, J.bare, J.base, J.hok, rv, q⟩
  | .next, ⟨σ', H', J, q⟩ => exact ⟨V.non, H', J.os, J.bare, J.base, J.hok, rfl, q⟩
  | .brk, ⟨_, _, _, q⟩ => exact q.elim
  | .cont, ⟨_, _, _, q⟩ => exact q.elim
/-! ### f'pre{list(self.fld)!r}suf' -/
/-- y, an instance of c whose fld is a tuple of plain data, is shown as t -/
def Rp1 (K : PySem.W.Frag) (c fld pre suf : Str) (H : Hp) (y : V) (t : Str) : Prop := ∃ a dx fs tt ws ps, y = .ref a ∧ H a = some (.ins (cad K c) dx fs) ∧ fs.lookup fld = some (.ref tt) ∧ SqT K H tt ws ∧ DpAll K H ws ps ∧
  okRep (.list ps) = true ∧ (Str.empty ++ pre ++ (PyData.list ps).shown).length ≤ sizeLine ∧ t = Str.empty ++ pre ++ (PyData.list ps).shown ++ suf ∧ t.length ≤ sizeLine
theorem Rp1.up {K : PySem.W.Frag} {c fld pre suf : Str} {H H' : Hp} {y : V} {t : Str} (l : LeH H H') (h : Rp1 K c fld pre suf H y t) : Rp1 K c fld pre suf H' y t := by
  obtain ⟨a, dx, fs, tt, ws, ps, h1, h2, h3, h4, h5, h6⟩ := h
  exact ⟨a, dx, fs, tt, ws, ps, h1, l _ _ h2, h3, sqT_up l h4, dpA_up l h5, h6⟩
def spR (K : PySem.W.Frag) (c fld pre suf : Str) : Sp := fun vs H Q _ => ∃ y t, vs = [y] ∧ Rp1 K c fld pre suf H y t ∧ ∀ H', LeH H H' → Q (.str t) H'
def tFmtK (K : PySem.W.Frag) (g : List Code) (te : TE) : TE := fun σ H Q => te σ H fun x H1 => ∃ ps, Dp K H1 x (.list ps) ∧ GdOk H1 g ∧ okRep (.list ps) = true ∧ Q (.str (PyData.list ps).shown) H1
theorem pe_fmtK {X : Cx} {k : Nat} {g : List Code} {e : Expr} {te : TE} {pos : Pos} (hr : Room k X.A) (hg : X.A.guards = some g) (he : PE X e te) : PE X (.FormattedValue e 114 none pos) (tFmtK X.K g te) := by
  refine ⟨fun pins s σ H Q I h => ?_⟩
  refine wpAny_FormattedValue_repr (thn (he.run pins s σ H _ I h) fun v s1 hv => ?_)
  obtain ⟨x, H1, I1, r1, ps, hd, hG, hok, q⟩ := hv
  obtain ⟨as, rd⟩ := Dp.reads I1 _ x v hd r1
  have hun := hr.units
  unfold okRep at hok
  simp only [Bool.and_eq_true, decide_eq_true_eq, Bool.not_eq_true'] at hok
  obtain ⟨⟨⟨y1, y2⟩, y3⟩, y4⟩ := hok
  have fin : ∀ (u : Tok) (s2 : Shared), Inv X pins σ H1 s2 → wpAny (model X.prog X.w) X.A (formatField (.str (PyData.list ps).shown u) Str.empty) (EP X pins σ Q) X.xe s2 := fun u s2 J =>
    wpAny_formatField_str ⟨.str _, H1, J, ⟨_, rfl⟩, q⟩ ⟨.str _, H1, J.tok _, ⟨_, rfl⟩, q⟩ (sz y4)
  cases hd with
  | lst z1 z2 =>
    obtain rfl : v = Value.ref _ := r1
    exact reprObj_list I1.hok hG rd y1 y2 hg (by omega) (fun h' u tk hk => fin u _ (I1.kept hk)) (sz y4)
/-- list(self.fld) -/
def tLs (K : PySem.W.Frag) (c fld : Str) : TE := fun σ H Q => ∃ a dx fs tt ws, σ[0]? = some (some (.ref a)) ∧ H a = some (.ins (cad K c) dx fs) ∧ fs.lookup fld = some (.ref tt) ∧ SqT K H tt ws ∧ ∀ l, H l = none → Q (.ref l) (upd H l (.lst ws))
theorem pe_lsf {X : Cx} {x c fld : Str} {p1 p2 p3 pos : Pos} (hc : Cls X.K (cad X.K c)) (hn : NoAttr X.K (cad X.K c) fld) (hm : X.mg "list" = none) (hN : X.N[0]? = some x := by rfl)
    (hv : Vis X.env.scope x := by first | exact Or.inl rfl | exact Or.inr (Or.inl rfl) | exact Or.inr (Or.inr rfl)) (hd : (x == ("__debug__" : Str)) = false := by decide) (hcd : (x == ("__classdict__" : Str)) = false := by decide)
    (hb : attributeBase (.Name x p2) fld X.env (eval (.Name x p2) X.env) = eval (.Name x p2) X.env := by rfl) (hg : Gl X "list" := by rfl) (he : starEach [.Attribute (.Name x p2) fld p3] X.env = (false, eval (.Attribute (.Name x p2) fld p3) X.env) :: starEach [] X.env := by rfl)
    (hpl : (backTo pos (starEach [] X.env)).any (·.1) = false := by rfl) : PE X (.Call (.Name "list" p1) [.Attribute (.Name x p2) fld p3] [] pos) (tLs X.K c fld) := by
  refine PE.mono (pe_callTy call_list_of hg hm bt_list (pa_cons (pe_fld (pe_var hN hv hd hcd) hb) pa_nil he) (he := he) (hpl := hpl)) fun σ H Q h => ?_
  obtain ⟨a, dx, fs, tt, ws, h1, h2, h3, h4, q⟩ := h
  exact ⟨.ref a, h1, a, _, dx, fs, .ref tt, rfl, h2, hc, hn, h3, tt, ws, rfl, .inr h4, q⟩
theorem fn_repr {P : Program} {w : World} {K : PySem.W.Frag} {mg : Str → Option Value} {base : Heap} {f : Addr} {fd : FuncData} {x qual c fld pre suf : Str} {params : Arguments} {scope : Scope} {le : Expr} {k1 k2 : Nat} {p1 p2 p3 p8 pos : Pos}
    (G : FunD K x qual params [.Return (some (.JoinedStr [.Constant (.str pre) k1 p1, .FormattedValue le 114 none p2, .Constant (.str suf) k2 p3] p8)) pos] scope [] [] f fd) (S : FnScope ["self"] ["self"] scope)
    (hl : ∀ cdv A out s H E, PE (cxOf (L2N.CX P w) P w K mg base ["self"] qual scope f cdv A out s H E) le (tLs K c fld)) (hp : (Str.empty ++ pre).length ≤ 100000 := by decide) :
    FnOkK P w K mg base (L2N.CX P w) 1 f fd ["self"] (spR K c fld pre suf) := by
  refine fn_ofK G S (fun vs H Q E ⟨y, t, e, _⟩ => by rw [e]; rfl) fun cdv A g out s H vs Q E room hg hG z => ?_
  refine ⟨_, pss_one (ps_ret (pe_joined (.cons pe_str (.cons (pe_fmtK (g := g) room hg (hl cdv A out s H E)) (.cons pe_str .nil))))), ?_⟩
  obtain ⟨y, t, ev, hy, q⟩ := z
  subst ev
  obtain ⟨a, dx, fs, tt, ws, ps, h1, h2, h3, h4, h5, h6, h7, h8, h9⟩ := hy
  subst h1
  refine ⟨pre, rfl, sz hp, a, dx, fs, tt, ws, rfl, h2, h3, h4, fun l hl => ?_⟩
  have up : LeH H (upd H l (.lst ws)) := LeH.upd hl
  refine ⟨ps, .lst (SqL.of upd_same) (dpA_up up h5), hG.up up, h6, _, rfl, h7, suf, rfl, ?_, ?_⟩
  · rw [← h8]; exact h9
  · show Q (.str (Str.empty ++ pre ++ (PyData.list ps).shown ++ suf)) _
    rw [← h8]
    exact q _ up
/-- c's __repr__ -/
structure RpG (P : Program) (w : World) (K : PySem.W.Frag) (mg : Str → Option Value) (base : Heap) (c fld pre suf : Str) (k : Nat) : Prop where
  ex : ∃ f fd, PySem.W.findIn K (.ref (cad K c)) "__repr__" = some (some (.ref f)) ∧ PySem.W.isFn K (.ref f) = true ∧ FnOkK P w K mg base (L2N.CX P w) k f fd ["self"] (spR K c fld pre suf) ∧ Binds K fd ["self"] []
/-! ### repr within repr -/
section
variable {K : PySem.W.Frag} {x C f : Addr} {ox : Obj} {od : Option Obj} {A : Around} {s : Shared} {E : Value → Shared → Prop}
theorem ifBoundBy_K {M : Model} {name : Str} {last : Value → List Value → Sem Value} {Q : Option Value → Shared → Prop} (X : K.In s.heap) (I : PySem.W.InstAt s.heap x ox C od) (hs : PySem.W.findIn K (.ref C) name = some (some (.ref f))) (hf : PySem.W.isFn K (.ref f) = true)
    (h : wpAny M A (last (.ref f) [.ref x]) (fun v => Q (some v)) E s) : wpAny M A (callSpecialIfBoundBy? last (.ref x) name) Q E s := by
  simp only [callSpecialIfBoundBy?, bindSpecialIfBound?]
  refine wpAny_holding (wpAny_bind (wpAny_bind (wpAny_bind (I.type.here ((PySem.W.looks_findIn X hs).here ?_)))))
  refine wpAny_bind (wpAny_askSetting (wpAny_ite ?_))
  have fin : wpAny M A (last (.ref f) [.ref x] >>= fun v => pure (some v)) Q E s := wpAny_bind (wpAny_mono h (fun v s' h' => wpAny_pure h') fun _ _ h' => h')
  split
  · exact wpAny_bind ((PySem.W.bind_fn X _ (beq_iff_eq.mp hf)).here (wpAny_pure (by exact fin)))
  · exact wpAny_tryCatch (wpAny_bind ((PySem.W.bind_fn X _ (beq_iff_eq.mp hf)).here (wpAny_pure (by exact fin))))
theorem reprUnder_K {M : Model} {b : Nat} {Q : Str → Shared → Prop} (hb : b ≤ sizeLine) (hu : A.units < cLine) (X : K.In s.heap) (I : PySem.W.InstAt s.heap x ox C od) (hs : PySem.W.findIn K (.ref C) "__repr__" = some (some (.ref f))) (hf : PySem.W.isFn K (.ref f) = true)
    (h : wpAny M A (call (.ref f) [.ref x]) (fun v s' => ∃ t u, v = .str t u ∧ Q t s') E s) : wpAny M A (pyReprUnder b (.ref x)) Q E s := by
  refine wpAny_pyReprUnder_ref hb ?_
  unfold pyReprObjUnder pyReprObjBy
  refine wpAny_bind (wpAny_cRoomFor hu ?_)
  refine wpAny_bind (wpAny_bind (I.type.here ((PySem.W.looks_findIn X hs).here ?_)))
  show wpAny _ _ (if (some (Value.ref f)).isNone = true then _ else _) _ _ _
  rw [if_neg (by simp)]
  refine wpAny_bind (ifBoundBy_K (name := Str.ofString "__repr__") X I hs hf ?_)
  show wpAny _ _ (call (.ref f) ([.ref x] ++ [])) _ _ _
  refine wpAny_mono h (fun v s' hv => ?_) fun _ _ y => y
  obtain ⟨t, u, rfl, hq⟩ := hv
  exact wpAny_bind (wpAny_isInstance (T := "str") (b := true) rfl isSubtype_str_str (wpAny_pure ⟨t, u, rfl, hq⟩))
end
theorem strs_of : ∀ (ts : List Str) (us : List Value), Vals (ts.map V.str) us → ∃ done : List (Str × Tok), us = strValues done ∧ done.map (·.1) = ts
  | [], us, r => by cases r; exact ⟨[], rfl, rfl⟩
  | t :: ts, us, r => by
    cases r with
    | cons r1 r2 =>
      obtain ⟨k, rfl⟩ := r1
      obtain ⟨done, e1, e2⟩ := strs_of ts _ r2
      exact ⟨(t, k) :: done, by rw [e1]; rfl, by rw [List.map_cons, e2]⟩
theorem loop_frames (A : Around) (args : Args) : (A.under (.builtin "list.__repr__.loop" args)).frames = A.frames := by
  first | rfl | simp [Around.under, Code.envs, pushEnvs]
theorem loop_depth (A : Around) (args : Args) : (A.under (.builtin "list.__repr__.loop" args)).depth ≤ A.depth + 1 := by
  show A.depth + Code.weight (.builtin "list.__repr__.loop" args) ≤ _
  simp [Code.weight, Code.isCreation, Code.isGuard, Code.isCaller, Code.frames, Code.isFrame, guardIds]

section
variable {X : Cx} {pins : List (Addr × Obj)} {σ : L2.St} {c fld pre suf : Str} {k : Nat}
theorem runR {A : Around} {g : List Code} {H : Hp} {s : Shared} {f : Addr} {fd : FuncData} {a : Addr} {t : Str} {Q : Str → Shared → Prop} {E' : Value → Shared → Prop} (F : FnOkK X.prog X.w X.K X.mg X.base (L2N.CX X.prog X.w) k f fd ["self"] (spR X.K c fld pre suf)) (bi : Binds X.K fd ["self"] []) (hr : Room k A) (hf : A.frames = X.A.frames) (hg : A.guards = some g) (hG : GdOk H g)
    (I : Inv X pins σ H s) (hy : Rp1 X.K c fld pre suf H (.ref a) t) (h : ∀ H' s', LeH H H' → Inv X pins σ H' s' → Q t s') : wpAny (model X.prog X.w) A (call (.ref f) [.ref a]) (fun v s' => ∃ t u, v = .str t u ∧ Q t s') E' s := by
  have b := bi s [.ref a] I.kIn rfl
  rw [List.append_nil] at b
  have e0 := I.env0
  have env : Env0 X.prog X.w X.K X.mg X.base A X.stack s H := ⟨hf.trans e0.frames, e0.mod, e0.bs, e0.bsz, e0.funs, e0.frf, e0.hok, e0.bare⟩
  refine wpAny_call (codeAny_mono (F.run A g X.stack s H ⟨[.ref a], []⟩ [.ref a] [.ref a] (fun v H' => v = .str t ∧ LeH H H') (fun _ _ _ => False) hr hg hG env b (.cons rfl .nil) ⟨.ref a, t, rfl, hy, fun H' l => ⟨rfl, l⟩⟩) fun out s' q => ?_)
  match out, q with
  | .error er, q =>
    obtain ⟨_, _, _, _, _, _, _, _, _, _, _, _, z⟩ := q
    exact z.elim
  | .ok (.ret u), q =>
    obtain ⟨v, H', I', rv, ev, l⟩ := I.after q
    subst ev
    obtain ⟨tk, rfl⟩ := rv
    exact ⟨t, tk, rfl, h H' s' l I'⟩
  | .ok .next, q => exact q.elim
  | .ok .brk, q => exact q.elim
  | .ok .cont, q => exact q.elim
theorem loopR {A : Around} {g : List Code} {H0 : Hp} {a P : Addr} {ys : List V} {ts : List Str} {R : Result → Shared → Prop} (G : RpG X.prog X.w X.K X.mg X.base c fld pre suf k) (hr : Room (k + 1) A) (hf : A.frames = X.A.frames) (hg : A.guards = some g) (hG : GdOk H0 g)
    (ha : H0 a = some (.lst ys)) (hP : H0 P = none) (hlen : ts.length = ys.length) (hT : ∀ (i : Nat) (y : V), ys[i]? = some y → ∃ t, ts[i]? = some t ∧ Rp1 X.K c fld pre suf H0 y t) (hsz : (listText ts).length ≤ sizeLine) :
    ∀ (n i : Nat) (s : Shared) (H : Hp), ys.length - i = n → i ≤ ys.length → Inv X pins σ H s → LeH H0 H → H P = some (.lst ((ts.take i).map V.str)) →
    (∀ H' s' u, Inv X pins σ H' s' → LeH H0 H' → R (.ok (.ret (.str (listText ts) u))) s') →
    codeAny (model X.prog X.w) A (.builtin "list.__repr__.loop" ⟨[.ref a, rawInt i, .ref P, rawInt ((0 + piled (ts.take i) : Nat) : Int)], []⟩) R s := by
  obtain ⟨f, fd, hs, hfn, ok, bi⟩ := G.ex
  have hX : (listText ts).length = (textFrom 0 "[" ts).length + 1 := by
    show (textFrom 0 "[" ts ++ "]").length = _
    rw [strLen_append]; rfl
  have hL := textFrom_len ts 0 "["
  have hsz2 : ∀ t ∈ ts, t.length ≤ sizeLine := fun t ht => by
    have h2 := hL.2.1 t ht
    omega
  have hsz1 : ts.length ≤ sizeLine := by
    have h1 := hL.1
    rw [if_neg (Nat.lt_irrefl 0)] at h1
    omega
  have hp3 := piled_le_listText ts
  have hneP : a ≠ P := fun e => by rw [e, hP] at ha; cases ha
  intro n
  induction n with
  | zero =>
    intro i s H hk hi I l hPi hR
    have hin : i = ys.length := by omega
    obtain ⟨_, ia, na, ra, oa⟩ := I.hok a _ (l _ _ ha)
    obtain ⟨_, ip, np, rp, op⟩ := I.hok P _ hPi
    refine codeAny_builtin F.entry_list_repr_loop ?_
    show wpAny _ _ (Builtin.«list.__repr__.loop» ⟨[.ref a, .int i 0, .ref P, .int ((0 + piled (ts.take i) : Nat) : Int) 0], []⟩) _ _ s
    rw [PySem.repr_loop_tree]
    refine wpAny_bind (wpAny_listItems oa rfl ?_)
    have hnone : (ia.toArray)[(i : Int).toNat]? = none := by
      have := ra.length
      simp [hin, ← this]
    simp only [hnone]
    unfold PySem.reprEnd
    refine wpAny_bind (wpAny_listItems op rfl ?_)
    obtain ⟨done, e1, e2⟩ := strs_of _ _ rp
    have e3 : ip.toArray.toList = strValues done := by simpa using e1
    rw [e3, PySem.repr_fold]
    refine wpAny_bind (wpAny_pure ?_)
    have hall : done.map (·.1) = ts := by rw [e2, hin, ← hlen, List.take_length]
    rw [hall]
    refine wpAny_bind (wpAny_mkStr (wpAny_pure ?_) hsz)
    exact hR H _ _ (I.tok _) l
  | succ n ih =>
    intro i s H hk hi I l hPi hR
    have hlt : i < ys.length := by omega
    obtain ⟨t, ht, hy⟩ := hT i ys[i] (by simp [hlt])
    have hp1 := piled_take_succ ht
    have hp2 := piled_take_le ts (i + 1)
    obtain ⟨_, ia, na, ra, oa⟩ := I.hok a _ (l _ _ ha)
    obtain ⟨ui, hui, rui⟩ := ra.get (i := i) (x := ys[i]) (by simp [hlt])
    obtain ⟨b, dx, fs, tt, ws, ps, h1, h2, hrest⟩ := hy
    have hy : Rp1 X.K c fld pre suf H0 (.ref b) t := ⟨b, dx, fs, tt, ws, ps, rfl, h2, hrest⟩
    rw [h1] at rui
    obtain rfl : ui = Value.ref b := rui
    refine codeAny_builtin F.entry_list_repr_loop ?_
    show wpAny _ _ (Builtin.«list.__repr__.loop» ⟨[.ref a, .int i 0, .ref P, .int ((0 + piled (ts.take i) : Nat) : Int) 0], []⟩) _ _ s
    rw [PySem.repr_loop_tree]
    refine wpAny_bind (wpAny_listItems oa rfl ?_)
    have hsome : (ia.toArray)[(i : Int).toNat]? = some (Value.ref b) := by simpa using hui
    simp only [hsome]
    rw [Int.toNat_natCast]
    obtain ⟨mA, O, _⟩ := ins_get I.hok (l _ _ h2)
    obtain ⟨od, J, _⟩ := O.look
    have hbad : Bad H0 a := by
      obtain ⟨y0, e0⟩ : ∃ y0, ys[0]? = some y0 := ⟨_, List.getElem?_eq_getElem (by omega)⟩
      obtain ⟨t0, _, b0, dx0, fs0, tt0, ws0, ps0, z1, z2, _⟩ := hT 0 y0 e0
      cases ys with
      | nil => cases e0
      | cons y1 yr =>
        have e0' : y1 = y0 := by simpa using e0
        rw [z1] at e0'
        subst e0'
        exact ⟨b0, yr, _, dx0, fs0, ha, z2⟩
    have hun := hr.units
    have room2 : Room k (A.under (.builtin "list.__repr__.loop" ⟨[.ref a, rawInt i, .ref P, rawInt ((0 + piled (ts.take i) : Nat) : Int)], []⟩)) :=
      ⟨hr.hd, by have h1 := hr.dp; have h2 := loop_depth A ⟨[.ref a, rawInt i, .ref P, rawInt ((0 + piled (ts.take i) : Nat) : Int)], []⟩; omega, by have h1 := hr.un; rw [units_under_list_loop]; omega⟩
    refine wpAny_bind (wpAny_holding (reprUnder_K (by omega) (by rw [units_under_list_loop]; omega) I.kIn J hs hfn (runR ok bi room2 ((loop_frames _ _).trans hf) (guards_under_guard (isGuard_list_loop _) hg)
      (fun id v rest kw hm => ?_) I (hy.up l) fun H1 s1 l1 I1 => ?_)))
    · rcases List.mem_cons.mp hm with e | hm
      · cases e
        exact ⟨a, rfl, hbad.up l⟩
      · exact (hG.up l) _ _ _ _ hm
    · refine wpAny_bind (wpAny_mkStr ?_ (hsz2 t (List.mem_of_getElem? ht)))
      refine wpAny_bind ?_
      show wpAny _ _ (updateSeq P _) _ _ _
      have hP1 : H1 P = some (.lst ((ts.take i).map V.str)) := l1 _ _ hPi
      obtain ⟨zP, ip, np, rp, op⟩ := I1.hok P _ hP1
      have lenp := rp.length
      have e4 : ((ts.take i).map V.str).length ≤ i := by rw [List.length_map, List.length_take]; omega
      refine wpAny_updateSeq (s := { s1 with toks := s1.toks + 1 }) op rfl (wpAny_pure ⟨F.quiet_list_repr_loop _, ?_⟩) (by simp only [List.size_toArray]; omega)
      have e1 : ((i : Int) + 1) = ((i + 1 : Nat) : Int) := by omega
      have e2 : 0 + piled (ts.take i) + (t.length + 2) = 0 + piled (ts.take (i + 1)) := by omega
      rw [e1, e2]
      have e5 : (ts.take (i + 1)).map V.str = (ts.take i).map V.str ++ [V.str t] := by
        rw [List.take_add_one, ht]
        simp
      refine ih (i + 1) _ (upd H1 P (.lst ((ts.take (i + 1)).map V.str))) (by omega) hlt ?_ (fun b o e => ?_) upd_same hR
      · refine (I1.tok (s1.toks + 1)).write (x := P) (e := P) (by rw [hP1]; trivial) (.inl rfl) (fun b u hb z => (Heap.get?_update_other _ _ (fun h : P = b => hb h.symm)).trans z) ⟨_, Heap.get?_update_self _ op rfl⟩ ?_
        have hu := Heap.get?_update_self (Obj.mapSeq fun x => x.push (Value.str t s1.toks)) op rfl
        have e6 : (ip ++ [Value.str t s1.toks]).toArray = ip.toArray.push (Value.str t s1.toks) := by simp
        refine ⟨?_, ip ++ [Value.str t s1.toks], _, ?_, by rw [e6]; exact hu⟩
        · rw [List.length_map, List.length_take]; omega
        · rw [e5]
          exact rp.append (.cons ⟨_, rfl⟩ .nil)
      · rw [upd_ne (fun z => by rw [z, hP] at e; cases e)]
        exact l1 _ _ (l _ _ e)
/-- repr([x, ..]) -/
def rReprL (K : PySem.W.Frag) (c fld pre suf : Str) : List V → Hp → VK → Prop := fun xs H Q => ∃ a ys ts, xs = [.ref a] ∧ H a = some (.lst ys) ∧ ys ≠ [] ∧ ts.length = ys.length ∧ (∀ (i : Nat) (y : V), ys[i]? = some y → ∃ t, ts[i]? = some t ∧ Rp1 K c fld pre suf H y t) ∧ (listText ts).length ≤ sizeLine ∧
  ∀ H', LeH H H' → Q (.str (listText ts)) H'
theorem call_reprL (G : RpG X.prog X.w X.K X.mg X.base c fld pre suf k) (hr : RoomG (k + 2) X.A) : CallR X (.builtin "repr") (rReprL X.K c fld pre suf) := by
  intro pins s σ H xs us Q I rv h
  obtain ⟨a, ys, ts, ex, ha, hne, hlen, hT, hsz, q⟩ := h
  subst ex
  obtain ⟨u, rfl, ru⟩ := vals1 rv
  obtain rfl : u = Value.ref a := ru
  obtain ⟨hz, ia, na, ra, oa⟩ := I.hok a _ ha
  have hun := hr.units
  have hTy : s.TypeIs (.ref a) "list" := ⟨_, oa, rfl⟩
  refine call_repr_slot (by omega) hTy F.slot_list_repr.toG ?_
  refine wpAny_call (codeAny_call_builtin F.slot_list_repr.plain F.entry_list_repr (F.slot_list_repr.check _ _ _ _ _ _ _ _ hTy (F.args_list_repr_1 _) ?_))
  cases ia with
  | nil =>
    have := ra.length
    cases ys with
    | nil => exact absurd rfl hne
    | cons y yr => cases this
  | cons x l =>
    refine wpAny_list_repr_head (A := X.A.in1.in1) (g := []) hr.gd (fun v rest kw hm => nomatch hm) oa rfl ?_
    refine wpAny_bind (m := newList []) (wpAny_newObj_type ?_)
    refine wpAny_pure ⟨F.quiet_list_repr_loop _, ?_⟩
    have hfr : H s.heap.objs.size = none := I.hok.fresh (Nat.le_refl _)
    have I2 : Inv X pins σ (upd H s.heap.objs.size (.lst [])) { s with heap := s.heap.push { cls := .type "list", dict := none, data := .seq #[] 0, slots := #[] } } :=
      I.laid (t' := s.toks) (fun b o e => Heap.get?_push_of_some _ e) (Nat.le_refl _) ⟨Nat.zero_le _, [], 0, .nil, Heap.get?_push_size _ rfl⟩
    have room1 : Room (k + 1) X.A.in1 := hr.toRoom.in1
    exact loopR (X := X) (A := X.A.in1) (g := []) (H0 := H) (P := s.heap.objs.size) G room1 rfl hr.gd gd_nil ha hfr hlen hT hsz _ 0 _ _ rfl (Nat.zero_le _) I2 (LeH.upd hfr) upd_same fun H' s' u I' l => ⟨_, _, rfl, .str _, H', I', ⟨_, rfl⟩, q H' l⟩
/-! ### its denotation -/
def objT (c fld pre suf : Str) : D → Option Str
  | .obj c' fs => if c' = c then match fs.lookup fld with
      | some (.tup xs) => match toPLg (fun _ => none) xs with
        | some ps => if okRep (.list ps) = true ∧ (Str.empty ++ pre ++ (PyData.list ps).shown).length ≤ 100000 ∧ (Str.empty ++ pre ++ (PyData.list ps).shown ++ suf).length ≤ 100000 then some (Str.empty ++ pre ++ (PyData.list ps).shown ++ suf) else none
        | none => none
      | _ => none
    else none
  | _ => none
def objTs (c fld pre suf : Str) : List D → Option (List Str)
  | [] => some []
  | d :: ds => match objT c fld pre suf d with
    | none => none
    | some t => match objTs c fld pre suf ds with
      | none => none
      | some ts => some (t :: ts)
def dReprL (c fld pre suf : Str) : OpA := op1 fun d Ω => match d with
  | .lst xs => match objTs c fld pre suf xs with
    | some ts => if xs ≠ [] ∧ (listText ts).length ≤ 100000 then some (.ok (.str (listText ts)), Ω) else none
    | none => none
  | _ => none
end
section
variable {K : PySem.W.Frag} {m : Mp} {Ω : Om} {H H' : Hp} {c fld pre suf : Str}
theorem Go.up (cc : CellsOk K m Ω H) (l : LeH H H') : Go K m Ω H m Ω H' := by
  have g : Gw K m Ω H m Ω H' := ⟨fun _ _ h => h, fun a o h _ => l a o h, fun _ _ _ h => h⟩
  refine ⟨g, ⟨cc.len, cc.nd, fun n x a h1 h2 => CellOk.go g cc x (cc.at_ n x a h1 h2) (fun o h => l a o h), fun a h => ?_⟩, fun a o _ h => l a o h, fun _ h => h⟩
  obtain ⟨⟨vs, h1⟩, h2⟩ := cc.hl a h
  exact ⟨⟨vs, l _ _ h1⟩, h2⟩
theorem objT_ok (cc : CellsOk K m Ω H) {d : D} {v : V} {t : Str} (r : Rl K m Ω H d v) (h : objT c fld pre suf d = some t) : Rp1 K c fld pre suf H v t := by
  unfold objT at h
  cases d with
  | obj c' fs =>
    dsimp only at h
    unfold Rl at r
    obtain ⟨a, dx, gs, ev, h1, _, h2⟩ := r
    by_cases hc : c' = c
    · rw [if_pos hc] at h
      subst hc
      rcases h2.lookup (f := fld) with ⟨d, v, z1, z2, z3⟩ | ⟨z1, z2⟩
      · rw [z1] at h
        cases d with
        | tup xs =>
          dsimp only at h
          cases e : toPLg (fun _ => none) xs with
          | none => rw [e] at h; cases h
          | some ps =>
            rw [e] at h
            dsimp only at h
            by_cases hk : okRep (.list ps) = true ∧ (Str.empty ++ pre ++ (PyData.list ps).shown).length ≤ 100000 ∧ (Str.empty ++ pre ++ (PyData.list ps).shown ++ suf).length ≤ 100000
            · rw [if_pos hk] at h
              unfold Rl at z3
              obtain ⟨b, ws, ev2, k1, k2⟩ := z3
              subst ev2
              cases h
              exact ⟨a, dx, gs, b, ws, ps, ev, h1, z2, k1.sq, toPLg_ok cc (fun n p v _ e => by cases e) xs ws ps k2 e, hk.1, sz hk.2.1, rfl, sz hk.2.2⟩
            · rw [if_neg hk] at h; cases h
        | _ => cases h
      · rw [z1] at h; cases h
    · rw [if_neg hc] at h; cases h
  | _ => cases h
theorem objTs_ok (cc : CellsOk K m Ω H) : ∀ {ds : List D} {vs : List V} {ts : List Str}, RlL K m Ω H ds vs → objTs c fld pre suf ds = some ts → ts.length = vs.length ∧ ∀ (i : Nat) (y : V), vs[i]? = some y → ∃ t, ts[i]? = some t ∧ Rp1 K c fld pre suf H y t
  | [], vs, ts, r, h => by
    unfold RlL at r
    unfold objTs at h
    cases h
    subst r
    exact ⟨rfl, fun i y e => by simp at e⟩
  | d :: ds, vs, ts, r, h => by
    unfold RlL at r
    obtain ⟨v, w, ev, r1, r2⟩ := r
    unfold objTs at h
    cases e1 : objT c fld pre suf d with
    | none => rw [e1] at h; cases h
    | some t =>
      rw [e1] at h
      dsimp only at h
      cases e2 : objTs c fld pre suf ds with
      | none => rw [e2] at h; cases h
      | some ts' =>
        rw [e2] at h
        cases h
        subst ev
        obtain ⟨k1, k2⟩ := objTs_ok cc r2 e2
        refine ⟨by simp [k1], fun i y e => ?_⟩
        cases i with
        | zero =>
          have e' : v = y := by simpa using e
          subst e'
          exact ⟨t, rfl, objT_ok cc r1 e1⟩
        | succ i => simpa using k2 i y (by simpa using e)
theorem cd_reprL : CallD K (dReprL c fld pre suf) (rReprL K c fld pre suf) := by
  intro E m Ω H ds vs Q cc r q
  obtain ⟨d, v, ed, ev, h, q1⟩ := op1_of r q
  clear q
  have q := q1
  clear q1
  subst ed ev
  cases d with
  | lst xs =>
    dsimp only at q
    cases e1 : objTs c fld pre suf xs with
    | none => rw [e1] at q; exact q.elim
    | some ts =>
      rw [e1] at q
      obtain ⟨⟨hne, hl⟩, q⟩ := Af.guard q
      unfold Rl at h
      obtain ⟨a, ws, ev, h1, _, h2⟩ := h
      subst ev
      obtain ⟨k1, k2⟩ := objTs_ok cc h2 e1
      refine ⟨a, ws, ts, rfl, h1, fun e => ?_, k1, k2, sz hl, fun H' l => q m _ H' (Go.up cc l) (by unfold Rl; rfl)⟩
      subst e
      have := h2.length
      exact hne (List.length_eq_zero_iff.mp this)
  | _ => exact q.elim
end
theorem de_reprL {X : Cx} {E : L2.St → XK} {e : Expr} {r : Den (List D)} {pos p : Pos} {c fld pre suf : Str} {k : Nat} (G : RpG X.prog X.w X.K X.mg X.base c fld pre suf k) (hr : RoomG (k + 2) X.A) (hg : X.mg "repr" = none) (ha : DA X E [e] r) (hl : Gl X "repr" := by rfl)
    (he : starEach [e] X.env = (false, eval e X.env) :: starEach [] X.env := by rfl) (hpl : (backTo pos (starEach [] X.env)).any (·.1) = false := by rfl) : DE X E (.Call (.Name "repr" p) [e] [] pos) (fCB (dReprL c fld pre suf) r) :=
  de_callB (call_reprL G hr) cd_reprL hg bt_repr ha (hg := hl) (he := he) (hpl := hpl)
end Dn


set_option Elab.async false
set_option linter.all false
set_option maxRecDepth 100000
set_option maxHeartbeats 2000000
/-! DnRg: list(range(a, b)); a walk over a dict's keys or a list. -/
namespace Dn
open PySem L2
def dRgL : Op2 := fun x y Ω => match x, y with
  | .int i, .int j => if (-(2 ^ 62) ≤ i ∧ i < 2 ^ 62 ∧ -(2 ^ 62) ≤ j ∧ j < 2 ^ 62) ∧ (j - i).toNat ≤ 100000 then some (.ok (.lst (rangeD i (j - i).toNat)), Ω) else none
  | _, _ => none
def rRgL : R2 := fun x y H Q => ∃ i j, x = .int i ∧ y = .int j ∧ RgOk i j ∧ ∀ q, H q = none → Q (.ref q) (upd H q (.lst (rgV i j)))
theorem rl_rg {K : PySem.W.Frag} {m : Mp} {Ω : Om} {H : Hp} (i : Int) : ∀ l : List Nat, RlL K m Ω H (l.map fun (n : Nat) => D.int (i + (n : Int))) (l.map fun (n : Nat) => V.int (i + (n : Int)))
  | [] => by unfold RlL; rfl
  | n :: l => by
    show RlL K m Ω H (_ :: _) (_ :: _)
    unfold RlL
    exact ⟨_, _, rfl, by unfold Rl; rfl, rl_rg i l⟩
theorem od_rgL {K : PySem.W.Frag} : OpD K dRgL rRgL := by
  intro E m Ω H x y v u Q c rx ry q
  cases x with
  | int i =>
    cases y with
    | int j =>
      obtain ⟨⟨hz, hb⟩, q⟩ := Af.guard q
      unfold Rl at rx ry
      subst rx ry
      refine ⟨i, j, rfl, rfl, ⟨hz.1, hz.2.1, hz.2.2.1, hz.2.2.2, by omega⟩, fun p hp => q m _ _ (Go.new c hp) ?_⟩
      unfold Rl
      exact ⟨p, _, rfl, upd_same, c.freshL hp, rl_rg i _⟩
    | _ => exact q.elim
  | _ => cases y <;> exact q.elim
section
variable {X : Cx} {E : St → XK} {a b e : Expr} {f g : Den D} {p p' pos pos' : Pos}
theorem de_lstRg (hc : X.calm = true) (hm : X.mg "list" = none) (hm' : X.mg "range" = none) (ha : DE X E a f) (hb : DE X E b g) (hg : Gl X "list" := by rfl) (hg' : Gl X "range" := by rfl)
    (na : starEach [a, b] X.env = (false, eval a X.env) :: starEach [b] X.env := by rfl) (nb : starEach [b] X.env = (false, eval b X.env) :: starEach [] X.env := by rfl) (hp : (backTo pos' (starEach [b] X.env)).any (·.1) = false := by rfl)
    (nc : starEach [.Call (.Name "range" p') [a, b] [] pos'] X.env = (false, eval (.Call (.Name "range" p') [a, b] [] pos') X.env) :: starEach [] X.env := by rfl) :
    DE X E (.Call (.Name "list" p) [.Call (.Name "range" p') [a, b] [] pos'] [] pos) (fBin dRgL f g) :=
  PE.mono (pe_listRg hc hg hm (prg_2 hg' hm' ha hb na nb hp) nc) fun σ H Q h => op_of od_rgL h
theorem de_case {f1 f2 : Den D} (h1 : DE X E e f1) (h2 : DE X E e f2) (hc : ∀ Γ Ω, f Γ Ω = f1 Γ Ω ∨ f Γ Ω = f2 Γ Ω) : DE X E e f :=
  ⟨fun pins s σ H Q I ⟨m, Γ, Ω, s', h⟩ => (hc Γ Ω).elim (fun z => h1.run pins s σ H Q I ⟨m, Γ, Ω, s', z ▸ h⟩) fun z => h2.run pins s σ H Q I ⟨m, Γ, Ω, s', z ▸ h⟩⟩
end
/-- a dict's keys, a list's items -/
def fWalk (i : Nat) : Den (List D) := fun Γ Ω => match Γ[i]? with
  | some (some (.dct _)) => fKeys i Γ Ω
  | _ => fSeq (fVar i) Γ Ω
theorem walk_or (i : Nat) (t : Tg) (ft : Den Bool) (fe : Den D) (vs : List Nat) : ∀ Γ Ω, fLc (fWalk i) t ft fe vs Γ Ω = fLc (fKeys i) t ft fe vs Γ Ω ∨ fLc (fWalk i) t ft fe vs Γ Ω = fLc (fSeq (fVar i)) t ft fe vs Γ Ω := by
  intro Γ Ω
  unfold fLc fWalk
  split
  · exact .inl rfl
  · exact .inr rfl
end Dn


set_option Elab.async false
set_option linter.all false
set_option maxRecDepth 100000
set_option maxHeartbeats 2000000
/-! DnMix: texts put together, repr of one object, x(k = v), {} as data, C(k = v), x == what is none, a constant by the instance, a list that is lent. -/
namespace Dn
open PySem L2
/-! ### texts -/
def dCatS : Op2 := fun x y Ω => match x, y with
  | .str a, .str b => if a.length + b.length ≤ 100000 then some (.ok (.str (a ++ b)), Ω) else none
  | _, _ => none
theorem od_catS {K : PySem.W.Frag} : OpD K dCatS (fun x y H Q => ∃ i j, x = .str i ∧ y = .str j ∧ i.length + j.length ≤ sizeLine ∧ Q (.str (i ++ j)) H) := by
  intro E m Ω H x y v u Q c rx ry q
  cases x with
  | str a =>
    cases y with
    | str b =>
      obtain ⟨hz, q⟩ := Af.guard q
      unfold Rl at rx ry
      subst rx ry
      exact ⟨a, b, rfl, rfl, sz hz, q.now c (by unfold Rl; rfl)⟩
    | _ => exact q.elim
  | _ => cases y <;> exact q.elim
section
variable {X : Cx} {E : St → XK} {a b e : Expr} {f g : Den D} {pos p : Pos}
theorem de_catS (ha : DE X E a f) (hb : DE X E b g) : DE X E (.BinOp a .Add b pos) (fBin dCatS f g) := de_bin op_add_str od_catS ha hb
/-- {} as data -/
theorem de_dlit : DE X E (.Dict [] [] pos) (fC (.dct [])) := PE.mono pe_dnewK fun σ H Q h => by
  obtain ⟨m, Γ, Ω, s, h⟩ := h
  intro p hp
  refine h m _ _ (Go.new s.cells hp) ?_
  unfold Rl
  exact ⟨p, [], rfl, .inl upd_same, s.cells.freshL hp, by unfold RlK; rfl⟩
end
/-! ### repr(x) -/
section
variable {X : Cx} {c fld pre suf : Str} {k : Nat}
def rRepr1 (K : PySem.W.Frag) (c fld pre suf : Str) : List V → Hp → VK → Prop := fun xs H Q => ∃ y t, xs = [y] ∧ Rp1 K c fld pre suf H y t ∧ ∀ H', LeH H H' → Q (.str t) H'
theorem call_repr1 (G : RpG X.prog X.w X.K X.mg X.base c fld pre suf k) (hr : RoomG (k + 1) X.A) : CallR X (.builtin "repr") (rRepr1 X.K c fld pre suf) := by
  intro pins s σ H xs us Q I rv h
  obtain ⟨y, t, ex, hy, q⟩ := h
  subst ex
  have hy0 := hy
  obtain ⟨a, dx, fs, tt, ws, ps, h1, h2, _⟩ := hy
  subst h1
  obtain ⟨u, rfl, ru⟩ := vals1 rv
  obtain rfl : u = Value.ref a := ru
  obtain ⟨f, fd, hs, hf, ok, bi⟩ := G.ex
  obtain ⟨mA, J, _⟩ := ins_get I.hok h2
  obtain ⟨od, J, _⟩ := J.look
  obtain ⟨mm, hF⟩ := I.fr
  have hun := hr.units
  refine PySem.W.repr_K (by show X.A.units + 1 < cLine; omega) hF I.ok.mod.kin J hs hf ?_
  refine wpAny_mono (runR (A := X.A.in1) (g := []) (Q := fun z s' => z = t ∧ ∃ H', LeH H H' ∧ Inv X pins σ H' s') ok bi hr.toRoom.in1 rfl hr.gd gd_nil I hy0 fun H' s' l I' => ⟨rfl, H', l, I'⟩) (fun v s' hv => ?_) fun _ _ z => z
  obtain ⟨z, tk, rfl, rfl, H', l, I'⟩ := hv
  exact ⟨.str z, H', I', ⟨_, rfl⟩, q H' l⟩
def dRepr1 (c fld pre suf : Str) : OpA := op1 fun d Ω => match objT c fld pre suf d with
  | some t => some (.ok (.str t), Ω)
  | none => none
theorem cd_repr1 {K : PySem.W.Frag} : CallD K (dRepr1 c fld pre suf) (rRepr1 K c fld pre suf) := by
  intro E m Ω H ds vs Q cc r q
  obtain ⟨d, v, ed, ev, h, q1⟩ := op1_of r q
  clear q
  have q := q1
  clear q1
  subst ed ev
  cases e1 : objT c fld pre suf d with
  | none => rw [e1] at q; exact q.elim
  | some t =>
    rw [e1] at q
    exact ⟨v, t, rfl, objT_ok cc h e1, fun H' l => q m _ H' (Go.up cc l) (by unfold Rl; rfl)⟩
theorem de_repr1 {E : St → XK} {e : Expr} {r : Den (List D)} {pos p : Pos} (G : RpG X.prog X.w X.K X.mg X.base c fld pre suf k) (hr : RoomG (k + 1) X.A) (hg : X.mg "repr" = none) (ha : DA X E [e] r) (hl : Gl X "repr" := by rfl)
    (he : starEach [e] X.env = (false, eval e X.env) :: starEach [] X.env := by rfl) (hpl : (backTo pos (starEach [] X.env)).any (·.1) = false := by rfl) : DE X E (.Call (.Name "repr" p) [e] [] pos) (fCB (dRepr1 c fld pre suf) r) :=
  de_callB (call_repr1 G hr) cd_repr1 hg bt_repr ha (hg := hl) (he := he) (hpl := hpl)
end
/-! ### x(k = v) -/
theorem callO_kw {M : Model} {A : Around} {E : Value → Shared → Prop} {s : Shared} {a : Addr} {pos : Pos} {Q : Value → Shared → Prop} {args : List (Bool × Sem Value)} {kws : List (Option Str × Sem Value)} (hplain : (args.any (·.1) || kws.any (·.1.isNone)) = false)
    (h : wpAny M A (evalArgs (.ref a) true args kws) (fun z s₁ => (∃ C ox od, PySem.W.InstAt s₁.heap a ox C od ∧ ox.data = .plain) ∧ wpAny M A (call (.ref a) ([] ++ z.pos) z.kw) Q E s₁) E s) : wpAny M A (callWith pos (.ref a) [] args kws) Q E s := by
  unfold callWith
  refine wpAny_bind (wpAny_holding (wpAny_mono h (fun z s₁ h₁ => wpAny_bind (wpAny_standAt ?_)) fun _ _ y => y))
  obtain ⟨⟨C, ox, od, J, hd⟩, h₁⟩ := h₁
  have L := PySem.W.kco_keeper (M := M) J hd
  simp only [hplain]
  refine wpAny_bind (L.here ?_)
  have tail : ∀ {t : Sem Value}, wpAny M A t Q E s₁ → wpAny M A (t >>= fun r => holding [r] point >>= fun _ => pure r) Q E s₁ :=
    fun ht => wpAny_bind (wpAny_mono ht (fun r s₂ hr => wpAny_bind (wpAny_holding (wpAny_point (wpAny_pure hr)))) fun _ _ y => y)
  exact tail (wpAny_operateT h₁)
structure ClK (P : Program) (w : World) (K : PySem.W.Frag) (mg : Str → Option Value) (base : Heap) (c : Str) (ps ks : List Str) (ix : List Nat) (k : Nat) (F : FD) : Prop where
  ex : ∃ f fd, StX.CallO K (cad K c) f ∧ FnOkG P w K mg base (L2N.CX P w) k f fd ps (spD K ps.length F) ∧ KwB K fd ps 1 ks ix
def fCallOK (c : Str) (n l : Nat) (ix : List Nat) (F : FD) (fo : Den D) (r : Den (List D)) : Den D := bnd fo fun x Γ Ω => match x with
  | .obj c' fs => if c' = c then bR (r Γ Ω) fun ds Ω1 => if ds.length = l ∧ (reord ix (x :: ds)).length = n then okO (F (reord ix (x :: ds)) Ω1) else none else none
  | _ => none
section
variable {X : Cx} {E : St → XK} {fe : Expr} {kws : List Keyword} {fo : Den D} {r : Den (List D)} {pos : Pos} {c : Str} {ps ks : List Str} {ix : List Nat} {k n l : Nat} {F : FD}
theorem de_callOK (G : ClK X.prog X.w X.K X.mg X.base c ps ks ix k F) (hr : RoomG k X.A) (hf : DE X E fe fo) (ha : DK X E kws r) (hn : ps.length = n := by rfl) (hl : ks.length = l := by rfl)
    (hall : (backToKw pos (keywordEach kws X.env)).all (·.1.isSome) = true := by rfl) (hks : (backToKw pos (keywordEach kws X.env)).filterMap (·.1) = ks := by rfl)
    (hpl : ((backTo pos (starEach [] X.env)).any (·.1) || (backToKw pos (keywordEach kws X.env)).any (·.1.isNone)) = false := by rfl)
    (ht : eval (.Call fe [] kws pos) X.env = (do callWith pos (← eval fe X.env) [] (backTo pos (starEach [] X.env)) (backToKw pos (keywordEach kws X.env))) := by rfl) : DE X E (.Call fe [] kws pos) (fCallOK c n l ix F fo r) := by
  subst hn hl
  obtain ⟨f, fd, co, ok, bi⟩ := G.ex
  refine ⟨fun pins s σ H Q I h => ?_⟩
  have h2 : tD X.K E fo σ H fun x H1 => ∃ a, x = .ref a ∧ tDA X.K E r σ H1 fun vs H2 => (∃ dx fs, H2 a = some (.ins (cad X.K c) dx fs)) ∧ vs.length = ks.length ∧ spD X.K ps.length F (reord ix (.ref a :: vs)) H2 Q fun _ _ _ => False := by
    obtain ⟨m, Γ, Ω, s, h⟩ := h
    refine ⟨m, Γ, Ω, s, (Af.bind (R := Rl X.K) h).imp fun _ _ _ _ _ _ _ _ ⟨m1, Ω1, x, g1, r1, q⟩ => ?_⟩
    cases x with
    | obj c' fs =>
      have r2 := r1
      unfold Rl at r2
      obtain ⟨a, dx, gs, ev, h1, _⟩ := r2
      dsimp only at q
      obtain ⟨hc, q1⟩ := Af.guard q
      clear q
      subst hc
      refine ⟨a, ev, m1, Γ, Ω1, s.go g1, (Af.bind (R := RlL X.K) q1).imp fun _ _ H2 _ vs _ _ _ ⟨m2, Ω2, ds, g2, r2, q2⟩ => ?_⟩
      have r3 := Rl.go g2.toGw g1.ok _ _ r1
      obtain ⟨⟨hl, hn⟩, q2⟩ := Af.guard q2
      have r4 := r3
      unfold Rl at r4
      obtain ⟨a', dx', gs', ev', h1', _⟩ := r4
      rw [ev] at ev'
      cases ev'
      subst ev
      have rr : RlL X.K m2 Ω2 H2 (D.obj c' fs :: ds) (V.ref a :: vs) := by
        unfold RlL
        exact ⟨_, _, rfl, r3, r2⟩
      exact ⟨⟨dx', gs', h1'⟩, by rw [← r2.length]; exact hl, by rw [← (reord_rl (ix := ix) rr).length]; exact hn, m2, Ω2, _, g2.ok, reord_rl rr, okO_of q2⟩
    | _ => exact q.elim
  rw [ht]
  refine wpAny_bind (thn (hf.run pins s σ H _ I h2) fun u s1 ⟨y, H1, I1, ry, a, ey, q⟩ => ?_)
  subst ey
  obtain rfl : u = Value.ref a := ry
  refine callO_kw hpl (PyProof.Rows.evalArgs_kw2_nil hall (thn (ha.run pos pins s1 σ H1 _ I1 q) fun ws s2 ⟨zs, H2, I2, rz, ⟨dx, fs, hi⟩, l2, q2⟩ => ?_))
  obtain ⟨ox, od, J, hd⟩ := StX.insC_at I2 (.inr ⟨dx, fs, hi⟩)
  refine ⟨⟨_, ox, od, J, hd⟩, ?_⟩
  rw [hks]
  dsimp only [List.nil_append]
  have rr : Vals (reord ix (.ref a :: zs)) (reord ix ([Value.ref a] ++ ws)) := reord_vals (us := .ref a :: ws) (.cons rfl rz)
  refine wpAny_call (PySem.W.kco_code I2.kIn J hd co.at_ co.fn co.fi (codeAny_mono (ok.run X.A X.stack s2 H2 ⟨[.ref a], ks.zip ws⟩ (reord ix ([Value.ref a] ++ ws)) (reord ix (.ref a :: zs)) Q (fun _ _ _ => False) hr I2.env0 (bi.to s2 [.ref a] ws I2.kIn rfl (rz.length.symm.trans l2)) rr q2) fun out s' q => ?_))
  match out, q with
  | .error er, q => exact pass0X pins H2 s2 er s' I2 q
  | .ok (.ret u), q => exact I2.after q
  | .ok .next, q => exact q.elim
  | .ok .brk, q => exact q.elim
  | .ok .cont, q => exact q.elim
end
/-! ### C(k = v) -/
structure MkK (P : Program) (w : World) (K : PySem.W.Frag) (mg : Str → Option Value) (base : Heap) (c : Str) (ps ks : List Str) (ix : List Nat) (k : Nat) (F : FD) : Prop where
  ex : ∃ f fd, Mk K (cad K c) f ∧ mg c = some (.ref (cad K c)) ∧ FnOkG P w K mg base (L2N.CX P w) k f fd ps (spD K ps.length F) ∧ KwB K fd ps 1 ks (0 :: ix.map (· + 1))
def fMakeK (c : Str) (n l : Nat) (ix : List Nat) (F : FD) (r : Den (List D)) : Den D := bnd r fun ds _ Ω => if ds.length = l then mkD c n F (reord ix ds) Ω else none
theorem reord_shift {α : Type} (ix : List Nat) (u : α) (ws : List α) : reord (0 :: ix.map (· + 1)) (u :: ws) = u :: reord ix ws := by
  unfold reord
  rw [List.filterMap_cons]
  have e : (u :: ws)[0]? = some u := rfl
  rw [e]
  dsimp only
  congr 1
  rw [List.filterMap_map]
  rfl
section
variable {X : Cx} {E : St → XK} {kws : List Keyword} {r : Den (List D)} {p pos : Pos} {c : Str} {ps ks : List Str} {ix : List Nat} {k n l : Nat} {F : FD}
theorem de_makeK (G : MkK X.prog X.w X.K X.mg X.base c ps ks ix k F) (hr : RoomG (k + 1) X.A) (hx : ∀ σ, PassesAt (L2N.CX X.prog X.w) X σ (E σ)) (ha : DK X E kws r) (hn : ps.length = n := by rfl) (hl : ks.length = l := by rfl) (hg : Gl X c := by rfl)
    (hdb : (c == ("__debug__" : Str)) = false := by decide) (hall : (backToKw pos (keywordEach kws X.env)).all (·.1.isSome) = true := by rfl) (hks : (backToKw pos (keywordEach kws X.env)).filterMap (·.1) = ks := by rfl)
    (hpl : ((backTo pos (starEach [] X.env)).any (·.1) || (backToKw pos (keywordEach kws X.env)).any (·.1.isNone)) = false := by rfl) : DE X E (.Call (.Name c p) [] kws pos) (fMakeK c n l ix F r) := by
  subst hn hl
  obtain ⟨f, fd, M, hm, ok, bi⟩ := G.ex
  refine ⟨fun pins s0 σ H0 Q I0 h => ?_⟩
  refine wpAny_Call_Name_kw (ld_glob I0 hg hm ?_ hdb)
  obtain ⟨m, Γ, Ω, s', h⟩ := h
  have h2 : tDA X.K E r σ H0 fun vs H1 => vs.length = ks.length ∧ ∀ x dx, H1 x = none → H1 dx = none → dx ≠ x → spD X.K ps.length F (.ref x :: reord ix vs) (upd (upd H1 dx (.own x)) x (.ins (cad X.K c) dx [])) (fun v H2 => v = .non ∧ Q (.ref x) H2) (E σ) :=
    ⟨m, Γ, Ω, s', (Af.bind (R := RlL X.K) h).imp fun _ _ _ _ _ _ _ _ ⟨m1, Ω1, ds, g1, r1, q⟩ => by
      obtain ⟨hl, q⟩ := Af.guard q
      exact ⟨by rw [← r1.length]; exact hl, make_of g1.ok (reord_rl r1) q⟩⟩
  refine PySem.W.callWith_KW0 (first := []) (h₀ := X.base) I0.ok.mod.kin M.kp hall (thn (ha.run pos pins s0 σ H0 _ I0 h2) fun us s ⟨vs, H, I, rv, l2, q⟩ => ⟨I.kIn, ?_⟩) hpl
  rw [hks, List.append_nil]
  have hq := q (s.heap.objs.size + 1) s.heap.objs.size (I.hok.fresh (Nat.le_succ _)) (I.hok.fresh (Nat.le_refl _)) (Nat.ne_of_lt (Nat.lt_succ_self _))
  have I2 := Inv.made (C := cad X.K c) I
  have r2 : Vals (V.ref (s.heap.objs.size + 1) :: reord ix vs) (Value.ref (s.heap.objs.size + 1) :: reord ix us) := .cons rfl (reord_vals rv)
  have b := bi.to { s with heap := (s.heap.push PySem.W.emptyDict).push (PySem.W.instObj (cad X.K c) s.heap.objs.size) } [Value.ref (s.heap.objs.size + 1)] us I2.kIn rfl (rv.length.symm.trans l2)
  rw [List.singleton_append, reord_shift] at b
  refine wpAny_call (make_map (f := f) I.kIn M.makes M.init (beq_iff_eq.mp M.fn) (codeAny_mono (ok.run _ X.stack _ _ ⟨[Value.ref (s.heap.objs.size + 1)], ks.zip us⟩ (Value.ref (s.heap.objs.size + 1) :: reord ix us) _ _ (E σ) (hr.make (cad X.K c) [] (ks.zip us))
    (I2.env0.make (cad X.K c) [] (ks.zip us)) b r2 hq) fun r s' hq' => ?_))
  cases r with
  | error e => exact hx σ pins _ _ e s' I2 hq'
  | ok fl =>
    cases fl with
    | ret u =>
      obtain ⟨v, H', I3, rv, ev, q3⟩ := I2.after hq'
      subst ev
      exact ⟨rv, ⟨V.ref (s.heap.objs.size + 1), H', I3, rfl, q3⟩⟩
    | next => exact False.elim hq'
    | brk => exact False.elim hq'
    | cont => exact False.elim hq'
end
/-! ### x == y, y no instance of the class -/
structure NotF (K : PySem.W.Frag) (c : Str) : Prop where
  nf : ∀ t ∈ tys, PySem.W.notFirst K (cad K c) (.type t) = true
def dOwnX (c : Str) (n : Nat) (F : FD) : Op2 := fun x y Ω => match asO c Ω x with
  | some _ => match tyD Ω y with
    | some _ => if [x, y].length = n then match F [x, y] Ω with
      | some (.ok d, Ω') => match d with
        | .bl b => some (.ok (.bl b), Ω')
        | _ => none
      | _ => none
      else none
    | none => none
  | none => none
def rOwnX (K : PySem.W.Frag) (c : Str) (n : Nat) (F : FD) : R2 := fun x y H Q => ∃ a dx fs t, x = .ref a ∧ H a = some (.ins (cad K c) dx fs) ∧ TyX K H y (.type t) ∧ t ∈ tys ∧ spD K n F [x, y] H (fun v H' => (∃ b, v = .bl b) ∧ Q v H') fun _ _ _ => False
section
variable {X : Cx} {E : St → XK} {a b : Expr} {f g : Den D} {pos : Pos} {c : Str} {ps : List Str} {k n : Nat} {F : FD}
theorem op_ownX (G : OwnG X.prog X.w X.K X.mg X.base c "__eq__" ps k F) (N : NotF X.K c) (hr : RoomG k X.A) : OpR X (compareOp .Eq) (rOwnX X.K c ps.length F) := by
  intro pins s σ H x y v u Q I rx ry h
  obtain ⟨a, dx, fs, t, ex, ha, ty, ht, sp⟩ := h
  subst ex
  obtain rfl : v = Value.ref a := rx
  obtain ⟨f, fd, hs, hf, ok, bi⟩ := G.ex
  obtain ⟨mA, J, _⟩ := ins_get I.hok ha
  obtain ⟨od, J, _⟩ := J.look
  obtain ⟨mm, hF⟩ := I.fr
  obtain ⟨P, kit, hP, _⟩ := kit_of I ry ty
  show wpAny (model X.prog X.w) X.A (richCompare .Eq (.ref a) u) (EP X pins σ Q) X.xe s
  refine PySem.W.cmp_K (op := .Eq) (tb := .type t) hr.units0 hF I.ok.mod.kin J (kit.ty _ _ I.kIn hP) (N.nf t ht) hs hf ?_
  refine thn (run_fnG (E := fun _ => fun _ _ _ => False) (us := [.ref a, u]) (vs := [.ref a, y]) ok hr bi (fun pins H s e s' I h => by
    obtain ⟨_, _, _, _, _, _, _, _, _, _, _, _, z⟩ := h
    exact z.elim) I (.cons rfl (.cons ry .nil)) sp) fun w s' ⟨z, H', I', rz, ⟨b', eb⟩, q⟩ => ?_
  subst eb
  cases rz
  exact ⟨.bl b', H', I', rfl, q⟩
theorem od_ownX : OpD X.K (dOwnX c ps.length F) (rOwnX X.K c ps.length F) := by
  intro E m Ω H x y v u Q cc rx ry q
  unfold dOwnX at q
  cases e1 : asO c Ω x with
  | none => rw [e1] at q; exact q.elim
  | some fs =>
    rw [e1] at q
    dsimp only at q
    cases e2 : tyD Ω y with
    | none => rw [e2] at q; exact q.elim
    | some t =>
      rw [e2] at q
      obtain ⟨hl, q⟩ := Af.guard q
      obtain ⟨a, dx, us, ea, h1, _⟩ := asO_ok cc rx e1
      obtain ⟨h2, h3⟩ := tyD_ok cc ry e2
      refine ⟨a, dx, us, t, ea, h1, h2, h3, hl, m, Ω, [x, y], cc, rlL_2 rx ry, ?_⟩
      cases e3 : F [x, y] Ω with
      | none => rw [e3] at q; exact q
      | some z =>
        obtain ⟨r, Ω'⟩ := z
        rw [e3] at q
        cases r with
        | ex e => exact q.elim
        | ok d =>
          cases d with
          | bl bb =>
            intro m' v' H' g r
            have r0 := r
            unfold Rl at r
            exact ⟨⟨bb, r⟩, q m' v' H' g r0⟩
          | _ => exact q.elim
theorem de_ownX (G : OwnG X.prog X.w X.K X.mg X.base c "__eq__" ps k F) (N : NotF X.K c) (hr : RoomG k X.A) (ha : DE X E a f) (hb : DE X E b g) (hn : ps.length = n := by rfl) : DE X E (.Compare a [.Eq] [b] pos) (fBin (dOwnX c n F) f g) := by
  subst hn
  exact de_cmp (op_ownX G N hr) (od_ownX (X := X)) ha hb (nomark _)
theorem dt_ownX (G : OwnG X.prog X.w X.K X.mg X.base c "__eq__" ps k F) (N : NotF X.K c) (hr : RoomG k X.A) (ha : DE X E a f) (hb : DE X E b g) (hn : ps.length = n := by rfl) : DT X E (.Compare a [.Eq] [b] pos) (fT (fBin (dOwnX c n F) f g)) := by
  subst hn
  exact dt_cmp (op_ownX G N hr) (od_ownX (X := X)) ha hb (nomark _)
end
def nfB (c : Str) (K : PySem.W.Frag) : Bool := tys.all fun t => PySem.W.notFirst K (cad K c) (.type t)
theorem nfB_ok {c : Str} {K : PySem.W.Frag} (h : nfB c K = true) : NotF K c := ⟨fun t ht => List.all_eq_true.mp h t ht⟩
/-! ### a constant of the class, by the instance -/
def ConE (K : PySem.W.Frag) (c f : Str) (i : Int) : Prop := ∃ u, Con K (cad K c) f (.int i) u
def dConO (c f : Str) (i : Int) : Op1 := fun x Ω => match asO c Ω x with
  | some fs => match fs.lookup f with
    | some _ => none
    | none => some (.ok (.int i), Ω)
  | none => none
theorem de_conO {X : Cx} {E : St → XK} {e : Expr} {fo : Den D} {pos : Pos} {c f : Str} {i : Int} (hc : Cls X.K (cad X.K c)) (hk : ConE X.K c f i) (he : DE X E e fo) (hb : attributeBase e f X.env (eval e X.env) = eval e X.env := by rfl) : DE X E (.Attribute e f pos) (fUn (dConO c f i) fo) := PE.mono (pe_con he hb) fun σ H Q h => by
  obtain ⟨u, hk⟩ := hk
  obtain ⟨m, Γ, Ω, s, h⟩ := h
  refine ⟨m, Γ, Ω, s, (Af.bind (R := Rl X.K) h).imp fun _ _ _ _ _ _ _ _ ⟨m1, Ω1, x, g1, r1, q⟩ => ?_⟩
  unfold dConO at q
  dsimp only at q
  cases e1 : asO c Ω1 x with
  | none => rw [e1] at q; exact q.elim
  | some fs =>
    rw [e1] at q
    dsimp only at q
    obtain ⟨a, dx, gs, ev, h1, h2⟩ := asO_ok g1.ok r1 e1
    rcases h2.lookup (f := f) with ⟨d, v, z1, z2, z3⟩ | ⟨z1, z2⟩
    · rw [z1] at q; exact q.elim
    · rw [z1] at q
      exact ⟨a, _, dx, gs, _, u, ev, h1, hc, hk, z2, q.now g1.ok (by unfold Rl; rfl)⟩
def conB (c f : Str) (i : Int) (K : PySem.W.Frag) : Bool := (match PySem.W.findIn K (.ref (cad K c)) f with
    | some (some (.int j t)) => decide (j = i) && He.eqO (PySem.W.specialIn K (.int j t) "__get__") (some none)
    | _ => false) && !(PySem.W.copiedNames.contains f)
theorem conB_ok {c f : Str} {i : Int} {K : PySem.W.Frag} (h : conB c f i K = true) : ConE K c f i := by
  unfold conB at h
  obtain ⟨h1, h2⟩ := He.ba h
  split at h1
  · rename_i j t e
    obtain ⟨h3, h4⟩ := He.ba h1
    obtain rfl := of_decide_eq_true h3
    exact ⟨_, e, ⟨t, rfl⟩, He.eqO_ok h4, by simpa using h2⟩
  · cases h1
/-! ### C(.., l, ..), l a list that the caller goes on changing -/
mutual
def flat : D → Bool
  | .non => true
  | .bl _ => true
  | .int _ => true
  | .str _ => true
  | .tup xs => flatL xs
  | _ => false
def flatL : List D → Bool
  | [] => true
  | d :: ds => flat d && flatL ds
end
def flatF : List (Str × D) → Bool
  | [] => true
  | (_, d) :: ds => flat d && flatF ds
section
variable {K : PySem.W.Frag} {m m' : Mp} {Ω Ω' : Om} {H : Hp}
mutual
theorem rl_flat : ∀ (d : D) (v : V), flat d = true → Rl K m Ω H d v → Rl K m' Ω' H d v
  | .non, v, _, h => by unfold Rl at h ⊢; exact h
  | .bl _, v, _, h => by unfold Rl at h ⊢; exact h
  | .int _, v, _, h => by unfold Rl at h ⊢; exact h
  | .str _, v, _, h => by unfold Rl at h ⊢; exact h
  | .tup ys, v, z, h => by
    unfold flat at z
    unfold Rl at h ⊢
    obtain ⟨b, ws, e, h1, h2⟩ := h
    exact ⟨b, ws, e, h1, rlL_flat ys ws z h2⟩
  | .lst _, v, z, h => by unfold flat at z; cases z
  | .dct _, v, z, h => by unfold flat at z; cases z
  | .obj _ _, v, z, h => by unfold flat at z; cases z
  | .ref _, v, z, h => by unfold flat at z; cases z
  | .scr _, v, z, h => by unfold flat at z; cases z
  | .cl _, v, z, h => by unfold flat at z; cases z
theorem rlL_flat : ∀ (ds : List D) (ws : List V), flatL ds = true → RlL K m Ω H ds ws → RlL K m' Ω' H ds ws
  | [], ws, _, h => by unfold RlL at h ⊢; exact h
  | d :: ds, ws, z, h => by
    unfold flatL at z
    obtain ⟨z1, z2⟩ := Bool.and_eq_true_iff.mp z
    unfold RlL at h ⊢
    obtain ⟨v, r, e, h1, h2⟩ := h
    exact ⟨v, r, e, rl_flat d v z1 h1, rlL_flat ds r z2 h2⟩
end
theorem rlF_flat : ∀ (ds : List (Str × D)) (ws : List (Str × V)), flatF ds = true → RlF K m Ω H ds ws → RlF K m' Ω' H ds ws
  | [], ws, _, h => by unfold RlF at h ⊢; exact h
  | (_, d) :: ds, ws, z, h => by
    unfold flatF at z
    obtain ⟨z1, z2⟩ := Bool.and_eq_true_iff.mp z
    unfold RlF at h ⊢
    obtain ⟨v, r, e, h1, h2⟩ := h
    exact ⟨v, r, e, rl_flat d v z1 h1, rlF_flat ds r z2 h2⟩
end
def lendD (Ω : Om) : D → D
  | .ref n => match Ω[n]? with
    | some (.lst xs) => .lst xs
    | _ => .ref n
  | d => d
def fMakeL (c : Str) (n : Nat) (F : FD) (r : Den (List D)) : Den D := bnd r fun ds _ Ω => if belowL 0 (ds.map (lendD Ω)) = true then match mkD c n F (ds.map (lendD Ω)) [] with
    | some (.ok (.obj c' fs), []) => if flatF fs = true then some (.ok (.obj c' fs), Ω) else none
    | _ => none
  else none
section
variable {K : PySem.W.Frag} {m : Mp} {Ω : Om} {H : Hp}
theorem lend_rl (c : CellsOk K m Ω H) : ∀ (ds : List D) (vs : List V), belowL 0 (ds.map (lendD Ω)) = true → RlL K m Ω H ds vs → RlL K (Mp.take 0 m) [] H (ds.map (lendD Ω)) vs
  | [], vs, _, h => by unfold RlL at h; subst h; rw [List.map_nil]; unfold RlL; rfl
  | d :: ds, vs, b, h => by
    rw [List.map_cons] at b ⊢
    unfold belowL at b
    obtain ⟨b1, b2⟩ := Bool.and_eq_true_iff.mp b
    unfold RlL at h ⊢
    obtain ⟨v, r, e, h1, h2⟩ := h
    refine ⟨v, r, e, ?_, lend_rl c ds r b2 h2⟩
    have plain : ∀ d : D, below 0 d = true → Rl K m Ω H d v → Rl K (Mp.take 0 m) [] H d v := fun d hb hr => by
      have := Rl.take (k := 0) d v hb hr
      rwa [List.take_zero] at this
    cases d with
    | ref n =>
      unfold lendD at b1 ⊢
      dsimp only at b1 ⊢
      cases e2 : Ω[n]? with
      | none => rw [e2] at b1; unfold below at b1; exact absurd (of_decide_eq_true b1) (Nat.not_lt_zero n)
      | some cl =>
        rw [e2] at b1
        cases cl with
        | lst xs =>
          dsimp only at b1 ⊢
          unfold Rl at h1
          obtain ⟨a, ev, ha⟩ := h1
          obtain ⟨ws, h3, h4⟩ := c.at_ n _ a e2 ha
          unfold below at b1
          unfold Rl
          refine ⟨a, ws, ev, h3, fun l => ?_, ?_⟩
          · rcases l with ⟨j, x, z1, z2, _⟩ | l
            · simp at z2
            · exact (c.hl a l).2 (List.mem_of_getElem? ha)
          · have := RlL.take (k := 0) xs ws b1 h4
            rwa [List.take_zero] at this
        | _ => dsimp only at b1; unfold below at b1; exact absurd (of_decide_eq_true b1) (Nat.not_lt_zero n)
    | _ => exact plain _ b1 h1
end
section
variable {X : Cx} {E : St → XK} {e : Expr} {es : List Expr} {r : Den (List D)} {p pos : Pos} {c : Str} {ps : List Str} {k n : Nat} {F : FD}
theorem spD_mono {K : PySem.W.Frag} {vs : List V} {H : Hp} {Q Q' : VK} {E : XK} (h : spD K n F vs H Q E) (i : ∀ v H', Q v H' → Q' v H') : spD K n F vs H Q' E := by
  obtain ⟨hl, m, Ω, ds, c, r, q⟩ := h
  refine ⟨hl, m, Ω, ds, c, r, ?_⟩
  cases e : F ds Ω with
  | none => rw [e] at q; exact q
  | some z =>
    obtain ⟨rs, Ω'⟩ := z
    rw [e] at q
    cases rs with
    | ok d => exact fun m' v H' g r => i v H' (q m' v H' g r)
    | ex x => exact q
theorem de_makeL (G : MkG X.prog X.w X.K X.mg X.base c ps k F) (hr : RoomG (k + 1) X.A) (hx : ∀ σ, PassesAt (L2N.CX X.prog X.w) X σ (E σ)) (ha : DA X E (e :: es) r) (hn : ps.length = n := by rfl) (hg : Gl X c := by rfl)
    (hdb : (c == ("__debug__" : Str)) = false := by decide) (he : starEach (e :: es) X.env = (false, eval e X.env) :: starEach es X.env := by rfl) (hpl : (backTo pos (starEach es X.env)).any (·.1) = false := by rfl) :
    DE X E (.Call (.Name c p) (e :: es) [] pos) (fMakeL c n F r) := by
  subst hn
  obtain ⟨f, fd, M, hm, ok, bi⟩ := G.ex
  refine ⟨fun pins s σ H Q I h => ?_⟩
  refine wpAny_Call_Name_kw (ld_glob I hg hm ?_ hdb)
  obtain ⟨m, Γ, Ω, s', h⟩ := h
  have h2 : tDA X.K E r σ H fun vs H1 => ∀ x dx, H1 x = none → H1 dx = none → dx ≠ x → spD X.K ps.length F (.ref x :: vs) (upd (upd H1 dx (.own x)) x (.ins (cad X.K c) dx [])) (fun v H2 => v = .non ∧ Q (.ref x) H2) (E σ) := by
    refine ⟨m, Γ, Ω, s', (Af.bind (R := RlL X.K) h).imp fun _ _ H1 _ vs _ _ _ ⟨m1, Ω1, ds, g1, r1, q⟩ => ?_⟩
    dsimp only at q
    obtain ⟨hb, q⟩ := Af.guard q
    intro x dx hx0 hdx hne
    have r2 := lend_rl g1.ok ds vs hb r1
    have c2 : CellsOk X.K (Mp.take 0 m1) [] H1 := by
      have := CellsOk.take (k := 0) g1.ok rfl
      rwa [List.take_zero] at this
    cases e1 : mkD c ps.length F (ds.map (lendD Ω1)) [] with
    | none => rw [e1] at q; exact q.elim
    | some z =>
      obtain ⟨rs, Ω'⟩ := z
      rw [e1] at q
      match rs, Ω', e1, q with
      | .ok (.obj c' fs), [], e1, q =>
        dsimp only at q
        obtain ⟨hfl, q⟩ := Af.guard q
        refine spD_mono (make_of (Q := fun v H2 => v = .ref x → Q v H2) c2 r2 ?_ x dx hx0 hdx hne) fun v H' ⟨z1, z2⟩ => ⟨z1, z2 rfl⟩
        rw [e1]
        intro m' v H' g rr ev
        have le : LeH H1 H' := fun b o hbo => by
          by_cases hl : Live (Mp.take 0 m1) [] b
          · rcases hl with ⟨j, y, z1, z2, _⟩ | hl
            · simp at z2
            · exact g.hk b o hl hbo
          · exact g.frame b o hbo hl
        refine q m1 v H' (Go.up g1.ok le) ?_
        unfold Rl at rr ⊢
        obtain ⟨b, dx', gs, e3, h3, _, h4⟩ := rr
        refine ⟨b, dx', gs, e3, h3, fun l => ?_, rlF_flat fs gs hfl h4⟩
        rw [ev] at e3
        cases e3
        rcases g1.ok.live l with ⟨_, z⟩ | ⟨_, z⟩ | ⟨_, _, _, z⟩ <;> (rw [hx0] at z; cases z)
      | .ok (.obj c' fs), _ :: _, e1, q => exact q.elim
      | .ok .non, _, e1, q => exact q.elim
      | .ok (.bl _), _, e1, q => exact q.elim
      | .ok (.int _), _, e1, q => exact q.elim
      | .ok (.str _), _, e1, q => exact q.elim
      | .ok (.tup _), _, e1, q => exact q.elim
      | .ok (.lst _), _, e1, q => exact q.elim
      | .ok (.dct _), _, e1, q => exact q.elim
      | .ok (.ref _), _, e1, q => exact q.elim
      | .ok (.scr _), _, e1, q => exact q.elim
      | .ok (.cl _), _, e1, q => exact q.elim
      | .ex _, _, e1, q => exact q.elim
  refine PySem.W.callWith_K (h₀ := X.base) I.ok.mod.kin M.kp (thn (ha.run pos pins s σ H _ I h2) fun us s1 ⟨vs, H1, I1, r, q⟩ => ⟨I1.kIn, ?_⟩) he hpl
  exact run_makeS (E := E) M ok hr bi (hx σ) I1 r q
end
end Dn


set_option Elab.async false
set_option linter.all false
set_option maxRecDepth 100000
/-! DnCell: list(x), a list of one's own. -/
namespace Dn
open PySem L2
def seqD (Ω : Om) : D → Option (List D)
  | .tup xs => some xs
  | .lst xs => some xs
  | .ref n => match Ω[n]? with
    | some (.lst xs) => some xs
    | _ => none
  | _ => none
def dListC : OpA := op1 fun d Ω => match seqD Ω d with
  | some xs => some (.ok (.ref Ω.length), Ω ++ [.lst xs])
  | none => none
theorem cd_listC {K : PySem.W.Frag} : CallD K dListC (fun xs H Q => ∃ p ys, xs = [.ref p] ∧ (SqL K H p ys ∨ SqT K H p ys) ∧ ∀ l, H l = none → Q (.ref l) (upd H l (.lst ys))) := by
  intro E m Ω H ds vs Q c r q
  obtain ⟨d, v, ed, ev, h, q1⟩ := op1_of r q
  clear q
  have q := q1
  clear q1
  subst ed ev
  cases e1 : seqD Ω d with
  | none => rw [e1] at q; exact q.elim
  | some xs =>
    rw [e1] at q
    have fin : ∀ a ws, v = .ref a → (SqL K H a ws ∨ SqT K H a ws) → RlL K m Ω H xs ws → ∃ p ys, [v] = [.ref p] ∧ (SqL K H p ys ∨ SqT K H p ys) ∧ ∀ l, H l = none → Q (.ref l) (upd H l (.lst ys)) := fun a ws e h1 h2 =>
      ⟨a, ws, by rw [e], h1, fun l hl => q (m.add l) _ _ (Go.cellL c hl h2) (rl_last c)⟩
    cases d with
    | tup ys =>
      cases e1
      unfold Rl at h
      obtain ⟨a, ws, ev, h1, h2⟩ := h
      exact fin a ws ev (.inr h1.sq) h2
    | lst ys =>
      cases e1
      unfold Rl at h
      obtain ⟨a, ws, ev, h1, _, h2⟩ := h
      exact fin a ws ev (.inl (SqL.of h1)) h2
    | ref n =>
      unfold seqD at e1
      dsimp only at e1
      cases e2 : Ω[n]? with
      | none => rw [e2] at e1; cases e1
      | some cl =>
        rw [e2] at e1
        cases cl with
        | lst ys =>
          cases e1
          unfold Rl at h
          obtain ⟨a, ev, ha⟩ := h
          obtain ⟨ws, h1, h2⟩ := c.at_ n _ a e2 ha
          exact fin a ws ev (.inl (SqL.of h1)) h2
        | _ => cases e1
    | _ => cases e1
end Dn


set_option Elab.async false
set_option linter.all false
set_option maxRecDepth 100000
set_option maxHeartbeats 4000000
namespace K11
open PySem PySem.Spec PyProof.Rows L2 Dn
def top (i : Nat) : Stmt := PySem.Challenge.pw_roadstairs_k11_steps_in_one_form.main.body.getD i (.Pass ⟨0, 0, 0, 0⟩)
abbrev CL : List Str := ["Stair", "RightSteps"]
abbrev FnP (K : PySem.W.Frag) (x q : Str) (st : Stmt) (f : Addr) (fd : FuncData) : Prop := FunD K x q (defArgs st) (defBody st) (defScope st) [] [] f fd
structure Hd (K : PySem.W.Frag) (mg : Str → Option Value) : Prop where
  g_isinstance : mg "isinstance" = none
  isa : IsaF K CL
  g_int : mg "int" = none
  g_bool : mg "bool" = none
  g_list : mg "list" = none
  g_tuple : mg "tuple" = none
  g_len : mg "len" = none
  g_all : mg "all" = none
  g_enumerate : mg "enumerate" = none
  c_RightSteps : Cls K (cad K "RightSteps")
  n_RightSteps_told_steps : NoAttr K (cad K "RightSteps") "told_steps"
  m_RightSteps : mg "RightSteps" = some (.ref (cad K "RightSteps"))
  cv_Stair_MOST_STEPS : CvE K "Stair" "MOST_STEPS" 60
  m_Stair : mg "Stair" = some (.ref (cad K "Stair"))
  c_Stair : Cls K (cad K "Stair")
  n_Stair_own_steps : NoAttr K (cad K "Stair") "own_steps"
  g_sum : mg "sum" = none
  g_abs : mg "abs" = none
  g_max : mg "max" = none
  g_divmod : mg "divmod" = none
  g_range : mg "range" = none
  g_dict : mg "dict" = none
  g_sorted : mg "sorted" = none
  g_repr : mg "repr" = none
  g_any : mg "any" = none
  nn_Stair : NoNe K (cad K "Stair")
  nf_Stair : NotF K "Stair"
  cn_Stair_MOST_STEPS : ConE K "Stair" "MOST_STEPS" 60
  g_min : mg "min" = none
variable {P : Program} {w : World} {K : PySem.W.Frag} {mg : Str → Option Value} {base : Heap}
abbrev s_is_integer : Stmt := top 8
theorem sc_is_integer : FnScope ["value"] ["value"] (defScope s_is_integer) := ⟨rfl, rfl, rfl, by decide +kernel, rfl, by decide +kernel, by decide +kernel⟩
-- slots: 0 value
def b_is_integer : DenS := (sRet (fAndV (fIs (isB CL "int") (fVar 0)) (fNotV (fIs (isB CL "bool") (fVar 0)))))
def F_is_integer : FD := clean (fnD 1 b_is_integer)
theorem ok_is_integer {f : Addr} {fd : FuncData} (hd : Hd K mg) (F : FnP K "is_integer" "is_integer" s_is_integer f fd) : FnOkG P w K mg base (L2N.CX P w) 1 f fd ["value"] (spD K 1 F_is_integer) :=
  FnOkG.clean (fn_def F sc_is_integer fun cdv A outer s H E hr => (ds_one (ds_ret (de_and (de_isB (T' := "int") hd.isa (de_var 0) hd.g_isinstance hd.g_int bt_int) (de_one (de_not (de_isB (T' := "bool") hd.isa (de_var 0) hd.g_isinstance hd.g_bool bt_bool)))))))
abbrev s_is_list : Stmt := top 9
theorem sc_is_list : FnScope ["value"] ["value"] (defScope s_is_list) := ⟨rfl, rfl, rfl, by decide +kernel, rfl, by decide +kernel, by decide +kernel⟩
-- slots: 0 value
def b_is_list : DenS := (sRet (fIs (isB2 CL "list" "tuple") (fVar 0)))
def F_is_list : FD := clean (fnD 1 b_is_list)
theorem ok_is_list {f : Addr} {fd : FuncData} (hd : Hd K mg) (F : FnP K "is_list" "is_list" s_is_list f fd) : FnOkG P w K mg base (L2N.CX P w) 1 f fd ["value"] (spD K 1 F_is_list) :=
  FnOkG.clean (fn_def F sc_is_list fun cdv A outer s H E hr => (ds_one (ds_ret (de_isB2 (T' := "list") (T2' := "tuple") hd.isa (de_var 0) hd.g_isinstance hd.g_list hd.g_tuple bt_list bt_tuple))))
abbrev s_is_step : Stmt := top 11
theorem sc_is_step : FnScope ["value", "part"] ["value"] (defScope s_is_step) := ⟨rfl, rfl, rfl, by decide +kernel, rfl, by decide +kernel, by decide +kernel⟩
-- slots: 0 value, 1 part
def b_is_step : DenS := (sSeq (sIf (fOr (fNot (fT (fIs (isB CL "tuple") (fVar 0)))) (fOr (fT (fBin dNe (fCB dLen (fCons (fVar 0) fNil)) (fC (.int 3)))) (fNot (fT (fCB dAll (fCons (fLc (fSeq (fVar 0)) (.nm 1) (fC true) (fCall 1 F_is_integer (fCons (fVar 1) fNil)) [1]) fNil)))))) (sRet (fC (.bl false))) sSkip) (sRet (fBin dGe (fBin dIx (fVar 0) (fC (.int 2))) (fC (.int 1)))))
def F_is_step : FD := clean (fnD 2 b_is_step)
theorem ok_is_step {f : Addr} {fd : FuncData} (hd : Hd K mg) (G_is_integer : FnG P w K mg base "is_integer" ["value"] 1 F_is_integer) (F : FnP K "is_step" "is_step" s_is_step f fd) : FnOkG P w K mg base (L2N.CX P w) 2 f fd ["value"] (spD K 1 F_is_step) :=
  FnOkG.clean (fn_def F sc_is_step fun cdv A outer s H E hr => (ds_cons (by exact (ds_if (dt_w (dw_or (dt_not (dt_val (de_isB (T' := "tuple") hd.isa (de_var 0) hd.g_isinstance hd.g_tuple bt_tuple))) (dw_or (dt_ne hr (de_callB call_len cd_len hd.g_len bt_len (da_cons (de_var 0) da_nil)) de_int) (dw_or1 (dt_not (dt_val (de_callB (cr_all rfl) cd_all hd.g_all bt_all (da_cons (de_lc (own := [("part", 1)]) (t := (.nm 1)) (ft := (fC true)) (fe := (fCall 1 F_is_integer (fCons (fVar 1) fNil))) rfl sc_is_step.nd (di_seq (de_var 0)) (blkOk_by rfl) (by decide) (by exact fun _ _ _ _ _ => (pg_nm 1 sc_is_step.nd)) (by exact fun _ _ _ _ _ => dts_nil) (by exact fun _ _ _ _ _ => (de_callN G_is_integer (hr.mono (by omega)) pass00 (da_cons (de_var 1) da_nil)))) da_nil)))))))) (ds_one (ds_ret de_bl)) ds_nil)) (by exact (ds_one (ds_ret (de_ge (de_sq (de_var 0) de_int) de_int))))))
abbrev s_does_rise : Stmt := top 12
theorem sc_does_rise : FnScope ["before", "step"] ["before", "step"] (defScope s_does_rise) := ⟨rfl, rfl, rfl, by decide +kernel, rfl, by decide +kernel, by decide +kernel⟩
-- slots: 0 before, 1 step
def b_does_rise : DenS := (sRet (fAndV (fBin dGe (fBin dIx (fVar 1) (fC (.int 0))) (fBin dAdd (fBin dIx (fVar 0) (fC (.int 0))) (fBin dIx (fVar 0) (fC (.int 2))))) (fBin dGe (fBin dIx (fVar 1) (fC (.int 1))) (fBin dAdd (fBin dIx (fVar 0) (fC (.int 1))) (fBin dIx (fVar 0) (fC (.int 2)))))))
def F_does_rise : FD := clean (fnD 2 b_does_rise)
theorem ok_does_rise {f : Addr} {fd : FuncData} (hd : Hd K mg) (F : FnP K "does_rise" "does_rise" s_does_rise f fd) : FnOkG P w K mg base (L2N.CX P w) 1 f fd ["before", "step"] (spD K 2 F_does_rise) :=
  FnOkG.clean (fn_def F sc_does_rise fun cdv A outer s H E hr => (ds_one (ds_ret (de_and (de_ge (de_sq (de_var 1) de_int) (de_add (de_sq (de_var 0) de_int) (de_sq (de_var 0) de_int))) (de_one (de_ge (de_sq (de_var 1) de_int) (de_add (de_sq (de_var 0) de_int) (de_sq (de_var 0) de_int))))))))
abbrev s_want_steps : Stmt := top 13
theorem sc_want_steps : FnScope ["steps", "position", "step"] ["steps"] (defScope s_want_steps) := ⟨rfl, rfl, rfl, by decide +kernel, rfl, by decide +kernel, by decide +kernel⟩
-- slots: 0 steps, 1 position, 2 step
def b_want_steps_for : DenS := (sIf (fOr (fNot (fT (fCall 1 F_is_step (fCons (fVar 2) fNil)))) (fAnd (fT (fBin dGt (fVar 1) (fC (.int 0)))) (fNot (fT (fCall 2 F_does_rise (fCons (fBin dIx (fVar 0) (fBin dSub (fVar 1) (fC (.int 1)))) (fCons (fVar 2) fNil))))))) sNever sSkip)
def b_want_steps : DenS := (sSeq (sIf (fNot (fT (fCall 1 F_is_list (fCons (fVar 0) fNil)))) sNever sSkip) (sFor (fEnum (fCons (fVar 0) fNil)) (gT 2 (gCons (gN 1) (gCons (gN 2) gNil))) b_want_steps_for))
def F_want_steps : FD := clean (fnD 3 b_want_steps)
theorem ok_want_steps {f : Addr} {fd : FuncData} (hd : Hd K mg) (G_is_list : FnG P w K mg base "is_list" ["value"] 1 F_is_list) (G_is_step : FnG P w K mg base "is_step" ["value"] 2 F_is_step) (G_does_rise : FnG P w K mg base "does_rise" ["before", "step"] 1 F_does_rise) (F : FnP K "want_steps" "want_steps" s_want_steps f fd) : FnOkG P w K mg base (L2N.CX P w) 3 f fd ["steps"] (spD K 1 F_want_steps) :=
  FnOkG.clean (fn_def F sc_want_steps fun cdv A outer s H E hr => (ds_cons (by exact (ds_if (dt_not (dt_val (de_callN G_is_list (hr.mono (by omega)) hx_of (da_cons (de_var 0) da_nil)))) (ds_one ds_never) ds_nil)) (by exact (ds_one (ds_for hp_of rfl (di_enum (da_cons (de_var 0) da_nil) hd.g_enumerate) (dg_t rfl (dgs_cons (dg_n 1 sc_want_steps.nd) (dgs_cons (dg_n 2 sc_want_steps.nd) dgs_nil))) (ds_one (ds_if (dt_w (dw_or (dt_not (dt_val (de_callN G_is_step (hr.mono (by omega)) hx_of (da_cons (de_var 2) da_nil)))) (dw_or1 (dt_w (dw_and (dt_gt (de_var 1) de_int) (dw_and1 (dt_not (dt_val (de_callN G_does_rise (hr.mono (by omega)) hx_of (da_cons (de_sq (de_var 0) (de_sub (de_var 1) de_int)) (da_cons (de_var 2) da_nil))))))))))) (ds_one ds_never) ds_nil)))))))
abbrev s_does_go_on : Stmt := top 15
theorem sc_does_go_on : FnScope ["step", "elder", "newer"] ["step", "elder", "newer"] (defScope s_does_go_on) := ⟨rfl, rfl, rfl, by decide +kernel, rfl, by decide +kernel, by decide +kernel⟩
-- slots: 0 step, 1 elder, 2 newer
def b_does_go_on : DenS := (sRet (fAndV (fBin dEq (fBin dAdd (fBin dIx (fVar 0) (fC (.int 0))) (fBin dIx (fVar 0) (fC (.int 2)))) (fVar 1)) (fBin dEq (fBin dAdd (fBin dIx (fVar 0) (fC (.int 1))) (fBin dIx (fVar 0) (fC (.int 2)))) (fVar 2))))
def F_does_go_on : FD := clean (fnD 3 b_does_go_on)
theorem ok_does_go_on {f : Addr} {fd : FuncData} (hd : Hd K mg) (F : FnP K "does_go_on" "does_go_on" s_does_go_on f fd) : FnOkG P w K mg base (L2N.CX P w) 1 f fd ["step", "elder", "newer"] (spD K 3 F_does_go_on) :=
  FnOkG.clean (fn_def F sc_does_go_on fun cdv A outer s H E hr => (ds_one (ds_ret (de_and (de_eq hr (de_add (de_sq (de_var 0) de_int) (de_sq (de_var 0) de_int)) (de_var 1)) (de_one (de_eq hr (de_add (de_sq (de_var 0) de_int) (de_sq (de_var 0) de_int)) (de_var 2)))))))
abbrev s_one_form : Stmt := top 14
theorem sc_one_form : FnScope ["steps", "found", "elder", "newer", "length"] ["steps"] (defScope s_one_form) := ⟨rfl, rfl, rfl, by decide +kernel, rfl, by decide +kernel, by decide +kernel⟩
-- slots: 0 steps, 1 found, 2 elder, 3 newer, 4 length
def b_one_form_for : DenS := (sIf (fAnd (fT (fBin dNe (fVar 1) (fLst fNil))) (fT (fCall 3 F_does_go_on (fCons (fBin dIx (fVar 1) (fUn dNeg (fC (.int 1)))) (fCons (fVar 2) (fCons (fVar 3) fNil)))))) (sSetIx (fVar 1) (fUn dNeg (fC (.int 1))) (fTup (fCons (fBin dIx (fBin dIx (fVar 1) (fUn dNeg (fC (.int 1)))) (fC (.int 0))) (fCons (fBin dIx (fBin dIx (fVar 1) (fUn dNeg (fC (.int 1)))) (fC (.int 1))) (fCons (fBin dAdd (fBin dIx (fBin dIx (fVar 1) (fUn dNeg (fC (.int 1)))) (fC (.int 2))) (fVar 4)) fNil))))) (sExp (fMt chkL mAppend (fVar 1) (fCons (fTup (fCons (fVar 2) (fCons (fVar 3) (fCons (fVar 4) fNil)))) fNil))))
def b_one_form : DenS := (sSeq (sSet 1 (fLstC fNil)) (sSeq (sFor (fSeq (fVar 0)) (gT 3 (gCons (gN 2) (gCons (gN 3) (gCons (gN 4) gNil)))) b_one_form_for) (sRet (fCB dTuple (fCons (fVar 1) fNil)))))
def F_one_form : FD := clean (fnD 5 b_one_form)
theorem ok_one_form {f : Addr} {fd : FuncData} (hd : Hd K mg) (G_does_go_on : FnG P w K mg base "does_go_on" ["step", "elder", "newer"] 1 F_does_go_on) (F : FnP K "one_form" "one_form" s_one_form f fd) : FnOkG P w K mg base (L2N.CX P w) 2 f fd ["steps"] (spD K 1 F_one_form) :=
  FnOkG.clean (fn_def F sc_one_form fun cdv A outer s H E hr => (ds_cons (by exact (ds_set 1 sc_one_form.nd (de_lstC da_nil))) (by exact (ds_cons (by exact (ds_for hp_of rfl (di_seq (de_var 0)) (dg_t rfl (dgs_cons (dg_n 2 sc_one_form.nd) (dgs_cons (dg_n 3 sc_one_form.nd) (dgs_cons (dg_n 4 sc_one_form.nd) dgs_nil)))) (ds_one (ds_if (dt_w (dw_and (dt_ne hr (de_var 1) (de_lst da_nil)) (dw_and1 (dt_val (de_callN G_does_go_on (hr.mono (by omega)) hx_of (da_cons (de_sq (de_var 1) (de_neg de_int)) (da_cons (de_var 2) (da_cons (de_var 3) da_nil)))))))) (ds_one (ds_setix (de_tup (da_cons (de_sq (de_sq (de_var 1) (de_neg de_int)) de_int) (da_cons (de_sq (de_sq (de_var 1) (de_neg de_int)) de_int) (da_cons (de_add (de_sq (de_sq (de_var 1) (de_neg de_int)) de_int) (de_var 4)) da_nil)))) (de_var 1) (de_neg de_int))) (ds_one (ds_exp (de_append (de_var 1) (da_cons (de_tup (da_cons (de_var 2) (da_cons (de_var 3) (da_cons (de_var 4) da_nil)))) da_nil)))))))) (by exact (ds_one (ds_ret (de_callTy call_tuple_of cd_tuple hd.g_tuple bt_tuple (da_cons (de_var 1) da_nil)))))))))
abbrev s_RightStepsD_initD : Stmt := inClass (top 17) 0
theorem sc_RightStepsD_initD : FnScope ["self", "steps"] ["self", "steps"] (defScope s_RightStepsD_initD) := ⟨rfl, rfl, rfl, by decide +kernel, rfl, by decide +kernel, by decide +kernel⟩
-- slots: 0 self, 1 steps
def b_RightStepsD_initD : DenS := (sFldSet "RightSteps" "told_steps" (fVar 0) (fCall 1 F_one_form (fCons (fVar 1) fNil)))
def F_RightStepsD_initD : FD := clean (fnD 2 b_RightStepsD_initD)
theorem ok_RightStepsD_initD {f : Addr} {fd : FuncData} (hd : Hd K mg) (G_one_form : FnG P w K mg base "one_form" ["steps"] 2 F_one_form) (F : FnP K "__init__" "RightSteps.__init__" s_RightStepsD_initD f fd) : FnOkG P w K mg base (L2N.CX P w) 3 f fd ["self", "steps"] (spD K 2 F_RightStepsD_initD) :=
  FnOkG.clean (fn_def F sc_RightStepsD_initD fun cdv A outer s H E hr => (ds_one (ds_fld hd.c_RightSteps hd.n_RightSteps_told_steps (de_var 0) (de_callN G_one_form (hr.mono (by omega)) hx_of (da_cons (de_var 1) da_nil)))))
abbrev s_StairD_initD : Stmt := inClass (top 20) 1
theorem sc_StairD_initD : FnScope ["self", "steps"] ["self", "steps"] (defScope s_StairD_initD) := ⟨rfl, rfl, rfl, by decide +kernel, rfl, by decide +kernel, by decide +kernel⟩
-- slots: 0 self, 1 steps
def b_StairD_initD : DenS := (sIf (fT (fIs (isC CL "RightSteps") (fVar 1))) (sFldSet "Stair" "own_steps" (fVar 0) (fUn (dFld "RightSteps" "told_steps") (fVar 1))) (sSeq (sExp (fCall 1 F_want_steps (fCons (fVar 1) fNil))) (sSeq (sIf (fT (fBin dGt (fCB dLen (fCons (fVar 1) fNil)) (fC (.int 60)))) sNever sSkip) (sFldSet "Stair" "own_steps" (fVar 0) (fCall 1 F_one_form (fCons (fVar 1) fNil))))))
def F_StairD_initD : FD := clean (fnD 2 b_StairD_initD)
theorem ok_StairD_initD {f : Addr} {fd : FuncData} (hd : Hd K mg) (G_want_steps : FnG P w K mg base "want_steps" ["steps"] 3 F_want_steps) (G_one_form : FnG P w K mg base "one_form" ["steps"] 2 F_one_form) (F : FnP K "__init__" "Stair.__init__" s_StairD_initD f fd) : FnOkG P w K mg base (L2N.CX P w) 4 f fd ["self", "steps"] (spD K 2 F_StairD_initD) :=
  FnOkG.clean (fn_def F sc_StairD_initD fun cdv A outer s H E hr => (ds_one (ds_if (dt_val (de_isC hd.isa (de_var 1) hd.g_isinstance hd.m_RightSteps (by decide))) (ds_one (ds_fld hd.c_Stair hd.n_Stair_own_steps (de_var 0) (de_fld hd.c_RightSteps hd.n_RightSteps_told_steps (de_var 1)))) (ds_cons (by exact (ds_exp (de_callN G_want_steps (hr.mono (by omega)) hx_of (da_cons (de_var 1) da_nil)))) (by exact (ds_cons (by exact (ds_if (dt_gt (de_callB call_len cd_len hd.g_len bt_len (da_cons (de_var 1) da_nil)) (de_cvalE hd.cv_Stair_MOST_STEPS hd.m_Stair)) (ds_one ds_never) ds_nil)) (by exact (ds_one (ds_fld hd.c_Stair hd.n_Stair_own_steps (de_var 0) (de_callN G_one_form (hr.mono (by omega)) hx_of (da_cons (de_var 1) da_nil)))))))))))
abbrev s_Stair_steps : Stmt := inClass (top 20) 3
theorem sc_Stair_steps : FnScope ["self"] ["self"] (defScope s_Stair_steps) := ⟨rfl, rfl, rfl, by decide +kernel, rfl, by decide +kernel, by decide +kernel⟩
-- slots: 0 self
def b_Stair_steps : DenS := (sRet (fCB dList (fCons (fUn (dFld "Stair" "own_steps") (fVar 0)) fNil)))
def F_Stair_steps : FD := clean (fnD 1 b_Stair_steps)
theorem ok_Stair_steps {f : Addr} {fd : FuncData} (hd : Hd K mg) (F : FnP K "steps" "Stair.steps" s_Stair_steps f fd) : FnOkG P w K mg base (L2N.CX P w) 1 f fd ["self"] (spD K 1 F_Stair_steps) :=
  FnOkG.clean (fn_def F sc_Stair_steps fun cdv A outer s H E hr => (ds_one (ds_ret (de_callTy call_list_of cd_list hd.g_list bt_list (da_cons (de_fld hd.c_Stair hd.n_Stair_own_steps (de_var 0)) da_nil)))))
def bR_Stair_steps : DenS := (sRet (fCB dListC (fCons (fUn (dFld "Stair" "own_steps") (fVar 0)) fNil)))
def R_Stair_steps : FD := (fnD 1 bR_Stair_steps)
theorem okR_Stair_steps {f : Addr} {fd : FuncData} (hd : Hd K mg) (F : FnP K "steps" "Stair.steps" s_Stair_steps f fd) : FnOkG P w K mg base (L2N.CX P w) 1 f fd ["self"] (spD K 1 R_Stair_steps) :=
  (fn_def F sc_Stair_steps fun cdv A outer s H E hr => (ds_one (ds_ret (de_callTy call_list_of cd_listC hd.g_list bt_list (da_cons (de_fld hd.c_Stair hd.n_Stair_own_steps (de_var 0)) da_nil)))))
abbrev s_StairD_lenD : Stmt := inClass (top 20) 4
theorem sc_StairD_lenD : FnScope ["self"] ["self"] (defScope s_StairD_lenD) := ⟨rfl, rfl, rfl, by decide +kernel, rfl, by decide +kernel, by decide +kernel⟩
-- slots: 0 self
def b_StairD_lenD : DenS := (sRet (fCB dLen (fCons (fUn (dFld "Stair" "own_steps") (fVar 0)) fNil)))
def F_StairD_lenD : FD := clean (fnD 1 b_StairD_lenD)
theorem ok_StairD_lenD {f : Addr} {fd : FuncData} (hd : Hd K mg) (F : FnP K "__len__" "Stair.__len__" s_StairD_lenD f fd) : FnOkG P w K mg base (L2N.CX P w) 1 f fd ["self"] (spD K 1 F_StairD_lenD) :=
  FnOkG.clean (fn_def F sc_StairD_lenD fun cdv A outer s H E hr => (ds_one (ds_ret (de_callB call_len cd_len hd.g_len bt_len (da_cons (de_fld hd.c_Stair hd.n_Stair_own_steps (de_var 0)) da_nil)))))
abbrev s_Stair_kept : Stmt := inClass (top 20) 5
theorem sc_Stair_kept : FnScope ["self", "elder", "newer", "length"] ["self"] (defScope s_Stair_kept) := ⟨rfl, rfl, rfl, by decide +kernel, rfl, by decide +kernel, by decide +kernel⟩
-- slots: 0 self, 1 elder, 2 newer, 3 length
def b_Stair_kept : DenS := (sRet (fCB dSum (fCons (fLc (fSeq (fUn (dFld "Stair" "own_steps") (fVar 0))) (.tp [1, 2, 3]) (fC true) (fVar 3) [1, 2, 3]) fNil)))
def F_Stair_kept : FD := clean (fnD 4 b_Stair_kept)
theorem ok_Stair_kept {f : Addr} {fd : FuncData} (hd : Hd K mg) (F : FnP K "kept" "Stair.kept" s_Stair_kept f fd) : FnOkG P w K mg base (L2N.CX P w) 1 f fd ["self"] (spD K 1 F_Stair_kept) :=
  FnOkG.clean (fn_def F sc_Stair_kept fun cdv A outer s H E hr => (ds_one (ds_ret (de_callB (cr_sum rfl) cd_sum hd.g_sum bt_sum (da_cons (de_lc (own := [("elder", 1), ("newer", 2), ("length", 3)]) (t := (.tp [1, 2, 3])) (ft := (fC true)) (fe := (fVar 3)) rfl sc_Stair_kept.nd (di_seq (de_fld hd.c_Stair hd.n_Stair_own_steps (de_var 0))) (blkOk_by rfl) (by decide) (by exact fun _ _ _ _ _ => (pg_tp rfl (pgs_n1 1 sc_Stair_kept.nd (pgs_n1 2 sc_Stair_kept.nd (pgs_n1 3 sc_Stair_kept.nd pgs_n0))))) (by exact fun _ _ _ _ _ => dts_nil) (by exact fun _ _ _ _ _ => (de_var 3))) da_nil)))))
abbrev s_Stair_newer_of : Stmt := inClass (top 20) 6
theorem sc_Stair_newer_of : FnScope ["self", "mark", "elder", "newer", "length"] ["self", "mark"] (defScope s_Stair_newer_of) := ⟨rfl, rfl, rfl, by decide +kernel, rfl, by decide +kernel, by decide +kernel⟩
-- slots: 0 self, 1 mark, 2 elder, 3 newer, 4 length
def b_Stair_newer_of_for : DenS := (sIf (fT (fChain dLe dLt (fVar 2) (fVar 1) (fBin dAdd (fVar 2) (fVar 4)))) (sRet (fBin dSub (fBin dAdd (fVar 3) (fVar 1)) (fVar 2))) sSkip)
def b_Stair_newer_of : DenS := (sSeq (sFor (fSeq (fUn (dFld "Stair" "own_steps") (fVar 0))) (gT 3 (gCons (gN 2) (gCons (gN 3) (gCons (gN 4) gNil)))) b_Stair_newer_of_for) (sRet (fC .non)))
def F_Stair_newer_of : FD := clean (fnD 5 b_Stair_newer_of)
theorem ok_Stair_newer_of {f : Addr} {fd : FuncData} (hd : Hd K mg) (F : FnP K "newer_of" "Stair.newer_of" s_Stair_newer_of f fd) : FnOkG P w K mg base (L2N.CX P w) 1 f fd ["self", "mark"] (spD K 2 F_Stair_newer_of) :=
  FnOkG.clean (fn_def F sc_Stair_newer_of fun cdv A outer s H E hr => (ds_cons (by exact (ds_for hp_of rfl (di_seq (de_fld hd.c_Stair hd.n_Stair_own_steps (de_var 0))) (dg_t rfl (dgs_cons (dg_n 2 sc_Stair_newer_of.nd) (dgs_cons (dg_n 3 sc_Stair_newer_of.nd) (dgs_cons (dg_n 4 sc_Stair_newer_of.nd) dgs_nil)))) (ds_one (ds_if (dt_leLt (de_var 2) (de_var 1) (de_add (de_var 2) (de_var 4))) (ds_one (ds_ret (de_sub (de_add (de_var 3) (de_var 1)) (de_var 2)))) ds_nil)))) (by exact (ds_one (ds_ret de_non)))))
abbrev s_StairD_callD : Stmt := inClass (top 20) 7
theorem sc_StairD_callD : FnScope ["self", "mark"] ["self", "mark"] (defScope s_StairD_callD) := ⟨rfl, rfl, rfl, by decide +kernel, rfl, by decide +kernel, by decide +kernel⟩
-- slots: 0 self, 1 mark
def b_StairD_callD : DenS := (sSeq (sIf (fNot (fT (fCall 1 F_is_integer (fCons (fVar 1) fNil)))) sNever sSkip) (sRet (fMeth "Stair" "newer_of" 2 F_Stair_newer_of (fVar 0) (fCons (fVar 1) fNil))))
def F_StairD_callD : FD := clean (fnD 2 b_StairD_callD)
theorem ok_StairD_callD {f : Addr} {fd : FuncData} (hd : Hd K mg) (G_is_integer : FnG P w K mg base "is_integer" ["value"] 1 F_is_integer) (M_Stair_newer_of : MtG P w K mg base "Stair" "newer_of" ["self", "mark"] 1 F_Stair_newer_of) (F : FnP K "__call__" "Stair.__call__" s_StairD_callD f fd) : FnOkG P w K mg base (L2N.CX P w) 2 f fd ["self", "mark"] (spD K 2 F_StairD_callD) :=
  FnOkG.clean (fn_def F sc_StairD_callD fun cdv A outer s H E hr => (ds_cons (by exact (ds_if (dt_not (dt_val (de_callN G_is_integer (hr.mono (by omega)) hx_of (da_cons (de_var 1) da_nil)))) (ds_one ds_never) ds_nil)) (by exact (ds_one (ds_ret (de_methN hd.c_Stair M_Stair_newer_of (hr.mono (by omega)) hx_of (de_var 0) (da_cons (de_var 1) da_nil)))))))
abbrev s_StairD_containsD : Stmt := inClass (top 20) 8
theorem sc_StairD_containsD : FnScope ["self", "value"] ["self", "value"] (defScope s_StairD_containsD) := ⟨rfl, rfl, rfl, by decide +kernel, rfl, by decide +kernel, by decide +kernel⟩
-- slots: 0 self, 1 value
def b_StairD_containsD : DenS := (sRet (fAndV (fCall 1 F_is_integer (fCons (fVar 1) fNil)) (fBin dNotN (fMeth "Stair" "newer_of" 2 F_Stair_newer_of (fVar 0) (fCons (fVar 1) fNil)) (fC .non))))
def F_StairD_containsD : FD := clean (fnD 2 b_StairD_containsD)
theorem ok_StairD_containsD {f : Addr} {fd : FuncData} (hd : Hd K mg) (G_is_integer : FnG P w K mg base "is_integer" ["value"] 1 F_is_integer) (M_Stair_newer_of : MtG P w K mg base "Stair" "newer_of" ["self", "mark"] 1 F_Stair_newer_of) (F : FnP K "__contains__" "Stair.__contains__" s_StairD_containsD f fd) : FnOkG P w K mg base (L2N.CX P w) 2 f fd ["self", "value"] (spD K 2 F_StairD_containsD) :=
  FnOkG.clean (fn_def F sc_StairD_containsD fun cdv A outer s H E hr => (ds_one (ds_ret (de_and (de_callN G_is_integer (hr.mono (by omega)) hx_of (da_cons (de_var 1) da_nil)) (de_one (de_notN (de_methN hd.c_Stair M_Stair_newer_of (hr.mono (by omega)) hx_of (de_var 0) (da_cons (de_var 1) da_nil)) de_non))))))
abbrev s_StairD_eqD : Stmt := inClass (top 20) 17
theorem sc_StairD_eqD : FnScope ["self", "other"] ["self", "other"] (defScope s_StairD_eqD) := ⟨rfl, rfl, rfl, by decide +kernel, rfl, by decide +kernel, by decide +kernel⟩
-- slots: 0 self, 1 other
def b_StairD_eqD : DenS := (sRet (fAndV (fIs (isC CL "Stair") (fVar 1)) (fBin dEq (fUn (dFld "Stair" "own_steps") (fVar 0)) (fUn (dFld "Stair" "own_steps") (fVar 1)))))
def F_StairD_eqD : FD := clean (fnD 2 b_StairD_eqD)
theorem ok_StairD_eqD {f : Addr} {fd : FuncData} (hd : Hd K mg) (F : FnP K "__eq__" "Stair.__eq__" s_StairD_eqD f fd) : FnOkG P w K mg base (L2N.CX P w) 1 f fd ["self", "other"] (spD K 2 F_StairD_eqD) :=
  FnOkG.clean (fn_def F sc_StairD_eqD fun cdv A outer s H E hr => (ds_one (ds_ret (de_and (de_isC hd.isa (de_var 1) hd.g_isinstance hd.m_Stair (by decide)) (de_one (de_eq hr (de_fld hd.c_Stair hd.n_Stair_own_steps (de_var 0)) (de_fld hd.c_Stair hd.n_Stair_own_steps (de_var 1))))))))
abbrev s_law_pot : Stmt := top 22
theorem sc_law_pot : FnScope ["_law_script", "_law_k", "_law_cell"] ["_law_script", "_law_k"] (defScope s_law_pot) := ⟨rfl, rfl, rfl, by decide +kernel, rfl, by decide +kernel, by decide +kernel⟩
-- slots: 0 _law_script, 1 _law_k, 2 _law_cell
def b_law_pot : DenS := (sSeq (sSet 2 (fBin dAdd (fBin dMul (fC (.int 53)) (fVar 1)) (fC (.int 19)))) (sSeq (sIf (fT (fBin dLt (fVar 1) (fCB dLen (fCons (fVar 0) fNil)))) (sSet 2 (fCB dAbs (fCons (fBin dIx (fVar 0) (fVar 1)) fNil))) sSkip) (sRet (fLstC (fCons (fCB dMax (fCons (fC (.int 0)) (fCons (fBin dSub (fVar 2) (fBin dPow (fC (.int 10)) (fC (.int 18)))) fNil))) (fCons (fBin dAdd (fBin dMod (fBin dMul (fCB dInt (fCons (fBin dAdd (fBin dMod (fCB dInt (fCons (fVar 2) fNil)) (fC (.int 2147483549))) (fC (.int 7))) fNil)) (fBin dPow (fBin dAdd (fBin dMul (fC (.int 2)) (fVar 1)) (fC (.int 3))) (fC (.int 3)))) (fC (.int 2147483477))) (fC (.int 1))) fNil))))))
def F_law_pot : FD := (fnD 3 b_law_pot)
theorem ok_law_pot {f : Addr} {fd : FuncData} (hd : Hd K mg) (F : FnP K "_law_pot" "_law_pot" s_law_pot f fd) : FnOkG P w K mg base (L2N.CX P w) 1 f fd ["_law_script", "_law_k"] (spD K 2 F_law_pot) :=
  (fn_def F sc_law_pot fun cdv A outer s H E hr => (ds_cons (by exact (ds_set 2 sc_law_pot.nd (de_add (de_mul de_int (de_var 1)) de_int))) (by exact (ds_cons (by exact (ds_if (dt_lt (de_var 1) (de_callB call_len cd_len hd.g_len bt_len (da_cons (de_var 0) da_nil))) (ds_one (ds_set 2 sc_law_pot.nd (de_callB call_abs cd_abs hd.g_abs bt_abs (da_cons (de_sq (de_var 0) (de_var 1)) da_nil)))) ds_nil)) (by exact (ds_one (ds_ret (de_lstC (da_cons (de_callB (call_max2 rfl) cd_max hd.g_max bt_max (da_cons de_int (da_cons (de_sub (de_var 2) (de_pow de_int de_int)) da_nil))) (da_cons (de_add (de_mod (de_mul (de_callTy call_int1 cd_int hd.g_int bt_int (da_cons (de_add (de_mod (de_callTy call_int1 cd_int hd.g_int bt_int (da_cons (de_var 2) da_nil)) de_int) de_int) da_nil)) (de_pow (de_add (de_mul de_int (de_var 1)) de_int) de_int)) de_int) de_int) da_nil))))))))))
abbrev s_law_draw : Stmt := top 23
theorem sc_law_draw : FnScope ["_law_pot_here", "_law_size", "_law_digit"] ["_law_pot_here", "_law_size"] (defScope s_law_draw) := ⟨rfl, rfl, rfl, by decide +kernel, rfl, by decide +kernel, by decide +kernel⟩
-- slots: 0 _law_pot_here, 1 _law_size, 2 _law_digit
def b_law_draw : DenS := (sSeq (sIf (fT (fBin dGt (fBin dIx (fVar 0) (fC (.int 0))) (fC (.int 0)))) (sSeq (sSetPair (fVar 0) (fC (.int 0)) 2 (fCB dDivmod (fCons (fBin dIx (fVar 0) (fC (.int 0))) (fCons (fVar 1) fNil)))) (sRet (fVar 2))) sSkip) (sSeq (sSetIx (fVar 0) (fC (.int 1)) (fBin dMod (fCB dInt (fCons (fBin dAdd (fBin dMul (fBin dIx (fVar 0) (fC (.int 1))) (fC (.int 48271))) (fC (.int 14009))) fNil)) (fC (.int 2147483587)))) (sRet (fBin dMod (fCB dInt (fCons (fBin dFdiv (fBin dMod (fCB dInt (fCons (fBin dMul (fBin dIx (fVar 0) (fC (.int 1))) (fBin dIx (fVar 0) (fC (.int 1)))) fNil)) (fC (.int 2147483549))) (fC (.int 13))) fNil)) (fVar 1)))))
def F_law_draw : FD := clean (fnD 3 b_law_draw)
theorem ok_law_draw {f : Addr} {fd : FuncData} (hd : Hd K mg) (F : FnP K "_law_draw" "_law_draw" s_law_draw f fd) : FnOkG P w K mg base (L2N.CX P w) 1 f fd ["_law_pot_here", "_law_size"] (spD K 2 F_law_draw) :=
  FnOkG.clean (fn_def F sc_law_draw fun cdv A outer s H E hr => (ds_cons (by exact (ds_if (dt_gt (de_sq (de_var 0) de_int) de_int) (ds_cons (by exact (ds_setpair 2 rfl sc_law_draw.nd (de_callB call_divmod cd_divmod hd.g_divmod bt_divmod (da_cons (de_sq (de_var 0) de_int) (da_cons (de_var 1) da_nil))) (de_var 0) de_int)) (by exact (ds_one (ds_ret (de_var 2))))) ds_nil)) (by exact (ds_cons (by exact (ds_setix (de_mod (de_callTy call_int1 cd_int hd.g_int bt_int (da_cons (de_add (de_mul (de_sq (de_var 0) de_int) de_int) de_int) da_nil)) de_int) (de_var 0) de_int)) (by exact (ds_one (ds_ret (de_mod (de_callTy call_int1 cd_int hd.g_int bt_int (da_cons (de_fdiv (de_mod (de_callTy call_int1 cd_int hd.g_int bt_int (da_cons (de_mul (de_sq (de_var 0) de_int) (de_sq (de_var 0) de_int)) da_nil)) de_int) de_int) da_nil)) (de_var 1)))))))))
abbrev s_law_steps : Stmt := top 25
theorem sc_law_steps : FnScope ["_law_pot_here", "_law_most", "_law_elder", "_law_newer", "_law_found", "_law_turn", "_law_size"] ["_law_pot_here", "_law_most"] (defScope s_law_steps) := ⟨rfl, rfl, rfl, by decide +kernel, rfl, by decide +kernel, by decide +kernel⟩
-- slots: 0 _law_pot_here, 1 _law_most, 2 _law_elder, 3 _law_newer, 4 _law_found, 5 _law_turn, 6 _law_size
def b_law_steps_for : DenS := (sSeq (sSet 6 (fBin dAdd (fC (.int 1)) (fCall 2 F_law_draw (fCons (fVar 0) (fCons (fC (.int 4)) fNil))))) (sSeq (sExp (fMt chkL mAppend (fVar 4) (fCons (fTup (fCons (fVar 2) (fCons (fVar 3) (fCons (fVar 6) fNil)))) fNil))) (sSeq (sSet 2 (fBin dAdd (fBin dAdd (fVar 2) (fVar 6)) (fBin dIx (fLst (fCons (fC (.int 0)) (fCons (fC (.int 0)) (fCons (fC (.int 1)) (fCons (fC (.int 3)) fNil))))) (fCall 2 F_law_draw (fCons (fVar 0) (fCons (fC (.int 4)) fNil)))))) (sSet 3 (fBin dAdd (fBin dAdd (fVar 3) (fVar 6)) (fBin dIx (fLst (fCons (fC (.int 0)) (fCons (fC (.int 0)) (fCons (fC (.int 1)) (fCons (fC (.int 2)) fNil))))) (fCall 2 F_law_draw (fCons (fVar 0) (fCons (fC (.int 4)) fNil)))))))))
def b_law_steps : DenS := (sSeq (sPar [2, 3, 4] (fCons (fBin dSub (fCall 2 F_law_draw (fCons (fVar 0) (fCons (fC (.int 9)) fNil))) (fC (.int 4))) (fCons (fBin dSub (fCall 2 F_law_draw (fCons (fVar 0) (fCons (fC (.int 9)) fNil))) (fC (.int 4))) (fCons (fLstC fNil) fNil)))) (sSeq (sFor (fRange1 (fCons (fCall 2 F_law_draw (fCons (fVar 0) (fCons (fBin dAdd (fVar 1) (fC (.int 1))) fNil))) fNil)) (gN 5) b_law_steps_for) (sRet (fVar 4))))
def F_law_steps : FD := clean (fnD 7 b_law_steps)
theorem ok_law_steps {f : Addr} {fd : FuncData} (hd : Hd K mg) (G_law_draw : FnG P w K mg base "_law_draw" ["_law_pot_here", "_law_size"] 1 F_law_draw) (F : FnP K "_law_steps" "_law_steps" s_law_steps f fd) : FnOkG P w K mg base (L2N.CX P w) 2 f fd ["_law_pot_here", "_law_most"] (spD K 2 F_law_steps) :=
  FnOkG.clean (fn_def F sc_law_steps fun cdv A outer s H E hr => (ds_cons (by exact (ds_par3 2 3 4 rfl sc_law_steps.nd (da_cons (de_sub (de_callN G_law_draw (hr.mono (by omega)) hx_of (da_cons (de_var 0) (da_cons de_int da_nil))) de_int) (da_cons (de_sub (de_callN G_law_draw (hr.mono (by omega)) hx_of (da_cons (de_var 0) (da_cons de_int da_nil))) de_int) (da_cons (de_lstC da_nil) da_nil))))) (by exact (ds_cons (by exact (ds_for hp_of rfl (di_range1 (da_cons (de_callN G_law_draw (hr.mono (by omega)) hx_of (da_cons (de_var 0) (da_cons (de_add (de_var 1) de_int) da_nil))) da_nil) hd.g_range) (dg_n 5 sc_law_steps.nd) (ds_cons (by exact (ds_set 6 sc_law_steps.nd (de_add de_int (de_callN G_law_draw (hr.mono (by omega)) hx_of (da_cons (de_var 0) (da_cons de_int da_nil)))))) (by exact (ds_cons (by exact (ds_exp (de_append (de_var 4) (da_cons (de_tup (da_cons (de_var 2) (da_cons (de_var 3) (da_cons (de_var 6) da_nil)))) da_nil)))) (by exact (ds_cons (by exact (ds_set 2 sc_law_steps.nd (de_add (de_add (de_var 2) (de_var 6)) (de_sq (de_lst (da_cons de_int (da_cons de_int (da_cons de_int (da_cons de_int da_nil))))) (de_callN G_law_draw (hr.mono (by omega)) hx_of (da_cons (de_var 0) (da_cons de_int da_nil))))))) (by exact (ds_one (ds_set 3 sc_law_steps.nd (de_add (de_add (de_var 3) (de_var 6)) (de_sq (de_lst (da_cons de_int (da_cons de_int (da_cons de_int (da_cons de_int da_nil))))) (de_callN G_law_draw (hr.mono (by omega)) hx_of (da_cons (de_var 0) (da_cons de_int da_nil))))))))))))))) (by exact (ds_one (ds_ret (de_var 4))))))))
abbrev s_law_carry : Stmt := top 26
theorem sc_law_carry : FnScope ["_law_rows", "_law_found", "_law_elder", "_law_newer", "_law_size", "_law_k"] ["_law_rows"] (defScope s_law_carry) := ⟨rfl, rfl, rfl, by decide +kernel, rfl, by decide +kernel, by decide +kernel⟩
-- slots: 0 _law_rows, 1 _law_found, 2 _law_elder, 3 _law_newer, 4 _law_size, 5 _law_k
def b_law_carry_for : DenS := (sExp (fMt chkK mUpd (fVar 1) (fCons (fCB dDict (fCons (fLc (fRange1 (fCons (fVar 4) fNil)) (.nm 5) (fC true) (fTup (fCons (fBin dAdd (fVar 2) (fVar 5)) (fCons (fBin dAdd (fVar 3) (fVar 5)) fNil))) [5]) fNil)) fNil)))
def b_law_carry : DenS := (sSeq (sSet 1 fDnew) (sSeq (sFor (fSeq (fVar 0)) (gT 3 (gCons (gN 2) (gCons (gN 3) (gCons (gN 4) gNil)))) b_law_carry_for) (sRet (fVar 1))))
def F_law_carry : FD := clean (fnD 6 b_law_carry)
theorem ok_law_carry {f : Addr} {fd : FuncData} (hd : Hd K mg) (F : FnP K "_law_carry" "_law_carry" s_law_carry f fd) : FnOkG P w K mg base (L2N.CX P w) 1 f fd ["_law_rows"] (spD K 1 F_law_carry) :=
  FnOkG.clean (fn_def F sc_law_carry fun cdv A outer s H E hr => (ds_cons (by exact (ds_set 1 sc_law_carry.nd de_dnew)) (by exact (ds_cons (by exact (ds_for hp_of rfl (di_seq (de_var 0)) (dg_t rfl (dgs_cons (dg_n 2 sc_law_carry.nd) (dgs_cons (dg_n 3 sc_law_carry.nd) (dgs_cons (dg_n 4 sc_law_carry.nd) dgs_nil)))) (ds_one (ds_exp (de_update (de_var 1) (da_cons (de_callTy (call_dictP rfl) cd_dict hd.g_dict bt_dict (da_cons (de_lc (own := [("_law_k", 5)]) (t := (.nm 5)) (ft := (fC true)) (fe := (fTup (fCons (fBin dAdd (fVar 2) (fVar 5)) (fCons (fBin dAdd (fVar 3) (fVar 5)) fNil)))) rfl sc_law_carry.nd (di_range1 (da_cons (de_var 4) da_nil) hd.g_range) (blkOk_by rfl) (by decide) (by exact fun _ _ _ _ _ => (pg_nm 5 sc_law_carry.nd)) (by exact fun _ _ _ _ _ => dts_nil) (by exact fun _ _ _ _ _ => (de_tup (da_cons (de_add (de_var 2) (de_var 5)) (da_cons (de_add (de_var 3) (de_var 5)) da_nil))))) da_nil)) da_nil)))))) (by exact (ds_one (ds_ret (de_var 1))))))))
abbrev s_law_form : Stmt := top 27
theorem sc_law_form : FnScope ["_law_carry_here", "_law_found", "_law_here"] ["_law_carry_here"] (defScope s_law_form) := ⟨rfl, rfl, rfl, by decide +kernel, rfl, by decide +kernel, by decide +kernel⟩
-- slots: 0 _law_carry_here, 1 _law_found, 2 _law_here
def b_law_form_for : DenS := (sIf (fAnd (fT (fBin dNe (fVar 1) (fLst fNil))) (fAnd (fT (fBin dEq (fBin dAdd (fBin dIx (fBin dIx (fVar 1) (fUn dNeg (fC (.int 1)))) (fC (.int 0))) (fBin dIx (fBin dIx (fVar 1) (fUn dNeg (fC (.int 1)))) (fC (.int 2)))) (fVar 2))) (fT (fBin dEq (fBin dAdd (fBin dIx (fBin dIx (fVar 1) (fUn dNeg (fC (.int 1)))) (fC (.int 1))) (fBin dIx (fBin dIx (fVar 1) (fUn dNeg (fC (.int 1)))) (fC (.int 2)))) (fBin dGet (fVar 0) (fVar 2)))))) (sSetIx (fVar 1) (fUn dNeg (fC (.int 1))) (fTup (fCons (fBin dIx (fBin dIx (fVar 1) (fUn dNeg (fC (.int 1)))) (fC (.int 0))) (fCons (fBin dIx (fBin dIx (fVar 1) (fUn dNeg (fC (.int 1)))) (fC (.int 1))) (fCons (fBin dAdd (fBin dIx (fBin dIx (fVar 1) (fUn dNeg (fC (.int 1)))) (fC (.int 2))) (fC (.int 1))) fNil))))) (sExp (fMt chkL mAppend (fVar 1) (fCons (fTup (fCons (fVar 2) (fCons (fBin dGet (fVar 0) (fVar 2)) (fCons (fC (.int 1)) fNil)))) fNil))))
def b_law_form : DenS := (sSeq (sSet 1 (fLstC fNil)) (sSeq (sFor (fSeq (fCB dSortB (fCons (fVar 0) fNil))) (gN 2) b_law_form_for) (sRet (fVar 1))))
def F_law_form : FD := clean (fnD 3 b_law_form)
theorem ok_law_form {f : Addr} {fd : FuncData} (hd : Hd K mg) (F : FnP K "_law_form" "_law_form" s_law_form f fd) : FnOkG P w K mg base (L2N.CX P w) 1 f fd ["_law_carry_here"] (spD K 1 F_law_form) :=
  FnOkG.clean (fn_def F sc_law_form fun cdv A outer s H E hr => (ds_cons (by exact (ds_set 1 sc_law_form.nd (de_lstC da_nil))) (by exact (ds_cons (by exact (ds_for hp_of rfl (di_seq (de_callB (call_sortBig rfl) cd_sortB hd.g_sorted bt_sorted (da_cons (de_var 0) da_nil))) (dg_n 2 sc_law_form.nd) (ds_one (ds_if (dt_w (dw_and (dt_ne hr (de_var 1) (de_lst da_nil)) (dw_and (dt_eq hr (de_add (de_sq (de_sq (de_var 1) (de_neg de_int)) de_int) (de_sq (de_sq (de_var 1) (de_neg de_int)) de_int)) (de_var 2)) (dw_and1 (dt_eq hr (de_add (de_sq (de_sq (de_var 1) (de_neg de_int)) de_int) (de_sq (de_sq (de_var 1) (de_neg de_int)) de_int)) (de_dget hr (de_var 0) (de_var 2))))))) (ds_one (ds_setix (de_tup (da_cons (de_sq (de_sq (de_var 1) (de_neg de_int)) de_int) (da_cons (de_sq (de_sq (de_var 1) (de_neg de_int)) de_int) (da_cons (de_add (de_sq (de_sq (de_var 1) (de_neg de_int)) de_int) de_int) da_nil)))) (de_var 1) (de_neg de_int))) (ds_one (ds_exp (de_append (de_var 1) (da_cons (de_tup (da_cons (de_var 2) (da_cons (de_dget hr (de_var 0) (de_var 2)) (da_cons de_int da_nil)))) da_nil)))))))) (by exact (ds_one (ds_ret (de_var 1))))))))
abbrev s_law_cut : Stmt := top 28
theorem sc_law_cut : FnScope ["_law_pot_here", "_law_rows", "_law_found", "_law_elder", "_law_newer", "_law_size", "_law_part"] ["_law_pot_here", "_law_rows"] (defScope s_law_cut) := ⟨rfl, rfl, rfl, by decide +kernel, rfl, by decide +kernel, by decide +kernel⟩
-- slots: 0 _law_pot_here, 1 _law_rows, 2 _law_found, 3 _law_elder, 4 _law_newer, 5 _law_size, 6 _law_part
def b_law_cut_for : DenS := (sSeq (sSet 6 (fCall 2 F_law_draw (fCons (fVar 0) (fCons (fVar 5) fNil)))) (sSeq (sIf (fT (fBin dGt (fVar 6) (fC (.int 0)))) (sExp (fMt chkL mAppend (fVar 2) (fCons (fTup (fCons (fVar 3) (fCons (fVar 4) (fCons (fVar 6) fNil)))) fNil))) sSkip) (sExp (fMt chkL mAppend (fVar 2) (fCons (fTup (fCons (fBin dAdd (fVar 3) (fVar 6)) (fCons (fBin dAdd (fVar 4) (fVar 6)) (fCons (fBin dSub (fVar 5) (fVar 6)) fNil)))) fNil)))))
def b_law_cut : DenS := (sSeq (sSet 2 (fLstC fNil)) (sSeq (sFor (fSeq (fVar 1)) (gT 3 (gCons (gN 3) (gCons (gN 4) (gCons (gN 5) gNil)))) b_law_cut_for) (sRet (fVar 2))))
def F_law_cut : FD := clean (fnD 7 b_law_cut)
theorem ok_law_cut {f : Addr} {fd : FuncData} (hd : Hd K mg) (G_law_draw : FnG P w K mg base "_law_draw" ["_law_pot_here", "_law_size"] 1 F_law_draw) (F : FnP K "_law_cut" "_law_cut" s_law_cut f fd) : FnOkG P w K mg base (L2N.CX P w) 2 f fd ["_law_pot_here", "_law_rows"] (spD K 2 F_law_cut) :=
  FnOkG.clean (fn_def F sc_law_cut fun cdv A outer s H E hr => (ds_cons (by exact (ds_set 2 sc_law_cut.nd (de_lstC da_nil))) (by exact (ds_cons (by exact (ds_for hp_of rfl (di_seq (de_var 1)) (dg_t rfl (dgs_cons (dg_n 3 sc_law_cut.nd) (dgs_cons (dg_n 4 sc_law_cut.nd) (dgs_cons (dg_n 5 sc_law_cut.nd) dgs_nil)))) (ds_cons (by exact (ds_set 6 sc_law_cut.nd (de_callN G_law_draw (hr.mono (by omega)) hx_of (da_cons (de_var 0) (da_cons (de_var 5) da_nil))))) (by exact (ds_cons (by exact (ds_if (dt_gt (de_var 6) de_int) (ds_one (ds_exp (de_append (de_var 2) (da_cons (de_tup (da_cons (de_var 3) (da_cons (de_var 4) (da_cons (de_var 6) da_nil)))) da_nil)))) ds_nil)) (by exact (ds_one (ds_exp (de_append (de_var 2) (da_cons (de_tup (da_cons (de_add (de_var 3) (de_var 6)) (da_cons (de_add (de_var 4) (de_var 6)) (da_cons (de_sub (de_var 5) (de_var 6)) da_nil)))) da_nil)))))))))) (by exact (ds_one (ds_ret (de_var 2))))))))
abbrev s_law_told_right : Stmt := top 29
theorem sc_law_told_right : FnScope ["_law_made", "_law_carry_here", "_law_due", "_law_here", "_law_odd", "_law_step", "_law_thing"] ["_law_made", "_law_carry_here"] (defScope s_law_told_right) := ⟨rfl, rfl, rfl, by decide +kernel, rfl, by decide +kernel, by decide +kernel⟩
-- slots: 0 _law_made, 1 _law_carry_here, 2 _law_due, 3 _law_here, 4 _law_odd, 5 _law_step, 6 _law_thing
def b_law_told_right_for : DenS := (sSeq (sIf (fOr (fT (fBin dNeS (fCB dRepr (fCons (fCallO "Stair" 2 F_StairD_callD (fVar 0) (fCons (fVar 3) fNil)) fNil)) (fCB dRepr (fCons (fGetN (fVar 1) (fVar 3)) fNil)))) (fT (fBin dNe (fBin (dInO "Stair" 2 F_StairD_containsD) (fVar 3) (fVar 0)) (fIn (fVar 3) (fVar 1))))) (sRet (fC (.bl false))) sSkip) (sIf (fT (fBin dNeS (fCB dRepr (fCons (fCallOK "Stair" 2 1 [0, 1] F_StairD_callD (fVar 0) (fCons (fVar 3) fNil)) fNil)) (fCB dRepr (fCons (fGetN (fVar 1) (fVar 3)) fNil)))) (sRet (fC (.bl false))) sSkip))
def b_law_told_right : DenS := (sSeq (sSet 2 (fCall 1 F_law_form (fCons (fVar 1) fNil))) (sSeq (sIf (fOr (fT (fBin dNe (fMeth "Stair" "steps" 1 F_Stair_steps (fVar 0) fNil) (fVar 2))) (fOr (fT (fBin dNe (fCB (dLenO "Stair" 1 F_StairD_lenD) (fCons (fVar 0) fNil)) (fCB dLen (fCons (fVar 2) fNil)))) (fT (fBin dNeS (fCB dRepr (fCons (fUn (dUnO "Stair" 1 F_Stair_kept) (fVar 0)) fNil)) (fCB dRepr (fCons (fCB dLenK (fCons (fVar 1) fNil)) fNil)))))) (sRet (fC (.bl false))) sSkip) (sSeq (sIf (fOr (fT (fBin dNeS (fCB (dRepr1 "Stair" "own_steps" "Stair(" ")") (fCons (fVar 0) fNil)) (fBin dCatS (fBin dCatS (fC (.str "Stair(")) (fCB dRepr (fCons (fVar 2) fNil))) (fC (.str ")"))))) (fNot (fT (fCB dAll (fCons (fLc (fSeq (fMeth "Stair" "steps" 1 F_Stair_steps (fVar 0) fNil)) (.nm 5) (fC true) (fIs (isB CL "tuple") (fVar 5)) [5]) fNil))))) (sRet (fC (.bl false))) sSkip) (sSeq (sFor (fRange2 (fCons (fUn dNeg (fC (.int 9))) (fCons (fC (.int 72)) fNil))) (gN 3) b_law_told_right_for) (sSeq (sSet 4 (fLst (fCons (fC .non) (fCons (fC (.bl true)) (fCons (fC (.bl false)) (fCons (fC (.str "1")) (fCons (fC (.str "")) (fCons (fTup (fCons (fC (.int 1)) fNil)) (fCons (fLst (fCons (fC (.int 1)) fNil)) (fCons (fC (.dct [])) (fCons (fTup (fCons (fC (.int 1)) (fCons (fC (.int 1)) (fCons (fC (.int 1)) fNil)))) (fCons (fVar 0) (fCons (fBin dPow (fC (.int 10)) (fC (.int 29))) (fCons (fUn dNeg (fBin dPow (fC (.int 10)) (fC (.int 29)))) fNil)))))))))))))) (sRet (fNotV (fCB dAny (fCons (fLc (fSeq (fVar 4)) (.nm 6) (fC true) (fBin (dInO "Stair" 2 F_StairD_containsD) (fVar 6) (fVar 0)) [6]) fNil)))))))))
def F_law_told_right : FD := clean (fnD 7 b_law_told_right)
theorem ok_law_told_right {f : Addr} {fd : FuncData} (hd : Hd K mg) (G_law_form : FnG P w K mg base "_law_form" ["_law_carry_here"] 1 F_law_form) (M_Stair_steps : MtG P w K mg base "Stair" "steps" ["self"] 1 F_Stair_steps) (O_StairD_lenD : OwnG P w K mg base "Stair" "__len__" ["self"] 1 F_StairD_lenD) (P_Stair_kept : PpG P w K mg base "Stair" "kept" ["self"] 1 F_Stair_kept) (RP_Stair : RpG P w K mg base "Stair" "own_steps" "Stair(" ")" 1) (C_StairD_callD : ClG P w K mg base "Stair" ["self", "mark"] 2 F_StairD_callD) (O_StairD_containsD : OwnG P w K mg base "Stair" "__contains__" ["self", "value"] 2 F_StairD_containsD) (CX_StairD_callD_mark : ClK P w K mg base "Stair" ["self", "mark"] ["mark"] [0, 1] 2 F_StairD_callD) (F : FnP K "_law_told_right" "_law_told_right" s_law_told_right f fd) : FnOkG P w K mg base (L2N.CX P w) 3 f fd ["_law_made", "_law_carry_here"] (spD K 2 F_law_told_right) :=
  FnOkG.clean (fn_def F sc_law_told_right fun cdv A outer s H E hr => (ds_cons (by exact (ds_set 2 sc_law_told_right.nd (de_callN G_law_form (hr.mono (by omega)) hx_of (da_cons (de_var 1) da_nil)))) (by exact (ds_cons (by exact (ds_if (dt_w (dw_or (dt_ne hr (de_meth0N hd.c_Stair M_Stair_steps (hr.mono (by omega)) hx_of (de_var 0)) (de_var 2)) (dw_or (dt_ne hr (de_lenO O_StairD_lenD (hr.mono (by omega)) hd.g_len (da_cons (de_var 0) da_nil)) (de_callB call_len cd_len hd.g_len bt_len (da_cons (de_var 2) da_nil))) (dw_or1 (dt_neS (de_callB (call_repr hr) cd_repr hd.g_repr bt_repr (da_cons (de_prop hd.c_Stair P_Stair_kept (hr.mono (by omega)) (de_var 0)) da_nil)) (de_callB (call_repr hr) cd_repr hd.g_repr bt_repr (da_cons (de_callB call_lenR cd_lenK hd.g_len bt_len (da_cons (de_var 1) da_nil)) da_nil))))))) (ds_one (ds_ret de_bl)) ds_nil)) (by exact (ds_cons (by exact (ds_if (dt_w (dw_or (dt_neS (de_repr1 RP_Stair (hr.mono (by omega)) hd.g_repr (da_cons (de_var 0) da_nil)) (de_catS (de_catS de_str (de_callB (call_repr hr) cd_repr hd.g_repr bt_repr (da_cons (de_var 2) da_nil))) de_str)) (dw_or1 (dt_not (dt_val (de_callB (cr_all rfl) cd_all hd.g_all bt_all (da_cons (de_lc (own := [("_law_step", 5)]) (t := (.nm 5)) (ft := (fC true)) (fe := (fIs (isB CL "tuple") (fVar 5))) rfl sc_law_told_right.nd (di_seq (de_meth0N hd.c_Stair M_Stair_steps (hr.mono (by omega)) hx_of (de_var 0))) (blkOk_by rfl) (by decide) (by exact fun _ _ _ _ _ => (pg_nm 5 sc_law_told_right.nd)) (by exact fun _ _ _ _ _ => dts_nil) (by exact fun _ _ _ _ _ => (de_isB (T' := "tuple") hd.isa (de_var 5) hd.g_isinstance hd.g_tuple bt_tuple))) da_nil))))))) (ds_one (ds_ret de_bl)) ds_nil)) (by exact (ds_cons (by exact (ds_for hp_of rfl (di_range2 (da_cons (de_neg de_int) (da_cons de_int da_nil)) hd.g_range) (dg_n 3 sc_law_told_right.nd) (ds_cons (by exact (ds_if (dt_w (dw_or (dt_neS (de_callB (call_repr hr) cd_repr hd.g_repr bt_repr (da_cons (de_callO C_StairD_callD (hr.mono (by omega)) (de_var 0) (da_cons (de_var 3) da_nil)) da_nil)) (de_callB (call_repr hr) cd_repr hd.g_repr bt_repr (da_cons (de_dgetN hr (de_var 1) (de_var 3)) da_nil))) (dw_or1 (dt_ne hr (de_inO O_StairD_containsD (hr.mono (by omega)) (de_var 3) (de_var 0)) (de_in hr (de_var 3) (de_var 1)))))) (ds_one (ds_ret de_bl)) ds_nil)) (by exact (ds_one (ds_if (dt_neS (de_callB (call_repr hr) cd_repr hd.g_repr bt_repr (da_cons (de_callOK CX_StairD_callD_mark (hr.mono (by omega)) (de_var 0) (dk_cons (de_var 3) dk_nil)) da_nil)) (de_callB (call_repr hr) cd_repr hd.g_repr bt_repr (da_cons (de_dgetN hr (de_var 1) (de_var 3)) da_nil))) (ds_one (ds_ret de_bl)) ds_nil)))))) (by exact (ds_cons (by exact (ds_set 4 sc_law_told_right.nd (de_lst (da_cons de_non (da_cons de_bl (da_cons de_bl (da_cons de_str (da_cons de_str (da_cons (de_tup (da_cons de_int da_nil)) (da_cons (de_lst (da_cons de_int da_nil)) (da_cons de_dlit (da_cons (de_tup (da_cons de_int (da_cons de_int (da_cons de_int da_nil)))) (da_cons (de_var 0) (da_cons (de_pow de_int de_int) (da_cons (de_neg (de_pow de_int de_int)) da_nil))))))))))))))) (by exact (ds_one (ds_ret (de_not (de_callB (cr_any rfl) cd_any hd.g_any bt_any (da_cons (de_lc (own := [("_law_thing", 6)]) (t := (.nm 6)) (ft := (fC true)) (fe := (fBin (dInO "Stair" 2 F_StairD_containsD) (fVar 6) (fVar 0))) rfl sc_law_told_right.nd (di_seq (de_var 4)) (blkOk_by rfl) (by decide) (by exact fun _ _ _ _ _ => (pg_nm 6 sc_law_told_right.nd)) (by exact fun _ _ _ _ _ => dts_nil) (by exact fun _ _ _ _ _ => (de_inO O_StairD_containsD (hr.mono (by omega)) (de_var 6) (de_var 0)))) da_nil))))))))))))))))
abbrev s_law_right : Stmt := top 30
theorem sc_law_right : FnScope ["_law_pot_here", "_law_rows", "_law_carry_here", "_law_shown", "_law_passed", "_law_made", "_law_same", "_law_at", "_law_elder", "_law_newer", "_law_size", "_law_some", "_law_bent", "_law_fewer"] ["_law_pot_here"] (defScope s_law_right) := ⟨rfl, rfl, rfl, by decide +kernel, rfl, by decide +kernel, by decide +kernel⟩
-- slots: 0 _law_pot_here, 1 _law_rows, 2 _law_carry_here, 3 _law_shown, 4 _law_passed, 5 _law_made, 6 _law_same, 7 _law_at, 8 _law_elder, 9 _law_newer, 10 _law_size, 11 _law_some, 12 _law_bent, 13 _law_fewer
def b_law_right_for2 : DenS := (sIf (fT (fBin dNe (fBin (dOwn "Stair" 2 F_StairD_eqD) (fMake "Stair" 2 F_StairD_initD (fCons (fVar 12) fNil)) (fMake "Stair" 2 F_StairD_initD (fCons (fLst (fCons (fBin dIx (fVar 1) (fVar 7)) fNil)) fNil))) (fBin dEq (fVar 12) (fLst (fCons (fBin dIx (fVar 1) (fVar 7)) fNil))))) (sRet (fC (.bl false))) sSkip)
def b_law_right_for : DenS := (sSeq (sAsg (fBin dIx (fVar 1) (fVar 7)) (gT 3 (gCons (gN 8) (gCons (gN 9) (gCons (gN 10) gNil))))) (sSeq (sSet 11 (fLst (fCons (fLst (fCons (fTup (fCons (fVar 8) (fCons (fVar 9) (fCons (fBin dAdd (fVar 10) (fC (.int 1))) fNil)))) fNil)) (fCons (fLst (fCons (fTup (fCons (fVar 8) (fCons (fBin dAdd (fVar 9) (fC (.int 1))) (fCons (fVar 10) fNil)))) fNil)) (fCons (fLst (fCons (fTup (fCons (fBin dAdd (fVar 8) (fC (.int 1))) (fCons (fBin dAdd (fVar 9) (fC (.int 1))) (fCons (fVar 10) fNil)))) fNil)) (fCons (fLst fNil) (fCons (fLst (fCons (fBin dIx (fVar 1) (fVar 7)) fNil)) fNil))))))) (sSeq (sFor (fSeq (fVar 11)) (gN 12) b_law_right_for2) (sSeq (sSet 13 (fMake "Stair" 2 F_StairD_initD (fCons (fBin dAdd (fSl (fVar 1) fNo (fPt (fVar 7))) (fSl (fVar 1) (fPt (fBin dAdd (fVar 7) (fC (.int 1)))) fNo)) fNil))) (sIf (fOr (fT (fBin (dOwn "Stair" 2 F_StairD_eqD) (fVar 13) (fVar 5))) (fNot (fT (fCall 2 F_law_told_right (fCons (fVar 13) (fCons (fCall 1 F_law_carry (fCons (fBin dAdd (fSl (fVar 1) fNo (fPt (fVar 7))) (fSl (fVar 1) (fPt (fBin dAdd (fVar 7) (fC (.int 1)))) fNo)) fNil)) fNil)))))) (sRet (fC (.bl false))) sSkip)))))
def b_law_right : DenS := (sSeq (sSet 1 (fCall 2 F_law_steps (fCons (fVar 0) (fCons (fC (.int 9)) fNil)))) (sSeq (sPar [2, 3] (fCons (fCall 1 F_law_carry (fCons (fVar 1) fNil)) (fCons (fCB dRepr (fCons (fVar 1) fNil)) fNil))) (sSeq (sSet 4 (fCB dListC (fCons (fVar 1) fNil))) (sSeq (sPar [5, 6] (fCons (fMakeL "Stair" 2 F_StairD_initD (fCons (fVar 4) fNil)) (fCons (fMakeK "Stair" 2 1 [0] F_StairD_initD (fCons (fCB dTuple (fCons (fCall 2 F_law_cut (fCons (fVar 0) (fCons (fVar 1) fNil))) fNil)) fNil)) fNil))) (sSeq (sExp (fMt chkL mAppend (fVar 4) (fCons (fTup (fCons (fC (.int 100)) (fCons (fC (.int 100)) (fCons (fC (.int 5)) fNil)))) fNil))) (sSeq (sIf (fOr (fNot (fT (fCall 2 F_law_told_right (fCons (fVar 5) (fCons (fVar 2) fNil))))) (fNot (fT (fCall 2 F_law_told_right (fCons (fVar 6) (fCons (fVar 2) fNil)))))) (sRet (fC (.bl false))) sSkip) (sSeq (sExp (fMt0 chkL mClear (fMeth "Stair" "steps" 1 R_Stair_steps (fVar 5) fNil))) (sSeq (sExp (fMt chkL mAppend (fMeth "Stair" "steps" 1 R_Stair_steps (fVar 5) fNil) (fCons (fTup (fCons (fC (.int 200)) (fCons (fC (.int 200)) (fCons (fC (.int 1)) fNil)))) fNil))) (sSeq (sIf (fOr (fT (fBin (dOwnNe "Stair" 2 F_StairD_eqD) (fVar 5) (fVar 6))) (fOr (fNot (fT (fBin (dOwn "Stair" 2 F_StairD_eqD) (fVar 6) (fVar 5)))) (fOr (fT (fBin (dOwnX "Stair" 2 F_StairD_eqD) (fVar 5) (fMeth "Stair" "steps" 1 F_Stair_steps (fVar 5) fNil))) (fOr (fT (fBin (dOwnX "Stair" 2 F_StairD_eqD) (fVar 5) (fVar 3))) (fNot (fT (fBin (dOwn "Stair" 2 F_StairD_eqD) (fVar 5) (fMake "Stair" 2 F_StairD_initD (fCons (fMeth "Stair" "steps" 1 F_Stair_steps (fVar 5) fNil) fNil))))))))) (sRet (fC (.bl false))) sSkip) (sSeq (sFor (fRange1 (fCons (fCB dLen (fCons (fVar 1) fNil)) fNil)) (gN 7) b_law_right_for) (sSeq (sIf (fOr (fT (fBin dNe (fC (.int 60)) (fC (.int 60)))) (fT (fBin dNe (fUn (dConO "Stair" "MOST_STEPS" 60) (fVar 5)) (fC (.int 60))))) (sRet (fC (.bl false))) sSkip) (sRet (fAndV (fBin dEqS (fCB dRepr (fCons (fVar 1) fNil)) (fVar 3)) (fCall 2 F_law_told_right (fCons (fVar 5) (fCons (fVar 2) fNil))))))))))))))))
def F_law_right : FD := clean (fnD 14 b_law_right)
theorem ok_law_right {f : Addr} {fd : FuncData} (hd : Hd K mg) (G_law_steps : FnG P w K mg base "_law_steps" ["_law_pot_here", "_law_most"] 2 F_law_steps) (G_law_carry : FnG P w K mg base "_law_carry" ["_law_rows"] 1 F_law_carry) (K_Stair : MkG P w K mg base "Stair" ["self", "steps"] 4 F_StairD_initD) (G_law_cut : FnG P w K mg base "_law_cut" ["_law_pot_here", "_law_rows"] 2 F_law_cut) (KK_Stair_steps : MkK P w K mg base "Stair" ["self", "steps"] ["steps"] [0] 4 F_StairD_initD) (G_law_told_right : FnG P w K mg base "_law_told_right" ["_law_made", "_law_carry_here"] 3 F_law_told_right) (MR_Stair_steps : MtG P w K mg base "Stair" "steps" ["self"] 1 R_Stair_steps) (O_StairD_eqD : OwnG P w K mg base "Stair" "__eq__" ["self", "other"] 1 F_StairD_eqD) (M_Stair_steps : MtG P w K mg base "Stair" "steps" ["self"] 1 F_Stair_steps) (F : FnP K "_law_right" "_law_right" s_law_right f fd) : FnOkG P w K mg base (L2N.CX P w) 6 f fd ["_law_pot_here"] (spD K 1 F_law_right) :=
  FnOkG.clean (fn_def F sc_law_right fun cdv A outer s H E hr => (ds_cons (by exact (ds_set 1 sc_law_right.nd (de_callN G_law_steps (hr.mono (by omega)) hx_of (da_cons (de_var 0) (da_cons de_int da_nil))))) (by exact (ds_cons (by exact (ds_par2 2 3 rfl sc_law_right.nd (da_cons (de_callN G_law_carry (hr.mono (by omega)) hx_of (da_cons (de_var 1) da_nil)) (da_cons (de_callB (call_repr hr) cd_repr hd.g_repr bt_repr (da_cons (de_var 1) da_nil)) da_nil)))) (by exact (ds_cons (by exact (ds_set 4 sc_law_right.nd (de_callTy call_list_of cd_listC hd.g_list bt_list (da_cons (de_var 1) da_nil)))) (by exact (ds_cons (by exact (ds_par2 5 6 rfl sc_law_right.nd (da_cons (de_makeL K_Stair (hr.mono (by omega)) hx_of (da_cons (de_var 4) da_nil)) (da_cons (de_makeK KK_Stair_steps (hr.mono (by omega)) hx_of (dk_cons (de_callTy call_tuple_of cd_tuple hd.g_tuple bt_tuple (da_cons (de_callN G_law_cut (hr.mono (by omega)) hx_of (da_cons (de_var 0) (da_cons (de_var 1) da_nil))) da_nil)) dk_nil)) da_nil)))) (by exact (ds_cons (by exact (ds_exp (de_append (de_var 4) (da_cons (de_tup (da_cons de_int (da_cons de_int (da_cons de_int da_nil)))) da_nil)))) (by exact (ds_cons (by exact (ds_if (dt_w (dw_or (dt_not (dt_val (de_callN G_law_told_right (hr.mono (by omega)) hx_of (da_cons (de_var 5) (da_cons (de_var 2) da_nil))))) (dw_or1 (dt_not (dt_val (de_callN G_law_told_right (hr.mono (by omega)) hx_of (da_cons (de_var 6) (da_cons (de_var 2) da_nil)))))))) (ds_one (ds_ret de_bl)) ds_nil)) (by exact (ds_cons (by exact (ds_exp (de_clear (de_meth0N hd.c_Stair MR_Stair_steps (hr.mono (by omega)) hx_of (de_var 5))))) (by exact (ds_cons (by exact (ds_exp (de_append (de_meth0N hd.c_Stair MR_Stair_steps (hr.mono (by omega)) hx_of (de_var 5)) (da_cons (de_tup (da_cons de_int (da_cons de_int (da_cons de_int da_nil)))) da_nil)))) (by exact (ds_cons (by exact (ds_if (dt_w (dw_or (dt_ownNeN O_StairD_eqD hd.nn_Stair (hr.mono (by omega)) (de_var 5) (de_var 6)) (dw_or (dt_not (dt_ownEqN O_StairD_eqD (hr.mono (by omega)) (de_var 6) (de_var 5))) (dw_or (dt_ownX O_StairD_eqD hd.nf_Stair (hr.mono (by omega)) (de_var 5) (de_meth0N hd.c_Stair M_Stair_steps (hr.mono (by omega)) hx_of (de_var 5))) (dw_or (dt_ownX O_StairD_eqD hd.nf_Stair (hr.mono (by omega)) (de_var 5) (de_var 3)) (dw_or1 (dt_not (dt_ownEqN O_StairD_eqD (hr.mono (by omega)) (de_var 5) (de_makeN K_Stair (hr.mono (by omega)) hx_of (da_cons (de_meth0N hd.c_Stair M_Stair_steps (hr.mono (by omega)) hx_of (de_var 5)) da_nil)))))))))) (ds_one (ds_ret de_bl)) ds_nil)) (by exact (ds_cons (by exact (ds_for hp_of rfl (di_range1 (da_cons (de_callB call_len cd_len hd.g_len bt_len (da_cons (de_var 1) da_nil)) da_nil) hd.g_range) (dg_n 7 sc_law_right.nd) (ds_cons (by exact (ds_asg (de_sq (de_var 1) (de_var 7)) (dg_t rfl (dgs_cons (dg_n 8 sc_law_right.nd) (dgs_cons (dg_n 9 sc_law_right.nd) (dgs_cons (dg_n 10 sc_law_right.nd) dgs_nil)))))) (by exact (ds_cons (by exact (ds_set 11 sc_law_right.nd (de_lst (da_cons (de_lst (da_cons (de_tup (da_cons (de_var 8) (da_cons (de_var 9) (da_cons (de_add (de_var 10) de_int) da_nil)))) da_nil)) (da_cons (de_lst (da_cons (de_tup (da_cons (de_var 8) (da_cons (de_add (de_var 9) de_int) (da_cons (de_var 10) da_nil)))) da_nil)) (da_cons (de_lst (da_cons (de_tup (da_cons (de_add (de_var 8) de_int) (da_cons (de_add (de_var 9) de_int) (da_cons (de_var 10) da_nil)))) da_nil)) (da_cons (de_lst da_nil) (da_cons (de_lst (da_cons (de_sq (de_var 1) (de_var 7)) da_nil)) da_nil)))))))) (by exact (ds_cons (by exact (ds_for hp_of rfl (di_seq (de_var 11)) (dg_n 12 sc_law_right.nd) (ds_one (ds_if (dt_ne hr (de_ownEqN O_StairD_eqD (hr.mono (by omega)) (de_makeN K_Stair (hr.mono (by omega)) hx_of (da_cons (de_var 12) da_nil)) (de_makeN K_Stair (hr.mono (by omega)) hx_of (da_cons (de_lst (da_cons (de_sq (de_var 1) (de_var 7)) da_nil)) da_nil))) (de_eq hr (de_var 12) (de_lst (da_cons (de_sq (de_var 1) (de_var 7)) da_nil)))) (ds_one (ds_ret de_bl)) ds_nil)))) (by exact (ds_cons (by exact (ds_set 13 sc_law_right.nd (de_makeN K_Stair (hr.mono (by omega)) hx_of (da_cons (de_add (de_slice (de_var 1) do_no (do_pt (de_var 7))) (de_slice (de_var 1) (do_pt (de_add (de_var 7) de_int)) do_no)) da_nil)))) (by exact (ds_one (ds_if (dt_w (dw_or (dt_ownEqN O_StairD_eqD (hr.mono (by omega)) (de_var 13) (de_var 5)) (dw_or1 (dt_not (dt_val (de_callN G_law_told_right (hr.mono (by omega)) hx_of (da_cons (de_var 13) (da_cons (de_callN G_law_carry (hr.mono (by omega)) hx_of (da_cons (de_add (de_slice (de_var 1) do_no (do_pt (de_var 7))) (de_slice (de_var 1) (do_pt (de_add (de_var 7) de_int)) do_no)) da_nil)) da_nil)))))))) (ds_one (ds_ret de_bl)) ds_nil)))))))))))) (by exact (ds_cons (by exact (ds_if (dt_w (dw_or (dt_ne hr (de_cvalE hd.cv_Stair_MOST_STEPS hd.m_Stair) de_int) (dw_or1 (dt_ne hr (de_conO hd.c_Stair hd.cn_Stair_MOST_STEPS (de_var 5)) de_int)))) (ds_one (ds_ret de_bl)) ds_nil)) (by exact (ds_one (ds_ret (de_and (de_eqS (de_callB (call_repr hr) cd_repr hd.g_repr bt_repr (da_cons (de_var 1) da_nil)) (de_var 3)) (de_one (de_callN G_law_told_right (hr.mono (by omega)) hx_of (da_cons (de_var 5) (da_cons (de_var 2) da_nil))))))))))))))))))))))))))))))
abbrev s_law : Stmt := top 31
theorem sc_law : FnScope ["_law_script", "_law_k"] ["_law_script"] (defScope s_law) := ⟨rfl, rfl, rfl, by decide +kernel, rfl, by decide +kernel, by decide +kernel⟩
-- slots: 0 _law_script, 1 _law_k
def b_law : DenS := (sRet (fCB dAll (fCons (fLc (fRange1 (fCons (fCB dMax (fCons (fC (.int 1)) (fCons (fCB dMin (fCons (fCB dLen (fCons (fVar 0) fNil)) (fCons (fC (.int 4)) fNil))) fNil))) fNil)) (.nm 1) (fC true) (fCall 1 F_law_right (fCons (fCall 2 F_law_pot (fCons (fVar 0) (fCons (fVar 1) fNil))) fNil)) [1]) fNil)))
def F_law : FD := clean (fnD 2 b_law)
theorem ok_law {f : Addr} {fd : FuncData} (hd : Hd K mg) (G_law_pot : FnG P w K mg base "_law_pot" ["_law_script", "_law_k"] 1 F_law_pot) (G_law_right : FnG P w K mg base "_law_right" ["_law_pot_here"] 6 F_law_right) (F : FnP K "law" "law" s_law f fd) : FnOkG P w K mg base (L2N.CX P w) 7 f fd ["_law_script"] (spD K 1 F_law) :=
  FnOkG.clean (fn_def F sc_law fun cdv A outer s H E hr => (ds_one (ds_ret (de_callB (cr_all rfl) cd_all hd.g_all bt_all (da_cons (de_lc (own := [("_law_k", 1)]) (t := (.nm 1)) (ft := (fC true)) (fe := (fCall 1 F_law_right (fCons (fCall 2 F_law_pot (fCons (fVar 0) (fCons (fVar 1) fNil))) fNil))) rfl sc_law.nd (di_range1 (da_cons (de_callB (call_max2 rfl) cd_max hd.g_max bt_max (da_cons de_int (da_cons (de_callB (call_min2 rfl) cd_min hd.g_min bt_min (da_cons (de_callB call_len cd_len hd.g_len bt_len (da_cons (de_var 0) da_nil)) (da_cons de_int da_nil))) da_nil))) da_nil) hd.g_range) (blkOk_by rfl) (by decide) (by exact fun _ _ _ _ _ => (pg_nm 1 sc_law.nd)) (by exact fun _ _ _ _ _ => dts_nil) (by exact fun _ _ _ _ _ => (de_callN G_law_right (hr.mono (by omega)) pass00 (da_cons (de_callN G_law_pot (hr.mono (by omega)) pass00 (da_cons (de_var 0) (da_cons (de_var 1) da_nil))) da_nil)))) da_nil)))))
end K11


set_option Elab.async false
set_option linter.all false
set_option maxRecDepth 100000
set_option maxHeartbeats 4000000
set_option maxHeartbeats 0
namespace K11
open PySem PySem.Spec PyProof.Rows L2 Dn
def d_is_integer : He.DefD := ⟨("is_integer", none), "is_integer", "is_integer", defArgs s_is_integer, defBody s_is_integer, defScope s_is_integer, [], []⟩
def d_is_list : He.DefD := ⟨("is_list", none), "is_list", "is_list", defArgs s_is_list, defBody s_is_list, defScope s_is_list, [], []⟩
def d_is_step : He.DefD := ⟨("is_step", none), "is_step", "is_step", defArgs s_is_step, defBody s_is_step, defScope s_is_step, [], []⟩
def d_does_rise : He.DefD := ⟨("does_rise", none), "does_rise", "does_rise", defArgs s_does_rise, defBody s_does_rise, defScope s_does_rise, [], []⟩
def d_want_steps : He.DefD := ⟨("want_steps", none), "want_steps", "want_steps", defArgs s_want_steps, defBody s_want_steps, defScope s_want_steps, [], []⟩
def d_does_go_on : He.DefD := ⟨("does_go_on", none), "does_go_on", "does_go_on", defArgs s_does_go_on, defBody s_does_go_on, defScope s_does_go_on, [], []⟩
def d_one_form : He.DefD := ⟨("one_form", none), "one_form", "one_form", defArgs s_one_form, defBody s_one_form, defScope s_one_form, [], []⟩
def d_RightStepsD_initD : He.DefD := ⟨("RightSteps", some "__init__"), "__init__", "RightSteps.__init__", defArgs s_RightStepsD_initD, defBody s_RightStepsD_initD, defScope s_RightStepsD_initD, [], []⟩
def d_StairD_initD : He.DefD := ⟨("Stair", some "__init__"), "__init__", "Stair.__init__", defArgs s_StairD_initD, defBody s_StairD_initD, defScope s_StairD_initD, [], []⟩
def d_Stair_steps : He.DefD := ⟨("Stair", some "steps"), "steps", "Stair.steps", defArgs s_Stair_steps, defBody s_Stair_steps, defScope s_Stair_steps, [], []⟩
def d_StairD_lenD : He.DefD := ⟨("Stair", some "__len__"), "__len__", "Stair.__len__", defArgs s_StairD_lenD, defBody s_StairD_lenD, defScope s_StairD_lenD, [], []⟩
def d_Stair_newer_of : He.DefD := ⟨("Stair", some "newer_of"), "newer_of", "Stair.newer_of", defArgs s_Stair_newer_of, defBody s_Stair_newer_of, defScope s_Stair_newer_of, [], []⟩
def d_StairD_callD : He.DefD := ⟨("Stair", some "__call__"), "__call__", "Stair.__call__", defArgs s_StairD_callD, defBody s_StairD_callD, defScope s_StairD_callD, [], []⟩
def d_StairD_containsD : He.DefD := ⟨("Stair", some "__contains__"), "__contains__", "Stair.__contains__", defArgs s_StairD_containsD, defBody s_StairD_containsD, defScope s_StairD_containsD, [], []⟩
def d_StairD_eqD : He.DefD := ⟨("Stair", some "__eq__"), "__eq__", "Stair.__eq__", defArgs s_StairD_eqD, defBody s_StairD_eqD, defScope s_StairD_eqD, [], []⟩
def d_law_pot : He.DefD := ⟨("_law_pot", none), "_law_pot", "_law_pot", defArgs s_law_pot, defBody s_law_pot, defScope s_law_pot, [], []⟩
def d_law_draw : He.DefD := ⟨("_law_draw", none), "_law_draw", "_law_draw", defArgs s_law_draw, defBody s_law_draw, defScope s_law_draw, [], []⟩
def d_law_steps : He.DefD := ⟨("_law_steps", none), "_law_steps", "_law_steps", defArgs s_law_steps, defBody s_law_steps, defScope s_law_steps, [], []⟩
def d_law_carry : He.DefD := ⟨("_law_carry", none), "_law_carry", "_law_carry", defArgs s_law_carry, defBody s_law_carry, defScope s_law_carry, [], []⟩
def d_law_form : He.DefD := ⟨("_law_form", none), "_law_form", "_law_form", defArgs s_law_form, defBody s_law_form, defScope s_law_form, [], []⟩
def d_law_cut : He.DefD := ⟨("_law_cut", none), "_law_cut", "_law_cut", defArgs s_law_cut, defBody s_law_cut, defScope s_law_cut, [], []⟩
def d_law_told_right : He.DefD := ⟨("_law_told_right", none), "_law_told_right", "_law_told_right", defArgs s_law_told_right, defBody s_law_told_right, defScope s_law_told_right, [], []⟩
def d_law_right : He.DefD := ⟨("_law_right", none), "_law_right", "_law_right", defArgs s_law_right, defBody s_law_right, defScope s_law_right, [], []⟩
def d_law : He.DefD := ⟨("law", none), "law", "law", defArgs s_law, defBody s_law, defScope s_law, [], []⟩
def d_Stair_kept : He5.DefA := ⟨fun K => He5.wf K (cad K "Stair") "property" "kept", "kept", "Stair.kept", defArgs s_Stair_kept, defBody s_Stair_kept, defScope s_Stair_kept, [], []⟩
abbrev s_StairD_reprD : Stmt := inClass (top 20) 18
theorem sc_StairD_reprD : FnScope ["self"] ["self"] (defScope s_StairD_reprD) := ⟨rfl, rfl, rfl, by decide +kernel, rfl, by decide +kernel, by decide +kernel⟩
def d_StairD_reprD : He.DefD := ⟨("Stair", some "__repr__"), "__repr__", "Stair.__repr__", defArgs s_StairD_reprD, defBody s_StairD_reprD, defScope s_StairD_reprD, [], []⟩
def fn : List He.DefD := [d_is_integer, d_is_list, d_is_step, d_does_rise, d_want_steps, d_does_go_on, d_one_form, d_RightStepsD_initD, d_StairD_initD, d_Stair_steps, d_StairD_lenD, d_Stair_newer_of, d_StairD_callD, d_StairD_containsD, d_StairD_eqD, d_law_pot, d_law_draw, d_law_steps, d_law_carry, d_law_form, d_law_cut, d_law_told_right, d_law_right, d_law, d_StairD_reprD]
def fw : List He5.DefA := [d_Stair_kept]
def fa : List He.Fa := [.free "isinstance", .free "int", .free "bool", .free "list", .free "tuple", .free "len", .free "all", .free "enumerate", .cls "RightSteps", .noat "RightSteps" "told_steps", .glo "RightSteps", .glo "Stair", .cls "Stair", .noat "Stair" "own_steps", .free "sum", .free "abs", .free "max", .free "divmod", .free "range", .free "dict", .free "sorted", .free "repr", .free "any", .free "min", .meth "Stair" "__repr__", .glo "is_integer", .glo "is_list", .glo "is_step", .glo "does_rise", .glo "want_steps", .glo "does_go_on", .glo "one_form", .mkr "Stair", .meth "Stair" "steps", .meth "Stair" "__len__", .meth "Stair" "newer_of", .meth "Stair" "__call__", .meth "Stair" "__contains__", .meth "Stair" "__eq__", .glo "_law_pot", .glo "_law_draw", .glo "_law_steps", .glo "_law_carry", .glo "_law_form", .glo "_law_cut", .glo "_law_told_right", .glo "_law_right", .glo "law"]
def ex (K : PySem.W.Frag) : Bool := isaB CL K && (cvB "Stair" "MOST_STEPS" 60 K && (noNeB "Stair" K && (nfB "Stair" K && (conB "Stair" "MOST_STEPS" 60 K && (propB "Stair" "kept" K && (PySem.W.fnIn K (He.ma K (cad K "Stair") "__call__") && (true)))))))
def loose : List Str := ["_wall", "RoadError", "InvalidSteps", "InvalidMark", "LimitError", "TooMany", "is_integer", "is_list", "is_step", "does_rise", "want_steps", "one_form", "does_go_on", "clipped", "RightSteps", "stair_of", "back_of_stair", "Stair", "_law_pot", "_law_draw", "_law_pick", "_law_steps", "_law_carry", "_law_form", "_law_cut", "_law_told_right", "_law_right"]
abbrev R : PySem.W.OpenRow := PySem.W.OpenLaw.row PySem.Challenge.rw_roadstairs_k11_steps_in_one_form
abbrev hk : PySem.W.Hook := hookC 5 fa fn fw ex
def ob (s : PySem.W.SharedT) : AlC := obsC 5 fa fn fw ex (HandSHeadRun.getT s)
theorem ob_eq (s : PySem.W.SharedT) : ob s = hk.obs s.abs := obsC_eq (HandSHeadRun.getT_eq s)
theorem run (w : World) : HandSHeadRun.RunEq R (PySem.W.view R.prog [31]) hk ob 9000 loose w := by
  intro os
  kernel_rfl
theorem facts {P : Program} {w : World} {K : PySem.W.Frag} {h : Heap} {mg : Str → Option Value} {f : Addr} (X : K.In h) (G : h.Ns mainGlobals mg) (hfa : mg ("law" : Str) = some (.ref f)) (c : SaysC fa fn fw ex K) :
    ∃ fd : FuncData, (∀ (s : Shared) (v : Value), BindsTo s fd ⟨[v], []⟩ [("_law_script", v)]) ∧ ∀ base : Heap, K.In base → base.Ns mainGlobals mg → FnOkG P w K mg base (L2N.CX P w) 7 f fd ["_law_script"] (spD K 1 F_law) := by
  obtain ⟨fd_is_integer, F_is_integer'⟩ := c.d.def_ 0 (d := d_is_integer) rfl
  obtain ⟨fd_is_list, F_is_list'⟩ := c.d.def_ 1 (d := d_is_list) rfl
  obtain ⟨fd_is_step, F_is_step'⟩ := c.d.def_ 2 (d := d_is_step) rfl
  obtain ⟨fd_does_rise, F_does_rise'⟩ := c.d.def_ 3 (d := d_does_rise) rfl
  obtain ⟨fd_want_steps, F_want_steps'⟩ := c.d.def_ 4 (d := d_want_steps) rfl
  obtain ⟨fd_does_go_on, F_does_go_on'⟩ := c.d.def_ 5 (d := d_does_go_on) rfl
  obtain ⟨fd_one_form, F_one_form'⟩ := c.d.def_ 6 (d := d_one_form) rfl
  obtain ⟨fd_RightStepsD_initD, F_RightStepsD_initD'⟩ := c.d.def_ 7 (d := d_RightStepsD_initD) rfl
  obtain ⟨fd_StairD_initD, F_StairD_initD'⟩ := c.d.def_ 8 (d := d_StairD_initD) rfl
  obtain ⟨fd_Stair_steps, F_Stair_steps'⟩ := c.d.def_ 9 (d := d_Stair_steps) rfl
  obtain ⟨fd_StairD_lenD, F_StairD_lenD'⟩ := c.d.def_ 10 (d := d_StairD_lenD) rfl
  obtain ⟨fd_Stair_newer_of, F_Stair_newer_of'⟩ := c.d.def_ 11 (d := d_Stair_newer_of) rfl
  obtain ⟨fd_StairD_callD, F_StairD_callD'⟩ := c.d.def_ 12 (d := d_StairD_callD) rfl
  obtain ⟨fd_StairD_containsD, F_StairD_containsD'⟩ := c.d.def_ 13 (d := d_StairD_containsD) rfl
  obtain ⟨fd_StairD_eqD, F_StairD_eqD'⟩ := c.d.def_ 14 (d := d_StairD_eqD) rfl
  obtain ⟨fd_law_pot, F_law_pot'⟩ := c.d.def_ 15 (d := d_law_pot) rfl
  obtain ⟨fd_law_draw, F_law_draw'⟩ := c.d.def_ 16 (d := d_law_draw) rfl
  obtain ⟨fd_law_steps, F_law_steps'⟩ := c.d.def_ 17 (d := d_law_steps) rfl
  obtain ⟨fd_law_carry, F_law_carry'⟩ := c.d.def_ 18 (d := d_law_carry) rfl
  obtain ⟨fd_law_form, F_law_form'⟩ := c.d.def_ 19 (d := d_law_form) rfl
  obtain ⟨fd_law_cut, F_law_cut'⟩ := c.d.def_ 20 (d := d_law_cut) rfl
  obtain ⟨fd_law_told_right, F_law_told_right'⟩ := c.d.def_ 21 (d := d_law_told_right) rfl
  obtain ⟨fd_law_right, F_law_right'⟩ := c.d.def_ 22 (d := d_law_right) rfl
  obtain ⟨fd_law, F_law'⟩ := c.d.def_ 23 (d := d_law) rfl
  obtain ⟨fd_Stair_kept, F_Stair_kept'⟩ := c.w.def_ 0 (d := d_Stair_kept) rfl
  have EX := c.more
  unfold ex at EX
  obtain ⟨EX0, EX⟩ := He.ba EX
  obtain ⟨EX1, EX⟩ := He.ba EX
  obtain ⟨EX2, EX⟩ := He.ba EX
  obtain ⟨EX3, EX⟩ := He.ba EX
  obtain ⟨EX4, EX⟩ := He.ba EX
  obtain ⟨EX5, EX⟩ := He.ba EX
  obtain ⟨EX6, EX⟩ := He.ba EX
  have hd : Hd K mg := ⟨He.free_ok X G (c.d.fact 0 (f := .free "isinstance") rfl), isaB_ok EX0, He.free_ok X G (c.d.fact 1 (f := .free "int") rfl), He.free_ok X G (c.d.fact 2 (f := .free "bool") rfl), He.free_ok X G (c.d.fact 3 (f := .free "list") rfl), He.free_ok X G (c.d.fact 4 (f := .free "tuple") rfl), He.free_ok X G (c.d.fact 5 (f := .free "len") rfl), He.free_ok X G (c.d.fact 6 (f := .free "all") rfl), He.free_ok X G (c.d.fact 7 (f := .free "enumerate") rfl), He.cls_ok (c.d.fact 8 (f := .cls "RightSteps") rfl), He.noat_ok (c.d.fact 9 (f := .noat "RightSteps" "told_steps") rfl), He.glo_ok X G (c.d.fact 10 (f := .glo "RightSteps") rfl), cvB_ok EX1, He.glo_ok X G (c.d.fact 11 (f := .glo "Stair") rfl), He.cls_ok (c.d.fact 12 (f := .cls "Stair") rfl), He.noat_ok (c.d.fact 13 (f := .noat "Stair" "own_steps") rfl), He.free_ok X G (c.d.fact 14 (f := .free "sum") rfl), He.free_ok X G (c.d.fact 15 (f := .free "abs") rfl), He.free_ok X G (c.d.fact 16 (f := .free "max") rfl), He.free_ok X G (c.d.fact 17 (f := .free "divmod") rfl), He.free_ok X G (c.d.fact 18 (f := .free "range") rfl), He.free_ok X G (c.d.fact 19 (f := .free "dict") rfl), He.free_ok X G (c.d.fact 20 (f := .free "sorted") rfl), He.free_ok X G (c.d.fact 21 (f := .free "repr") rfl), He.free_ok X G (c.d.fact 22 (f := .free "any") rfl), noNeB_ok EX2, nfB_ok EX3, conB_ok EX4, He.free_ok X G (c.d.fact 23 (f := .free "min") rfl)⟩
  have e := hfa.symm.trans (He.glo_ok X G (c.d.fact 47 (f := .glo "law") rfl))
  cases e
  have b := FunD.bindsA (ps := ["_law_script"]) F_law' fun _ _ _ _ _ _ us hl => match us, hl with | [_], _ => rfl
  refine ⟨fd_law, fun s v => b s [v] rfl, fun base _ _ => ?_⟩
  obtain ⟨fd_StairD_reprD, F_StairD_reprD'⟩ := c.d.def_ 24 (d := d_StairD_reprD) rfl
  have RP_Stair : RpG P w K mg base "Stair" "own_steps" "Stair(" ")" 1 := ⟨_, _, (He.meth_ok (c.d.fact 24 (f := .meth "Stair" "__repr__") rfl)).at_, (He.meth_ok (c.d.fact 24 (f := .meth "Stair" "__repr__") rfl)).fn, fn_repr F_StairD_reprD' sc_StairD_reprD (fun cdv A out s H E => pe_lsf hd.c_Stair hd.n_Stair_own_steps hd.g_list), (F_StairD_reprD'.bindsN fun _ _ _ _ _ _ us hl => match us, hl with | [_], _ => rfl)⟩
  have o_is_integer := ok_is_integer (P := P) (w := w) (base := base) hd  F_is_integer'
  have G_is_integer : FnG P w K mg base "is_integer" ["value"] 1 F_is_integer := ⟨_, _, He.glo_ok X G (c.d.fact 25 (f := .glo "is_integer") rfl), o_is_integer, F_is_integer'.kp, (F_is_integer'.bindsN fun _ _ _ _ _ _ us hl => match us, hl with | [_], _ => rfl)⟩
  have o_is_list := ok_is_list (P := P) (w := w) (base := base) hd  F_is_list'
  have G_is_list : FnG P w K mg base "is_list" ["value"] 1 F_is_list := ⟨_, _, He.glo_ok X G (c.d.fact 26 (f := .glo "is_list") rfl), o_is_list, F_is_list'.kp, (F_is_list'.bindsN fun _ _ _ _ _ _ us hl => match us, hl with | [_], _ => rfl)⟩
  have o_is_step := ok_is_step (P := P) (w := w) (base := base) hd G_is_integer F_is_step'
  have G_is_step : FnG P w K mg base "is_step" ["value"] 2 F_is_step := ⟨_, _, He.glo_ok X G (c.d.fact 27 (f := .glo "is_step") rfl), o_is_step, F_is_step'.kp, (F_is_step'.bindsN fun _ _ _ _ _ _ us hl => match us, hl with | [_], _ => rfl)⟩
  have o_does_rise := ok_does_rise (P := P) (w := w) (base := base) hd  F_does_rise'
  have G_does_rise : FnG P w K mg base "does_rise" ["before", "step"] 1 F_does_rise := ⟨_, _, He.glo_ok X G (c.d.fact 28 (f := .glo "does_rise") rfl), o_does_rise, F_does_rise'.kp, (F_does_rise'.bindsN fun _ _ _ _ _ _ us hl => match us, hl with | [_, _], _ => rfl)⟩
  have o_want_steps := ok_want_steps (P := P) (w := w) (base := base) hd G_is_list G_is_step G_does_rise F_want_steps'
  have G_want_steps : FnG P w K mg base "want_steps" ["steps"] 3 F_want_steps := ⟨_, _, He.glo_ok X G (c.d.fact 29 (f := .glo "want_steps") rfl), o_want_steps, F_want_steps'.kp, (F_want_steps'.bindsN fun _ _ _ _ _ _ us hl => match us, hl with | [_], _ => rfl)⟩
  have o_does_go_on := ok_does_go_on (P := P) (w := w) (base := base) hd  F_does_go_on'
  have G_does_go_on : FnG P w K mg base "does_go_on" ["step", "elder", "newer"] 1 F_does_go_on := ⟨_, _, He.glo_ok X G (c.d.fact 30 (f := .glo "does_go_on") rfl), o_does_go_on, F_does_go_on'.kp, (F_does_go_on'.bindsN fun _ _ _ _ _ _ us hl => match us, hl with | [_, _, _], _ => rfl)⟩
  have o_one_form := ok_one_form (P := P) (w := w) (base := base) hd G_does_go_on F_one_form'
  have G_one_form : FnG P w K mg base "one_form" ["steps"] 2 F_one_form := ⟨_, _, He.glo_ok X G (c.d.fact 31 (f := .glo "one_form") rfl), o_one_form, F_one_form'.kp, (F_one_form'.bindsN fun _ _ _ _ _ _ us hl => match us, hl with | [_], _ => rfl)⟩
  have o_RightStepsD_initD := ok_RightStepsD_initD (P := P) (w := w) (base := base) hd G_one_form F_RightStepsD_initD'
  have o_StairD_initD := ok_StairD_initD (P := P) (w := w) (base := base) hd G_want_steps G_one_form F_StairD_initD'
  have K_Stair : MkG P w K mg base "Stair" ["self", "steps"] 4 F_StairD_initD := ⟨_, _, He.mkr_ok (c.d.fact 32 (f := .mkr "Stair") rfl), He.glo_ok X G (c.d.fact 11 (f := .glo "Stair") rfl), o_StairD_initD, (F_StairD_initD'.bindsN fun _ _ _ _ _ _ us hl => match us, hl with | [_, _], _ => rfl)⟩
  have KK_Stair_steps : MkK P w K mg base "Stair" ["self", "steps"] ["steps"] [0] 4 F_StairD_initD := ⟨_, _, He.mkr_ok (c.d.fact 32 (f := .mkr "Stair") rfl), He.glo_ok X G (c.d.fact 11 (f := .glo "Stair") rfl), o_StairD_initD, kwB_of F_StairD_initD' fun _ _ _ _ _ _ us ws h1 h2 => match us, ws, h1, h2 with | [_], [_], _, _ => rfl⟩
  have o_Stair_steps := ok_Stair_steps (P := P) (w := w) (base := base) hd  F_Stair_steps'
  have M_Stair_steps : MtG P w K mg base "Stair" "steps" ["self"] 1 F_Stair_steps := ⟨_, _, He.meth_ok (c.d.fact 33 (f := .meth "Stair" "steps") rfl), o_Stair_steps, (F_Stair_steps'.bindsN fun _ _ _ _ _ _ us hl => match us, hl with | [_], _ => rfl)⟩
  have oR_Stair_steps := okR_Stair_steps (P := P) (w := w) (base := base) hd  F_Stair_steps'
  have MR_Stair_steps : MtG P w K mg base "Stair" "steps" ["self"] 1 R_Stair_steps := ⟨_, _, He.meth_ok (c.d.fact 33 (f := .meth "Stair" "steps") rfl), oR_Stair_steps, (F_Stair_steps'.bindsN fun _ _ _ _ _ _ us hl => match us, hl with | [_], _ => rfl)⟩
  have o_StairD_lenD := ok_StairD_lenD (P := P) (w := w) (base := base) hd  F_StairD_lenD'
  have O_StairD_lenD : OwnG P w K mg base "Stair" "__len__" ["self"] 1 F_StairD_lenD := ⟨_, _, (He.meth_ok (c.d.fact 34 (f := .meth "Stair" "__len__") rfl)).at_, (He.meth_ok (c.d.fact 34 (f := .meth "Stair" "__len__") rfl)).fn, o_StairD_lenD, (F_StairD_lenD'.bindsN fun _ _ _ _ _ _ us hl => match us, hl with | [_], _ => rfl)⟩
  have o_Stair_kept := ok_Stair_kept (P := P) (w := w) (base := base) hd  F_Stair_kept'
  have P_Stair_kept : PpG P w K mg base "Stair" "kept" ["self"] 1 F_Stair_kept := ⟨_, _, _, propB_ok EX5, o_Stair_kept, (F_Stair_kept'.bindsN fun _ _ _ _ _ _ us hl => match us, hl with | [_], _ => rfl)⟩
  have o_Stair_newer_of := ok_Stair_newer_of (P := P) (w := w) (base := base) hd  F_Stair_newer_of'
  have M_Stair_newer_of : MtG P w K mg base "Stair" "newer_of" ["self", "mark"] 1 F_Stair_newer_of := ⟨_, _, He.meth_ok (c.d.fact 35 (f := .meth "Stair" "newer_of") rfl), o_Stair_newer_of, (F_Stair_newer_of'.bindsN fun _ _ _ _ _ _ us hl => match us, hl with | [_, _], _ => rfl)⟩
  have o_StairD_callD := ok_StairD_callD (P := P) (w := w) (base := base) hd G_is_integer M_Stair_newer_of F_StairD_callD'
  have C_StairD_callD : ClG P w K mg base "Stair" ["self", "mark"] 2 F_StairD_callD := ⟨_, _, ⟨(He.meth_ok (c.d.fact 36 (f := .meth "Stair" "__call__") rfl)).at_, (He.meth_ok (c.d.fact 36 (f := .meth "Stair" "__call__") rfl)).fn, EX6⟩, o_StairD_callD, (F_StairD_callD'.bindsN fun _ _ _ _ _ _ us hl => match us, hl with | [_, _], _ => rfl)⟩
  have CX_StairD_callD_mark : ClK P w K mg base "Stair" ["self", "mark"] ["mark"] [0, 1] 2 F_StairD_callD := ⟨_, _, ⟨(He.meth_ok (c.d.fact 36 (f := .meth "Stair" "__call__") rfl)).at_, (He.meth_ok (c.d.fact 36 (f := .meth "Stair" "__call__") rfl)).fn, EX6⟩, o_StairD_callD, kwB_of F_StairD_callD' fun _ _ _ _ _ _ us ws h1 h2 => match us, ws, h1, h2 with | [_], [_], _, _ => rfl⟩
  have o_StairD_containsD := ok_StairD_containsD (P := P) (w := w) (base := base) hd G_is_integer M_Stair_newer_of F_StairD_containsD'
  have O_StairD_containsD : OwnG P w K mg base "Stair" "__contains__" ["self", "value"] 2 F_StairD_containsD := ⟨_, _, (He.meth_ok (c.d.fact 37 (f := .meth "Stair" "__contains__") rfl)).at_, (He.meth_ok (c.d.fact 37 (f := .meth "Stair" "__contains__") rfl)).fn, o_StairD_containsD, (F_StairD_containsD'.bindsN fun _ _ _ _ _ _ us hl => match us, hl with | [_, _], _ => rfl)⟩
  have o_StairD_eqD := ok_StairD_eqD (P := P) (w := w) (base := base) hd  F_StairD_eqD'
  have O_StairD_eqD : OwnG P w K mg base "Stair" "__eq__" ["self", "other"] 1 F_StairD_eqD := ⟨_, _, (He.meth_ok (c.d.fact 38 (f := .meth "Stair" "__eq__") rfl)).at_, (He.meth_ok (c.d.fact 38 (f := .meth "Stair" "__eq__") rfl)).fn, o_StairD_eqD, (F_StairD_eqD'.bindsN fun _ _ _ _ _ _ us hl => match us, hl with | [_, _], _ => rfl)⟩
  have o_law_pot := ok_law_pot (P := P) (w := w) (base := base) hd  F_law_pot'
  have G_law_pot : FnG P w K mg base "_law_pot" ["_law_script", "_law_k"] 1 F_law_pot := ⟨_, _, He.glo_ok X G (c.d.fact 39 (f := .glo "_law_pot") rfl), o_law_pot, F_law_pot'.kp, (F_law_pot'.bindsN fun _ _ _ _ _ _ us hl => match us, hl with | [_, _], _ => rfl)⟩
  have o_law_draw := ok_law_draw (P := P) (w := w) (base := base) hd  F_law_draw'
  have G_law_draw : FnG P w K mg base "_law_draw" ["_law_pot_here", "_law_size"] 1 F_law_draw := ⟨_, _, He.glo_ok X G (c.d.fact 40 (f := .glo "_law_draw") rfl), o_law_draw, F_law_draw'.kp, (F_law_draw'.bindsN fun _ _ _ _ _ _ us hl => match us, hl with | [_, _], _ => rfl)⟩
  have o_law_steps := ok_law_steps (P := P) (w := w) (base := base) hd G_law_draw F_law_steps'
  have G_law_steps : FnG P w K mg base "_law_steps" ["_law_pot_here", "_law_most"] 2 F_law_steps := ⟨_, _, He.glo_ok X G (c.d.fact 41 (f := .glo "_law_steps") rfl), o_law_steps, F_law_steps'.kp, (F_law_steps'.bindsN fun _ _ _ _ _ _ us hl => match us, hl with | [_, _], _ => rfl)⟩
  have o_law_carry := ok_law_carry (P := P) (w := w) (base := base) hd  F_law_carry'
  have G_law_carry : FnG P w K mg base "_law_carry" ["_law_rows"] 1 F_law_carry := ⟨_, _, He.glo_ok X G (c.d.fact 42 (f := .glo "_law_carry") rfl), o_law_carry, F_law_carry'.kp, (F_law_carry'.bindsN fun _ _ _ _ _ _ us hl => match us, hl with | [_], _ => rfl)⟩
  have o_law_form := ok_law_form (P := P) (w := w) (base := base) hd  F_law_form'
  have G_law_form : FnG P w K mg base "_law_form" ["_law_carry_here"] 1 F_law_form := ⟨_, _, He.glo_ok X G (c.d.fact 43 (f := .glo "_law_form") rfl), o_law_form, F_law_form'.kp, (F_law_form'.bindsN fun _ _ _ _ _ _ us hl => match us, hl with | [_], _ => rfl)⟩
  have o_law_cut := ok_law_cut (P := P) (w := w) (base := base) hd G_law_draw F_law_cut'
  have G_law_cut : FnG P w K mg base "_law_cut" ["_law_pot_here", "_law_rows"] 2 F_law_cut := ⟨_, _, He.glo_ok X G (c.d.fact 44 (f := .glo "_law_cut") rfl), o_law_cut, F_law_cut'.kp, (F_law_cut'.bindsN fun _ _ _ _ _ _ us hl => match us, hl with | [_, _], _ => rfl)⟩
  have o_law_told_right := ok_law_told_right (P := P) (w := w) (base := base) hd G_law_form M_Stair_steps O_StairD_lenD P_Stair_kept RP_Stair C_StairD_callD O_StairD_containsD CX_StairD_callD_mark F_law_told_right'
  have G_law_told_right : FnG P w K mg base "_law_told_right" ["_law_made", "_law_carry_here"] 3 F_law_told_right := ⟨_, _, He.glo_ok X G (c.d.fact 45 (f := .glo "_law_told_right") rfl), o_law_told_right, F_law_told_right'.kp, (F_law_told_right'.bindsN fun _ _ _ _ _ _ us hl => match us, hl with | [_, _], _ => rfl)⟩
  have o_law_right := ok_law_right (P := P) (w := w) (base := base) hd G_law_steps G_law_carry K_Stair G_law_cut KK_Stair_steps G_law_told_right MR_Stair_steps O_StairD_eqD M_Stair_steps F_law_right'
  have G_law_right : FnG P w K mg base "_law_right" ["_law_pot_here"] 6 F_law_right := ⟨_, _, He.glo_ok X G (c.d.fact 46 (f := .glo "_law_right") rfl), o_law_right, F_law_right'.kp, (F_law_right'.bindsN fun _ _ _ _ _ _ us hl => match us, hl with | [_], _ => rfl)⟩
  have o_law := ok_law (P := P) (w := w) (base := base) hd G_law_pot G_law_right F_law'
  exact o_law
end K11


set_option Elab.async false
set_option linter.all false
set_option maxRecDepth 100000
/-! TnBase: typed values of denotations. A frame's slots and own cells by a pattern; what a denotation comes to. -/
namespace Tn
open PySem L2 Dn

/-- a slot: unknown, a value, a cell of its own -/
inductive Sl where
  | un | pl (d : D) | ow (c : Cell)
structure Rw (A : Om) (P : List Sl) (Γ : Gm) (Ω : Om) : Prop where
  len : P.length = Γ.length
  base : ∃ W, Ω = A ++ W
  pl : ∀ (i : Nat) d, P[i]? = some (.pl d) → Γ[i]? = some (some d)
  ow : ∀ (i : Nat) c, P[i]? = some (.ow c) → ∃ n, Γ[i]? = some (some (.ref n)) ∧ A.length ≤ n ∧ Ω[n]? = some c
  dis : ∀ (i j : Nat) c c' n, P[i]? = some (.ow c) → P[j]? = some (.ow c') → Γ[i]? = some (some (.ref n)) → Γ[j]? = some (some (.ref n)) → i = j
  pure : PureΩ Ω
/-- the outer cells come to A', the frame's own stay -/
structure Ext (A' : Om) (Ω Ω' : Om) : Prop where
  base : ∃ W, Ω' = A' ++ W
  pure : PureΩ Ω'
  keep : ∀ n : Nat, A'.length ≤ n → n < Ω.length → Ω'[n]? = Ω[n]?
theorem Rw.refl {A : Om} {P : List Sl} {Γ : Gm} {Ω : Om} (w : Rw A P Γ Ω) : Ext A Ω Ω := ⟨w.base, w.pure, fun _ _ _ => rfl⟩
theorem Rw.ext {A A' : Om} {P : List Sl} {Γ : Gm} {Ω Ω' : Om} (w : Rw A P Γ Ω) (x : Ext A' Ω Ω') (hl : A'.length = A.length) : Rw A' P Γ Ω' :=
  ⟨w.len, x.base, w.pl, fun i c h => by
    obtain ⟨n, z1, z2, z3⟩ := w.ow i c h
    refine ⟨n, z1, by rw [hl]; exact z2, ?_⟩
    rw [x.keep n (by rw [hl]; exact z2) (List.getElem?_eq_some_iff.mp z3).1]
    exact z3, w.dis, x.pure⟩
theorem Ext.trans {A1 A2 Ω Ω1 Ω2 : Om} (x : Ext A1 Ω Ω1) (y : Ext A2 Ω1 Ω2) (hl : A2.length = A1.length) : Ext A2 Ω Ω2 :=
  ⟨y.base, y.pure, fun n h1 h2 => by
    have e := x.keep n (by rw [← hl]; exact h1) h2
    have h3 : n < Ω1.length := by
      rw [List.getElem?_eq_getElem h2] at e
      exact (List.getElem?_eq_some_iff.mp e).1
    rw [y.keep n h1 h3, e]⟩
/-- f comes to a -/
def TE {α : Type} (A : Om) (P : List Sl) (f : Den α) (a : α) (A' : Om) : Prop := A'.length = A.length ∧ ∀ Γ Ω, Rw A P Γ Ω → ∃ Ω', f Γ Ω = some (.ok a, Ω') ∧ Ext A' Ω Ω'
inductive Fo where
  | nx (P : List Sl) | rt (d : D) | rc (c : Cell)
def TBo (A : Om) (b : DenS) (Γ : Gm) (Ω : Om) (A' : Om) : Fo → Prop
  | .nx P' => ∃ Γ' Ω', b Γ Ω = some (.nx, Γ', Ω') ∧ Rw A' P' Γ' Ω'
  | .rt d => ∃ Γ' Ω', b Γ Ω = some (.rt d, Γ', Ω') ∧ (∃ W, Ω' = A' ++ W) ∧ PureΩ Ω'
  | .rc c => ∃ Γ' Ω' n, b Γ Ω = some (.rt (.ref n), Γ', Ω') ∧ (∃ W, Ω' = A' ++ W) ∧ PureΩ Ω' ∧ A.length ≤ n ∧ Ω'[n]? = some c
def TB (A : Om) (P : List Sl) (b : DenS) (o : Fo) (A' : Om) : Prop := A'.length = A.length ∧ ∀ Γ Ω, Rw A P Γ Ω → TBo A b Γ Ω A' o

/-! ### patterns -/
inductive Pw : List Sl → List Sl → Prop where
  | nil : Pw [] []
  | same {s : Sl} {P Q : List Sl} : Pw P Q → Pw (s :: P) (s :: Q)
  | un {s : Sl} {P Q : List Sl} : Pw P Q → Pw (s :: P) (.un :: Q)
theorem Pw.rfl : ∀ {P : List Sl}, Pw P P
  | [] => .nil
  | _ :: _ => .same Pw.rfl
theorem Pw.len : ∀ {P Q : List Sl}, Pw P Q → Q.length = P.length
  | _, _, .nil => Eq.refl _
  | _, _, .same h => by simp [h.len]
  | _, _, .un h => by simp [h.len]
theorem Pw.at : ∀ {P Q : List Sl} (_ : Pw P Q) (i : Nat) (s : Sl), Q[i]? = some s → s = .un ∨ P[i]? = some s
  | _, _, .nil, i, s, e => by simp at e
  | _, _, .same h, 0, s, e => .inr e
  | _, _, .same h, i + 1, s, e => by
    have := h.at i s (by simpa using e)
    simpa using this
  | _, _, .un h, 0, s, e => by simp at e; exact .inl e.symm
  | _, _, .un h, i + 1, s, e => by
    have := h.at i s (by simpa using e)
    simpa using this
section
variable {A A1 A2 A' : Om} {P P1 Q : List Sl} {Γ : Gm} {Ω : Om}
theorem Rw.weak (r : Rw A P Γ Ω) (w : Pw P Q) : Rw A Q Γ Ω := by
  refine ⟨w.len.trans r.len, r.base, fun i d h => ?_, fun i c h => ?_, fun i j c c' n h1 h2 => ?_, r.pure⟩
  · rcases w.at i _ h with z | z
    · cases z
    · exact r.pl i d z
  · rcases w.at i _ h with z | z
    · cases z
    · exact r.ow i c z
  · rcases w.at i _ h1 with z | z
    · cases z
    · rcases w.at j _ h2 with y | y
      · cases y
      · exact r.dis i j c c' n z y
theorem getElem?_set_cases {α : Type} {l : List α} {i j : Nat} {a b : α} (h : (l.set i a)[j]? = some b) : (j = i ∧ b = a ∧ i < l.length) ∨ (j ≠ i ∧ l[j]? = some b) := by
  by_cases e : j = i
  · subst e
    have hl : j < l.length := by
      have := (List.getElem?_eq_some_iff.mp h).1
      rwa [List.length_set] at this
    rw [List.getElem?_set_self hl] at h
    exact .inl ⟨rfl, (Option.some.inj h).symm, hl⟩
  · rw [List.getElem?_set_ne (Ne.symm e)] at h
    exact .inr ⟨e, h⟩
theorem Rw.set (r : Rw A P Γ Ω) (i : Nat) (d : D) : Rw A (P.set i (.pl d)) (Γ.set i (some d)) Ω := by
  refine ⟨by rw [List.length_set, List.length_set, r.len], r.base, fun j e h => ?_, fun j c h => ?_, fun j k c c' n h1 h2 h3 h4 => ?_, r.pure⟩
  · rcases getElem?_set_cases h with ⟨rfl, e1, hl⟩ | ⟨hj, h⟩
    · cases e1
      rw [List.getElem?_set_self (by rw [← r.len]; exact hl)]
    · rw [List.getElem?_set_ne (Ne.symm hj)]
      exact r.pl j e h
  · rcases getElem?_set_cases h with ⟨rfl, e1, hl⟩ | ⟨hj, h⟩
    · cases e1
    · rw [List.getElem?_set_ne (Ne.symm hj)]
      exact r.ow j c h
  · rcases getElem?_set_cases h1 with ⟨rfl, e1, hl⟩ | ⟨hj, h1⟩
    · cases e1
    · rcases getElem?_set_cases h2 with ⟨rfl, e1, hl⟩ | ⟨hk, h2⟩
      · cases e1
      · rw [List.getElem?_set_ne (Ne.symm hj)] at h3
        rw [List.getElem?_set_ne (Ne.symm hk)] at h4
        exact r.dis j k c c' n h1 h2 h3 h4
/-- a new cell of one's own -/
theorem Rw.new (r : Rw A P Γ Ω) (i : Nat) (c : Cell) (hc : cellBelow 0 c = true) : Rw A (P.set i (.ow c)) (Γ.set i (some (.ref Ω.length))) (Ω ++ [c]) := by
  have hb : A.length ≤ Ω.length := by obtain ⟨W, e⟩ := r.base; rw [e]; simp
  refine ⟨by rw [List.length_set, List.length_set, r.len], ?_, fun j e h => ?_, fun j c' h => ?_, fun j k c1 c2 n h1 h2 h3 h4 => ?_, r.pure.add hc⟩
  · obtain ⟨W, e⟩ := r.base
    exact ⟨W ++ [c], by rw [e, List.append_assoc]⟩
  · rcases getElem?_set_cases h with ⟨rfl, e1, hl⟩ | ⟨hj, h⟩
    · cases e1
    · rw [List.getElem?_set_ne (Ne.symm hj)]
      exact r.pl j e h
  · rcases getElem?_set_cases h with ⟨rfl, e1, hl⟩ | ⟨hj, h⟩
    · cases e1
      exact ⟨Ω.length, by rw [List.getElem?_set_self (by rw [← r.len]; exact hl)], hb, by simp⟩
    · obtain ⟨n, z1, z2, z3⟩ := r.ow j c' h
      refine ⟨n, by rw [List.getElem?_set_ne (Ne.symm hj)]; exact z1, z2, ?_⟩
      rw [List.getElem?_append_left (List.getElem?_eq_some_iff.mp z3).1]
      exact z3
  · rcases getElem?_set_cases h1 with ⟨rfl, e1, hl⟩ | ⟨hj, h1⟩
    · rcases getElem?_set_cases h2 with ⟨rfl, e2, hk⟩ | ⟨hk, h2⟩
      · rfl
      · rw [List.getElem?_set_self (by rw [← r.len]; exact hl)] at h3
        cases h3
        rw [List.getElem?_set_ne (Ne.symm hk)] at h4
        obtain ⟨n, z1, z2, z3⟩ := r.ow k c2 h2
        rw [z1] at h4
        cases h4
        have := (List.getElem?_eq_some_iff.mp z3).1
        omega
    · have h1' := h1
      rcases getElem?_set_cases h2 with ⟨ek, e2, hk⟩ | ⟨hk, h2⟩
      · rw [ek, List.getElem?_set_self (by rw [← r.len]; exact hk)] at h4
        cases h4
        rw [List.getElem?_set_ne (Ne.symm hj)] at h3
        obtain ⟨n, z1, z2, z3⟩ := r.ow j c1 h1'
        rw [z1] at h3
        cases h3
        have := (List.getElem?_eq_some_iff.mp z3).1
        omega
      · rw [List.getElem?_set_ne (Ne.symm hj)] at h3
        rw [List.getElem?_set_ne (Ne.symm hk)] at h4
        exact r.dis j k c1 c2 n h1 h2 h3 h4
/-- a cell of one's own is changed -/
theorem Rw.chg (r : Rw A P Γ Ω) {i n : Nat} {c c' : Cell} (hi : P[i]? = some (.ow c)) (hn : Γ[i]? = some (some (.ref n))) (hc : cellBelow 0 c' = true) : Rw A (P.set i (.ow c')) Γ (Ω.set n c') := by
  obtain ⟨n', z1, z2, z3⟩ := r.ow i c hi
  rw [hn] at z1
  cases z1
  refine ⟨by rw [List.length_set, r.len], ?_, fun j e h => ?_, fun j c1 h => ?_, fun j k c1 c2 m h1 h2 h3 h4 => ?_, r.pure.set hc⟩
  · obtain ⟨W, e⟩ := r.base
    exact ⟨W.set (n - A.length) c', by rw [e, List.set_append_right _ _ z2]⟩
  · rcases getElem?_set_cases h with ⟨rfl, e1, hl⟩ | ⟨hj, h⟩
    · cases e1
    · exact r.pl j e h
  · rcases getElem?_set_cases h with ⟨rfl, e1, hl⟩ | ⟨hj, h⟩
    · cases e1
      exact ⟨n, hn, z2, by rw [List.getElem?_set_self (List.getElem?_eq_some_iff.mp z3).1]⟩
    · obtain ⟨m, y1, y2, y3⟩ := r.ow j c1 h
      refine ⟨m, y1, y2, ?_⟩
      have hm : n ≠ m := fun e => by
        subst e
        exact hj (r.dis j i c1 c n h hi y1 hn)
      rw [List.getElem?_set_ne hm]
      exact y3
  · rcases getElem?_set_cases h1 with ⟨rfl, e1, hl⟩ | ⟨hj, h1⟩
    · rcases getElem?_set_cases h2 with ⟨rfl, e2, hk⟩ | ⟨hk, h2⟩
      · rfl
      · exact r.dis j k _ c2 m hi h2 h3 h4
    · rcases getElem?_set_cases h2 with ⟨ek, e2, hk⟩ | ⟨hk, h2⟩
      · exact r.dis j k c1 _ m h1 (by rw [ek]; exact hi) h3 h4
      · exact r.dis j k c1 c2 m h1 h2 h3 h4
/-- the cells ahead of the frame's are changed -/
theorem Rw.outer (r : Rw A P Γ Ω) {n : Nat} {c : Cell} (hn : n < A.length) (hc : cellBelow 0 c = true) : Rw (A.set n c) P Γ (Ω.set n c) := by
  refine ⟨r.len, ?_, r.pl, fun i c' h => ?_, r.dis, r.pure.set hc⟩
  · obtain ⟨W, e⟩ := r.base
    exact ⟨W, by rw [e, List.set_append_left _ _ hn]⟩
  · obtain ⟨m, y1, y2, y3⟩ := r.ow i c' h
    refine ⟨m, y1, by rw [List.length_set]; exact y2, ?_⟩
    rw [List.getElem?_set_ne (by omega)]
    exact y3
end
/-! ### expressions -/
section
variable {α β : Type} {A A1 A2 A' : Om} {P P1 Q : List Sl} {f g : Den D} {d x y : D} {ds : List D} {r : Den (List D)}
theorem te_bnd {f : Den α} {k : α → Den β} {a : α} {b : β} (h1 : TE A P f a A1) (h2 : TE A1 P (k a) b A2) : TE A P (bnd f k) b A2 := by
  refine ⟨h2.1.trans h1.1, fun Γ Ω w => ?_⟩
  obtain ⟨Ω1, e1, w1⟩ := h1.2 Γ Ω w
  obtain ⟨Ω2, e2, w2⟩ := h2.2 Γ Ω1 (w.ext w1 h1.1)
  exact ⟨Ω2, by unfold bnd; rw [e1, bR_ok]; exact e2, w1.trans w2 h2.1⟩
theorem te_now {f : Den α} {a : α} (h : ∀ Γ Ω, f Γ Ω = some (.ok a, Ω)) : TE A P f a A := ⟨rfl, fun Γ Ω w => ⟨Ω, h Γ Ω, w.refl⟩⟩
theorem te_c {a : α} : TE A P (fC a) a A := te_now fun _ _ => rfl
theorem te_var {i : Nat} (h : P[i]? = some (.pl d) := by rfl) : TE A P (fVar i) d A := ⟨rfl, fun Γ Ω w => ⟨Ω, by unfold fVar; rw [w.pl i d h], w.refl⟩⟩
theorem te_bin {op : Op2} {z : D} (h1 : TE A P f x A1) (h2 : TE A1 P g y A2) (ho : ∀ Ω, op x y Ω = some (.ok z, Ω) := by intro _; rfl) : TE A P (fBin op f g) z A2 := te_bnd h1 (te_bnd h2 (te_now fun _ Ω => ho Ω))
theorem te_un {op : Op1} {z : D} (h1 : TE A P f x A1) (ho : ∀ Ω, op x Ω = some (.ok z, Ω) := by intro _; rfl) : TE A P (fUn op f) z A1 := te_bnd h1 (te_now fun _ Ω => ho Ω)
theorem te_nil : TE A P fNil [] A := te_c
theorem te_cons (h1 : TE A P f d A1) (h2 : TE A1 P r ds A2) : TE A P (fCons f r) (d :: ds) A2 := te_bnd h1 (te_bnd h2 te_c)
theorem te_tup (h : TE A P r ds A1) (hl : ds.length ≤ 100000 := by exact Nat.le_of_ble_eq_true rfl) : TE A P (fTup r) (.tup ds) A1 := te_bnd h (te_now fun _ Ω => if_pos hl)
theorem te_lst (h : TE A P r ds A1) (hl : ds.length ≤ 100000 := by exact Nat.le_of_ble_eq_true rfl) : TE A P (fLst r) (.lst ds) A1 := te_bnd h (te_now fun _ Ω => if_pos hl)
theorem te_cb {op : OpA} {z : D} (h : TE A P r ds A1) (ho : ∀ Ω, op ds Ω = some (.ok z, Ω) := by intro _; rfl) : TE A P (fCB op r) z A1 := te_bnd h (te_now fun _ Ω => ho Ω)
theorem te_is {g : Om → D → Option Bool} {b : Bool} (h : TE A P f d A1) (ho : ∀ Ω, g Ω d = some b := by intro _; rfl) : TE A P (fIs g f) (.bl b) A1 := te_bnd h (te_now fun _ Ω => by show (match g Ω d with | some b => _ | none => none) = _; rw [ho])
/-! tests -/
variable {p q : Den Bool} {b b' : Bool}
theorem tt_val (h : TE A P f (.bl b) A1) : TE A P (fT f) b A1 := te_bnd h (te_now fun _ _ => rfl)
theorem tt_not (h : TE A P p b A1) : TE A P (fNot p) (!b) A1 := te_bnd h te_c
theorem tt_and (h1 : TE A P p b A1) (h2 : b = true → TE A1 P q b' A1) : TE A P (fAnd p q) (b && b') A1 := te_bnd h1 (by
  cases b with
  | true => exact h2 rfl
  | false => exact te_c)
theorem tt_or (h1 : TE A P p b A1) (h2 : b = false → TE A1 P q b' A1) : TE A P (fOr p q) (b || b') A1 := te_bnd h1 (by
  cases b with
  | true => exact te_c
  | false => exact h2 rfl)
/-- the later part may fail -/
def andO (b : Bool) (t : Option Bool) : Option Bool := match b with
  | true => t
  | false => some false
def orO (b : Bool) (t : Option Bool) : Option Bool := match b with
  | true => some true
  | false => t
def ifO {α : Type} (b : Bool) (t u : Option α) : Option α := match b with
  | true => t
  | false => u
theorem tt_andO {t : Option Bool} {c : Bool} (h1 : TE A P p b A1) (hc : andO b t = some c) (h2 : ∀ v, t = some v → TE A1 P q v A1) : TE A P (fAnd p q) c A1 := te_bnd h1 (by
  cases b with
  | true => exact h2 c hc
  | false => cases hc; exact te_c)
theorem tt_orO {t : Option Bool} {c : Bool} (h1 : TE A P p b A1) (hc : orO b t = some c) (h2 : ∀ v, t = some v → TE A1 P q v A1) : TE A P (fOr p q) c A1 := te_bnd h1 (by
  cases b with
  | true => cases hc; exact te_c
  | false => exact h2 c hc)
theorem te_and (h1 : TE A P f (.bl b) A1) (h2 : b = true → TE A1 P g (.bl b') A1) : TE A P (fAndV f g) (.bl (b && b')) A1 := te_bnd (tt_val h1) (by
  cases b with
  | true => exact h2 rfl
  | false => exact te_c)
theorem te_or (h1 : TE A P f (.bl b) A1) (h2 : b = false → TE A1 P g (.bl b') A1) : TE A P (fOrV f g) (.bl (b || b')) A1 := te_bnd (tt_val h1) (by
  cases b with
  | true => exact te_c
  | false => exact h2 rfl)
theorem te_andO {t : Option Bool} {c : Bool} (h1 : TE A P f (.bl b) A1) (hc : andO b t = some c) (h2 : ∀ v, t = some v → TE A1 P g (.bl v) A1) : TE A P (fAndV f g) (.bl c) A1 := te_bnd (tt_val h1) (by
  cases b with
  | true => exact h2 c hc
  | false => cases hc; exact te_c)
theorem te_orO {t : Option Bool} {c : Bool} (h1 : TE A P f (.bl b) A1) (hc : orO b t = some c) (h2 : ∀ v, t = some v → TE A1 P g (.bl v) A1) : TE A P (fOrV f g) (.bl c) A1 := te_bnd (tt_val h1) (by
  cases b with
  | true => cases hc; exact te_c
  | false => exact h2 c hc)
theorem te_not (h : TE A P f (.bl b) A1) : TE A P (fNotV f) (.bl (!b)) A1 := te_bnd (tt_not (tt_val h)) te_c
theorem te_ifO {ta tb : Option β} {c : β} {e : β → D} (h1 : TE A P p b A1) (hc : ifO b ta tb = some c) (h2 : ∀ v, ta = some v → TE A1 P f (e v) A2) (h3 : ∀ v, tb = some v → TE A1 P g (e v) A2) : TE A P (fIf p f g) (e c) A2 := te_bnd h1 (by
  cases b with
  | true => exact h2 c hc
  | false => exact h3 c hc)
theorem te_castS {α : Type} {f : Den α} {v c : α} (h : some v = some c) (t : TE A P f v A1) : TE A P f c A1 := by cases h; exact t
theorem te_castE {e : β → D} {v c : β} (h : some v = some c) (t : TE A P f (e v) A1) : TE A P f (e c) A1 := by cases h; exact t
/-- a chain of two comparisons -/
theorem te_chain {o o' : Op2} {h : Den D} {z : D} (h1 : TE A P f x A1) (h2 : TE A1 P g y A2) (ho : ∀ Ω, o x y Ω = some (.ok (.bl b), Ω)) (h3 : TE A2 P h z A2) (ho' : ∀ Ω, o' y z Ω = some (.ok (.bl b'), Ω)) : TE A P (fChain o o' f g h) (.bl (b && b')) A2 :=
  te_bnd h1 (te_bnd h2 (te_bnd (tt_val (te_now fun _ Ω => ho Ω)) (by
    cases b with
    | true => exact te_bnd h3 (te_now fun _ Ω => ho' Ω)
    | false => exact te_c)))
/-! an operand that is one's own cell -/
theorem te_owL {i : Nat} {op : Op2} {c : Cell} {z : D} (hi : P[i]? = some (.ow c)) (h2 : TE A P g y A1) (ho : ∀ Ω n, Ω[n]? = some c → op (.ref n) y Ω = some (.ok z, Ω)) : TE A P (fBin op (fVar i) g) z A1 := by
  refine ⟨h2.1, fun Γ Ω w => ?_⟩
  obtain ⟨n, z1, z2, z3⟩ := w.ow i c hi
  obtain ⟨Ω1, e1, w1⟩ := h2.2 Γ Ω w
  obtain ⟨n', y1, y2, y3⟩ := (w.ext w1 h2.1).ow i c hi
  rw [z1] at y1
  cases y1
  refine ⟨Ω1, ?_, w1⟩
  unfold fBin bnd fVar
  rw [z1]
  dsimp only
  rw [bR_ok, e1, bR_ok]
  exact ho Ω1 n y3
theorem te_owR {i : Nat} {op : Op2} {c : Cell} {z : D} (h1 : TE A P f x A1) (hi : P[i]? = some (.ow c)) (ho : ∀ Ω n, Ω[n]? = some c → op x (.ref n) Ω = some (.ok z, Ω)) : TE A P (fBin op f (fVar i)) z A1 := te_bnd h1 (by
  refine ⟨rfl, fun Γ Ω w => ?_⟩
  obtain ⟨n, z1, z2, z3⟩ := w.ow i c hi
  refine ⟨Ω, ?_, w.refl⟩
  unfold bnd fVar
  rw [z1]
  dsimp only
  rw [bR_ok]
  exact ho Ω n z3)
theorem te_owB {i : Nat} {op : OpA} {c : Cell} {z : D} (hi : P[i]? = some (.ow c)) (ho : ∀ Ω n, Ω[n]? = some c → op [.ref n] Ω = some (.ok z, Ω)) : TE A P (fCB op (fCons (fVar i) fNil)) z A := by
  refine ⟨rfl, fun Γ Ω w => ?_⟩
  obtain ⟨n, z1, z2, z3⟩ := w.ow i c hi
  refine ⟨Ω, ?_, w.refl⟩
  unfold fCB fCons fNil bnd fVar fC
  rw [z1]
  dsimp only
  rw [bR_ok, bR_ok, bR_ok]
  exact ho Ω n z3
/-! calls -/
variable {F : FD} {n k : Nat}
def Sp0 (F : FD) (ds : List D) (d : D) : Prop := ∀ Ω, PureΩ Ω → F ds Ω = some (.ok d, Ω)
abbrev Pot := Int × Int
def potC (p : Pot) : Cell := .lst [.int p.1, .int p.2]
def SpP (F : FD) (ds : List D) (n : Nat) (p : Pot) (d : D) (p' : Pot) : Prop := ∀ Ω, PureΩ Ω → Ω[n]? = some (potC p) → F ds Ω = some (.ok d, Ω.set n (potC p'))
/-- the outer cells with the pot at n -/
def pA (A : Om) (n : Nat) (p : Pot) : Om := A.set n (potC p)
theorem pA_len {p : Pot} : (pA A n p).length = A.length := by unfold pA; simp
theorem te_sp0 {r : Den (List D)} (h : TE A P r ds A1) (hF : Sp0 F ds d) : TE A P (bnd r fun ds _ Ω => F ds Ω) d A1 := te_bnd h ⟨rfl, fun Γ Ω w => ⟨Ω, hF Ω w.pure, w.refl⟩⟩
theorem te_call0 (h : TE A P r ds A1) (hF : Sp0 F ds d) (hl : ds.length = k := by rfl) : TE A P (fCall k F r) d A1 := te_bnd h ⟨rfl, fun Γ Ω w => ⟨Ω, by dsimp only; rw [if_pos hl]; exact hF Ω w.pure, w.refl⟩⟩
theorem rw_pot {p : Pot} {Γ : Gm} {Ω : Om} (hn : n < A.length) (w : Rw (pA A n p) P Γ Ω) : Ω[n]? = some (potC p) := by
  obtain ⟨W, e⟩ := w.base
  rw [e, List.getElem?_append_left (by rw [pA_len]; exact hn)]
  unfold pA
  rw [List.getElem?_set_self hn]
theorem rw_potN {p p' : Pot} {Γ : Gm} {Ω : Om} (hn : n < A.length) (w : Rw (pA A n p) P Γ Ω) : Rw (pA A n p') P Γ (Ω.set n (potC p')) := by
  have := w.outer (n := n) (c := potC p') (by rw [pA_len]; exact hn) rfl
  unfold pA at this ⊢
  rwa [List.set_set] at this
theorem ext_pot {p p' : Pot} {Γ : Gm} {Ω : Om} (hn : n < A.length) (w : Rw (pA A n p) P Γ Ω) : Ext (pA A n p') Ω (Ω.set n (potC p')) :=
  ⟨(rw_potN hn w).base, (rw_potN (p' := p') hn w).pure, fun m h1 _ => by rw [List.getElem?_set_ne (by rw [pA_len] at h1; omega)]⟩
theorem te_callP {p p' : Pot} (hn : n < A.length) {A0 : Om} (h : TE A0 P r ds (pA A n p)) (hF : SpP F ds n p d p') (hl : ds.length = k := by rfl) : TE A0 P (fCall k F r) d (pA A n p') := te_bnd h (by
  refine ⟨by rw [pA_len, pA_len], fun Γ Ω w => ⟨Ω.set n (potC p'), ?_, ext_pot hn w⟩⟩
  dsimp only
  rw [if_pos hl]
  exact hF Ω w.pure (rw_pot hn w))
/-! instances -/
variable {c mt fl : Str} {fs gs : List (Str × D)}
theorem asO_obj {Ω : Om} : asO c Ω (.obj c fs) = some fs := by unfold asO; simp
theorem te_fld {v : D} (h : TE A P f (.obj c fs) A1) (hv : lkF fs fl = some v := by rfl) : TE A P (fUn (dFld c fl) f) v A1 := te_un h fun Ω => by
  unfold dFld
  rw [asO_obj]
  dsimp only
  rw [show List.lookup fl fs = some v from hv]
theorem te_meth (h : TE A P f (.obj c fs) A1) (h2 : TE A1 P r ds A2) (hF : Sp0 F (.obj c fs :: ds) d) (hm : fs.lookup mt = none := by rfl) (hl : (D.obj c fs :: ds).length = k := by rfl) : TE A P (fMeth c mt k F f r) d A2 := te_bnd h (by
  refine ⟨h2.1, fun Γ Ω w => ?_⟩
  obtain ⟨Ω2, e2, w2⟩ := h2.2 Γ Ω w
  refine ⟨Ω2, ?_, w2⟩
  dsimp only
  rw [asO_obj]
  dsimp only
  rw [hm]
  dsimp only
  rw [e2, bR_ok, if_pos hl]
  exact hF Ω2 (w.ext w2 h2.1).pure)
theorem te_methK {ix : List Nat} {l : Nat} (h : TE A P f (.obj c fs) A1) (h2 : TE A1 P r ds A2) (hF : Sp0 F (reord ix (.obj c fs :: ds)) d) (hm : fs.lookup mt = none := by rfl) (hl : ds.length = l ∧ (reord ix (D.obj c fs :: ds)).length = k := by exact ⟨rfl, rfl⟩) : TE A P (fMethK c mt k l ix F f r) d A2 := te_bnd h (by
  refine ⟨h2.1, fun Γ Ω w => ?_⟩
  obtain ⟨Ω2, e2, w2⟩ := h2.2 Γ Ω w
  refine ⟨Ω2, ?_, w2⟩
  dsimp only
  rw [asO_obj]
  dsimp only
  rw [hm]
  dsimp only
  rw [e2, bR_ok, if_pos hl]
  exact hF Ω2 (w.ext w2 h2.1).pure)
/-- C(..) comes to an instance -/
def SpM (c : Str) (k : Nat) (F : FD) (ds : List D) (d : D) : Prop := ∀ Ω, PureΩ Ω → mkD c k F ds Ω = some (.ok d, Ω)
theorem te_make (h : TE A P r ds A1) (hF : SpM c k F ds d) : TE A P (fMake c k F r) d A1 := te_bnd h ⟨rfl, fun Γ Ω w => ⟨Ω, hF Ω w.pure, w.refl⟩⟩
theorem te_ownB (h1 : TE A P f (.obj c fs) A1) (h2 : TE A1 P g (.obj c gs) A2) (hF : Sp0 F [.obj c fs, .obj c gs] (.bl b)) : TE A P (fBin (dOwn c 2 F) f g) (.bl b) A2 := te_bnd h1 (te_bnd h2 ⟨rfl, fun Γ Ω w => ⟨Ω, by
  show dOwn c 2 F _ _ Ω = _
  unfold dOwn
  rw [asO_obj]
  dsimp only
  rw [asO_obj]
  dsimp only
  rw [if_pos (show [_, _].length = 2 from rfl), hF Ω w.pure], w.refl⟩⟩)
theorem te_binO {c' : Str} {hs : List (Str × D)} (h1 : TE A P f (.obj c fs) A1) (h2 : TE A1 P g (.obj c gs) A2) (hF : Sp0 F [.obj c fs, .obj c gs] (.obj c' hs)) : TE A P (fBin (dBinO c 2 F) f g) (.obj c' hs) A2 := te_bnd h1 (te_bnd h2 ⟨rfl, fun Γ Ω w => ⟨Ω, by
  show dBinO c 2 F _ _ Ω = _
  unfold dBinO
  rw [asO_obj]
  dsimp only
  rw [asO_obj]
  dsimp only
  rw [if_pos (show [_, _].length = 2 from rfl), hF Ω w.pure], w.refl⟩⟩)
theorem te_unO (h1 : TE A P f (.obj c fs) A1) (hF : Sp0 F [.obj c fs] d) : TE A P (fUn (dUnO c 1 F) f) d A1 := te_bnd h1 ⟨rfl, fun Γ Ω w => ⟨Ω, by
  show dUnO c 1 F _ Ω = _
  unfold dUnO
  rw [asO_obj]
  dsimp only
  rw [if_pos (show [_].length = 1 from rfl), hF Ω w.pure], w.refl⟩⟩
end
/-! ### walks' sources -/
section
variable {A A1 : Om} {P : List Sl} {f : Den D} {ds : List D} {r : Den (List D)}
theorem ti_lst (h : TE A P f (.lst ds) A1) : TE A P (fSeq f) ds A1 := te_bnd h (te_now fun _ _ => rfl)
theorem ti_tup (h : TE A P f (.tup ds) A1) : TE A P (fSeq f) ds A1 := te_bnd h (te_now fun _ _ => rfl)
theorem ti_range1 {j : Int} (h : TE A P r [.int j] A1) (hj : -(2 ^ 62) ≤ j ∧ j < 2 ^ 62) : TE A P (fRange1 r) (rangeD 0 j.toNat) A1 := te_bnd h (te_now fun _ _ => if_pos hj)
theorem ti_range2 {i j : Int} (h : TE A P r [.int i, .int j] A1) (hj : -(2 ^ 62) ≤ i ∧ i < 2 ^ 62 ∧ -(2 ^ 62) ≤ j ∧ j < 2 ^ 62) : TE A P (fRange2 r) (rangeD i (j - i).toNat) A1 := te_bnd h (te_now fun _ _ => if_pos hj)
theorem ti_enum (h : TE A P r [.lst ds] A1) : TE A P (fEnum r) (enumD 0 ds) A1 := te_bnd h (te_now fun _ _ => rfl)
theorem ti_keys {i : Nat} {kvs : List (Key × D)} (h : P[i]? = some (.pl (.dct kvs)) := by rfl) : TE A P (fKeys i) (keysD kvs) A := ⟨rfl, fun Γ Ω w => ⟨Ω, by unfold fKeys; rw [w.pl i _ h], w.refl⟩⟩
end
end Tn


set_option Elab.async false
set_option linter.all false
set_option maxRecDepth 100000
/-! TnStm: statements, walks, defs. -/
namespace Tn
open PySem L2 Dn
section
variable {α β σ ρ : Type} {A A1 A2 A' : Om} {P P1 P2 Q : List Sl} {f g : Den D} {d x y : D} {ds : List D} {r : Den (List D)} {b b1 b2 : DenS} {o : Fo} {i j k n : Nat}
theorem tb_skip : TB A P sSkip (.nx P) A := ⟨rfl, fun Γ Ω w => ⟨Γ, Ω, rfl, w⟩⟩
theorem tb_weak (h : TB A P b (.nx P1) A1) (w : Pw P1 Q) : TB A P b (.nx Q) A1 := ⟨h.1, fun Γ Ω r => by
  obtain ⟨Γ', Ω', e, r'⟩ := h.2 Γ Ω r
  exact ⟨Γ', Ω', e, r'.weak w⟩⟩
theorem tb_pre (w : Pw P Q) (h : TB A Q b o A1) : TB A P b o A1 := ⟨h.1, fun Γ Ω r => h.2 Γ Ω (r.weak w)⟩
theorem tb_seq (h1 : TB A P b1 (.nx P1) A1) (h2 : TB A1 P1 b2 o A2) : TB A P (sSeq b1 b2) o A2 := ⟨h2.1.trans h1.1, fun Γ Ω r => by
  obtain ⟨Γ1, Ω1, e1, r1⟩ := h1.2 Γ Ω r
  have h := h2.2 Γ1 Ω1 r1
  have e : sSeq b1 b2 Γ Ω = b2 Γ1 Ω1 := seq_nx e1
  cases o with
  | nx P2 => obtain ⟨Γ2, Ω2, e2, z⟩ := h; exact ⟨Γ2, Ω2, e.trans e2, z⟩
  | rt d => obtain ⟨Γ2, Ω2, e2, z⟩ := h; exact ⟨Γ2, Ω2, e.trans e2, z⟩
  | rc c => obtain ⟨Γ2, Ω2, n, e2, z1, z2, z3, z4⟩ := h; exact ⟨Γ2, Ω2, n, e.trans e2, z1, z2, by rw [← h1.1]; exact z3, z4⟩⟩
theorem tb_seqR (h1 : TB A P b1 (.rt d) A1) : TB A P (sSeq b1 b2) (.rt d) A1 := ⟨h1.1, fun Γ Ω r => by
  obtain ⟨Γ1, Ω1, e1, z⟩ := h1.2 Γ Ω r
  exact ⟨Γ1, Ω1, seq_rt e1, z⟩⟩
theorem tb_seqC {c : Cell} (h1 : TB A P b1 (.rc c) A1) : TB A P (sSeq b1 b2) (.rc c) A1 := ⟨h1.1, fun Γ Ω r => by
  obtain ⟨Γ1, Ω1, n, e1, z⟩ := h1.2 Γ Ω r
  exact ⟨Γ1, Ω1, n, seq_rt e1, z⟩⟩
theorem tb_set (h : TE A P f d A1) : TB A P (sSet i f) (.nx (P.set i (.pl d))) A1 := ⟨h.1, fun Γ Ω r => by
  obtain ⟨Ω1, e, r1⟩ := h.2 Γ Ω r
  exact ⟨_, Ω1, set_ok e, (r.ext r1 h.1).set i d⟩⟩
theorem tb_exp (h : TE A P f d A1) : TB A P (sExp f) (.nx P) A1 := ⟨h.1, fun Γ Ω r => by
  obtain ⟨Ω1, e, r1⟩ := h.2 Γ Ω r
  exact ⟨_, Ω1, exp_ok e, r.ext r1 h.1⟩⟩
theorem tb_ret (h : TE A P f d A1) : TB A P (sRet f) (.rt d) A1 := ⟨h.1, fun Γ Ω r => by
  obtain ⟨Ω1, e, r1⟩ := h.2 Γ Ω r
  exact ⟨_, Ω1, ret_ok e, r1.base, r1.pure⟩⟩
theorem tb_retC {c : Cell} (h : P[i]? = some (.ow c)) : TB A P (sRet (fVar i)) (.rc c) A := ⟨rfl, fun Γ Ω r => by
  obtain ⟨n, z1, z2, z3⟩ := r.ow i c h
  exact ⟨_, Ω, n, ret_ok (var_at z1), r.base, r.pure, z2, z3⟩⟩
theorem tb_ifT {p : Den Bool} (h : TE A P p true A1) (h2 : TB A1 P b1 o A2) : TB A P (sIf p b1 b2) o A2 := ⟨h2.1.trans h.1, fun Γ Ω r => by
  obtain ⟨Ω1, e, r1⟩ := h.2 Γ Ω r
  have e2 : sIf p b1 b2 Γ Ω = b1 Γ Ω1 := if_t e
  have z := h2.2 Γ Ω1 (r.ext r1 h.1)
  cases o with
  | nx P2 => obtain ⟨Γ2, Ω2, e3, z⟩ := z; exact ⟨Γ2, Ω2, e2.trans e3, z⟩
  | rt d => obtain ⟨Γ2, Ω2, e3, z⟩ := z; exact ⟨Γ2, Ω2, e2.trans e3, z⟩
  | rc c => obtain ⟨Γ2, Ω2, n, e3, z1, z2, z3, z4⟩ := z; exact ⟨Γ2, Ω2, n, e2.trans e3, z1, z2, by rw [← h.1]; exact z3, z4⟩⟩
theorem tb_ifF {p : Den Bool} (h : TE A P p false A1) (h2 : TB A1 P b2 o A2) : TB A P (sIf p b1 b2) o A2 := ⟨h2.1.trans h.1, fun Γ Ω r => by
  obtain ⟨Ω1, e, r1⟩ := h.2 Γ Ω r
  have e2 : sIf p b1 b2 Γ Ω = b2 Γ Ω1 := if_f e
  have z := h2.2 Γ Ω1 (r.ext r1 h.1)
  cases o with
  | nx P2 => obtain ⟨Γ2, Ω2, e3, z⟩ := z; exact ⟨Γ2, Ω2, e2.trans e3, z⟩
  | rt d => obtain ⟨Γ2, Ω2, e3, z⟩ := z; exact ⟨Γ2, Ω2, e2.trans e3, z⟩
  | rc c => obtain ⟨Γ2, Ω2, n, e3, z1, z2, z3, z4⟩ := z; exact ⟨Γ2, Ω2, n, e2.trans e3, z1, z2, by rw [← h.1]; exact z3, z4⟩⟩
theorem tb_par2 (h : TE A P r [x, y] A1) : TB A P (sPar [i, j] r) (.nx ((P.set i (.pl x)).set j (.pl y))) A1 := ⟨h.1, fun Γ Ω w => by
  obtain ⟨Ω1, e, r1⟩ := h.2 Γ Ω w
  exact ⟨_, Ω1, by unfold sPar; rw [e], ((w.ext r1 h.1).set i x).set j y⟩⟩
theorem tb_par3 {z : D} (h : TE A P r [x, y, z] A1) : TB A P (sPar [i, j, k] r) (.nx (((P.set i (.pl x)).set j (.pl y)).set k (.pl z))) A1 := ⟨h.1, fun Γ Ω w => by
  obtain ⟨Ω1, e, r1⟩ := h.2 Γ Ω w
  exact ⟨_, Ω1, by unfold sPar; rw [e], (((w.ext r1 h.1).set i x).set j y).set k z⟩⟩
/-! targets -/
def TG (t : DenG) (d : D) (P P1 : List Sl) : Prop := ∀ A Γ Ω, Rw A P Γ Ω → ∃ Γ1, t d Γ = some Γ1 ∧ Rw A P1 Γ1 Ω
def TGs (t : List D → Gm → Option Gm) (ds : List D) (P P1 : List Sl) : Prop := ∀ A Γ Ω, Rw A P Γ Ω → ∃ Γ1, t ds Γ = some Γ1 ∧ Rw A P1 Γ1 Ω
theorem tg_n : TG (gN i) d P (P.set i (.pl d)) := fun A Γ Ω w => ⟨_, rfl, w.set i d⟩
theorem tgs_nil : TGs Dn.gNil [] P P := fun A Γ Ω w => ⟨Γ, rfl, w⟩
theorem tgs_cons {t : DenG} {u : List D → Gm → Option Gm} (h1 : TG t d P P1) (h2 : TGs u ds P1 P2) : TGs (Dn.gCons t u) (d :: ds) P P2 := fun A Γ Ω w => by
  obtain ⟨Γ1, e1, w1⟩ := h1 A Γ Ω w
  obtain ⟨Γ2, e2, w2⟩ := h2 A Γ1 Ω w1
  exact ⟨Γ2, by unfold Dn.gCons; dsimp only; rw [e1]; exact e2, w2⟩
theorem tg_t {u : List D → Gm → Option Gm} (h : TGs u ds P P1) (hl : ds.length = n := by rfl) : TG (gT n u) (.tup ds) P P1 := fun A Γ Ω w => by
  obtain ⟨Γ1, e1, w1⟩ := h A Γ Ω w
  exact ⟨Γ1, by unfold gT; dsimp only; rw [if_pos hl]; exact e1, w1⟩
theorem tb_asg {t : DenG} (h : TE A P f d A1) (hg : TG t d P P1) : TB A P (sAsg f t) (.nx P1) A1 := ⟨h.1, fun Γ Ω w => by
  obtain ⟨Ω1, e, w1⟩ := h.2 Γ Ω w
  obtain ⟨Γ1, e1, w2⟩ := hg A1 Γ Ω1 (w.ext w1 h.1)
  exact ⟨Γ1, Ω1, by unfold sAsg; rw [e, eS_ok, e1], w2⟩⟩
/-! ### cells of one's own -/
theorem tb_newL (h : TE A P r ds A1) (hb : belowL 0 ds = true) (hl : ds.length ≤ 100000 := by exact Nat.le_of_ble_eq_true rfl) : TB A P (sSet i (fLstC r)) (.nx (P.set i (.ow (.lst ds)))) A1 := ⟨h.1, fun Γ Ω w => by
  obtain ⟨Ω1, e, r1⟩ := h.2 Γ Ω w
  refine ⟨_, _, set_ok (d := .ref Ω1.length) (Ω1 := Ω1 ++ [.lst ds]) ?_, (w.ext r1 h.1).new i (.lst ds) hb⟩
  unfold fLstC bnd
  rw [e, bR_ok]
  exact if_pos hl⟩
theorem tb_newK : TB A P (sSet i fDnew) (.nx (P.set i (.ow (.dct [])))) A := ⟨rfl, fun Γ Ω w => ⟨_, _, set_ok (d := .ref Ω.length) rfl, w.new i (.dct []) rfl⟩⟩
/-- a method of one's own cell -/
theorem tb_mt {chk : D → Om → Bool} {op : OpM} {c c' : Cell} {z : D} (hi : P[i]? = some (.ow c)) (h : TE A P r ds A1) (hb : cellBelow 0 c' = true)
    (hc : ∀ Ω n, Ω[n]? = some c → chk (.ref n) Ω = true) (ho : ∀ Ω n, Ω[n]? = some c → op (.ref n) ds Ω = some (.ok z, Ω.set n c')) : TB A P (sExp (fMt chk op (fVar i) r)) (.nx (P.set i (.ow c'))) A1 := ⟨h.1, fun Γ Ω w => by
  obtain ⟨n, z1, z2, z3⟩ := w.ow i c hi
  obtain ⟨Ω1, e, x1⟩ := h.2 Γ Ω w
  have w1 := w.ext x1 h.1
  obtain ⟨n', y1, y2, y3⟩ := w1.ow i c hi
  rw [z1] at y1
  cases y1
  refine ⟨Γ, Ω1.set n c', exp_ok (d := z) ?_, w1.chg hi z1 hb⟩
  unfold fMt bnd fVar
  rw [z1]
  dsimp only
  rw [bR_ok, if_pos (hc Ω n z3), e, bR_ok]
  exact ho Ω1 n y3⟩
theorem tb_mt0 {chk : D → Om → Bool} {op : OpM} {c c' : Cell} {z : D} (hi : P[i]? = some (.ow c)) (hb : cellBelow 0 c' = true)
    (hc : ∀ Ω n, Ω[n]? = some c → chk (.ref n) Ω = true) (ho : ∀ Ω n, Ω[n]? = some c → op (.ref n) [] Ω = some (.ok z, Ω.set n c')) : TB A P (sExp (fMt0 chk op (fVar i))) (.nx (P.set i (.ow c'))) A := ⟨rfl, fun Γ Ω w => by
  obtain ⟨n, z1, z2, z3⟩ := w.ow i c hi
  refine ⟨Γ, Ω.set n c', exp_ok (d := z) ?_, w.chg hi z1 hb⟩
  unfold fMt0 bnd fVar
  rw [z1]
  dsimp only
  rw [bR_ok, if_pos (hc Ω n z3)]
  exact ho Ω n z3⟩
theorem chkL_at {Ω : Om} {n : Nat} {xs : List D} (h : Ω[n]? = some (.lst xs)) : chkL (.ref n) Ω = true := by unfold chkL cellL; dsimp only; rw [h]; rfl
theorem cellL_at {Ω : Om} {n : Nat} {xs : List D} (h : Ω[n]? = some (.lst xs)) : cellL Ω n = some xs := by unfold cellL; rw [h]
theorem asL_at {Ω : Om} {n : Nat} {xs : List D} (h : Ω[n]? = some (.lst xs)) : asL Ω (.ref n) = some xs := by unfold asL; dsimp only; rw [h]
theorem belowL_app {xs ys : List D} (h1 : belowL 0 xs = true) (h2 : belowL 0 ys = true) : belowL 0 (xs ++ ys) = true := belowL_all fun d hd => (List.mem_append.mp hd).elim (belowL_mem h1) (belowL_mem h2)
/-- found.append(x), found a list of α -/
theorem tb_app {e : α → D} {xs : List α} {a : α} (he : ∀ a, below 0 (e a) = true) (hi : P[i]? = some (.ow (.lst (xs.map e)))) (h : TE A P f (e a) A1) (hl : xs.length < 100000) : TB A P (sExp (fMt chkL mAppend (fVar i) (fCons f fNil))) (.nx (P.set i (.ow (.lst ((xs ++ [a]).map e))))) A1 :=
  tb_mt hi (te_cons h te_nil) (belowL_map he _) (fun Ω n h => chkL_at h) fun Ω n h => by
    unfold mAppend
    dsimp only
    rw [cellL_at h]
    dsimp only
    rw [if_pos (by rw [List.length_map]; exact hl), List.map_append, List.map_singleton]
theorem tb_ext {e : α → D} {xs ys : List α} (he : ∀ a, below 0 (e a) = true) (hi : P[i]? = some (.ow (.lst (xs.map e)))) (h : TE A P f (.lst (ys.map e)) A1) (hl : xs.length + ys.length ≤ 100000) : TB A P (sExp (fMt chkL mExtend (fVar i) (fCons f fNil))) (.nx (P.set i (.ow (.lst ((xs ++ ys).map e))))) A1 :=
  tb_mt hi (te_cons h te_nil) (belowL_map he _) (fun Ω n h => chkL_at h) fun Ω n h => by
    unfold mExtend
    dsimp only
    rw [cellL_at h]
    dsimp only [asL]
    rw [if_pos (by rw [List.length_map, List.length_map]; exact hl), List.map_append]
theorem tb_clr {e : α → D} {xs : List α} (hi : P[i]? = some (.ow (.lst (xs.map e)))) : TB A P (sExp (fMt0 chkL mClear (fVar i))) (.nx (P.set i (.ow (.lst (([] : List α).map e))))) A :=
  tb_mt0 hi rfl (fun Ω n h => chkL_at h) fun Ω n h => by
    unfold mClear
    dsimp only
    rw [cellL_at h]
    rfl
/-- found[k] = x -/
def setT {α : Type} (xs : List α) (k : Int) (a : α) : Option (List α) := match ixN xs.length k with
  | some j => some (xs.set j a)
  | none => none
theorem tb_setix {e : α → D} {xs ys : List α} {a : α} {kk : Int} {fe fi : Den D} (he : ∀ a, below 0 (e a) = true) (hi : P[i]? = some (.ow (.lst (xs.map e)))) (h1 : TE A P fe (e a) A1) (h2 : TE A1 P fi (.int kk) A1) (hs : setT xs kk a = some ys) : TB A P (sSetIx (fVar i) fi fe) (.nx (P.set i (.ow (.lst (ys.map e))))) A1 := ⟨h1.1, fun Γ Ω w => by
  obtain ⟨Ω1, e1, x1⟩ := h1.2 Γ Ω w
  have w1 := w.ext x1 h1.1
  obtain ⟨n, z1, z2, z3⟩ := w1.ow i _ hi
  obtain ⟨Ω2, e2, x2⟩ := h2.2 Γ Ω1 w1
  have w2 := w1.ext x2 h2.1
  obtain ⟨n', y1, y2, y3⟩ := w2.ow i _ hi
  rw [z1] at y1
  cases y1
  refine ⟨Γ, Ω2.set n (.lst (ys.map e)), ?_, w2.chg hi z1 (belowL_map he _)⟩
  unfold sSetIx
  rw [e1, eS_ok, var_at z1, eS_ok, e2, eS_ok]
  unfold setT at hs
  unfold setIx
  dsimp only
  rw [cellL_at y3]
  dsimp only
  rw [List.length_map]
  cases q : ixN xs.length kk with
  | none => rw [q] at hs; cases hs
  | some j =>
    rw [q] at hs
    cases hs
    dsimp only
    rw [List.map_set]⟩
/-! ### walks -/
def foldN {α σ : Type} (f : α → σ → Option σ) : List α → σ → Option σ
  | [], s => some s
  | x :: xs, s => (f x s).bind (foldN f xs)
def foldR {α σ ρ : Type} (f : α → σ → Option (σ ⊕ ρ)) : List α → σ → Option (σ ⊕ ρ)
  | [], s => some (.inl s)
  | x :: xs, s => match f x s with
    | none => none
    | some (.inl s') => foldR f xs s'
    | some (.inr r) => some (.inr r)
theorem tb_forN {e : α → D} {xs : List α} {fi : Den (List D)} {t : DenG} {step : α → σ → Option σ} {s s' : σ} (Q : σ → List Sl) (B : σ → Om) (hi : TE A P fi (xs.map e) (B s)) (hP : Pw P (Q s)) (hr : foldN step xs s = some s')
    (hb : ∀ x s s', step x s = some s' → ∃ P1, TG t (e x) (Q s) P1 ∧ TB (B s) P1 b (.nx (Q s')) (B s')) : TB A P (sFor fi t b) (.nx (Q s')) (B s') := by
  have key : ∀ (xs : List α) (s : σ), foldN step xs s = some s' → (B s').length = (B s).length ∧ ∀ Γ Ω, Rw (B s) (Q s) Γ Ω → ∃ Γ' Ω', loopS t b (xs.map e) Γ Ω = some (.nx, Γ', Ω') ∧ Rw (B s') (Q s') Γ' Ω' := by
    intro xs
    induction xs with
    | nil => intro s h; cases h; exact ⟨rfl, fun Γ Ω w => ⟨Γ, Ω, rfl, w⟩⟩
    | cons x xs ih =>
      intro s h
      unfold foldN at h
      obtain ⟨s1, h1, h2⟩ := Option.bind_eq_some_iff.mp h
      obtain ⟨P1, g1, t1⟩ := hb x s s1 h1
      obtain ⟨l2, k2⟩ := ih s1 h2
      refine ⟨l2.trans t1.1, fun Γ Ω w => ?_⟩
      obtain ⟨Γ1, e1, w1⟩ := g1 _ Γ Ω w
      obtain ⟨Γ2, Ω2, e2, w2⟩ := t1.2 Γ1 Ω w1
      obtain ⟨Γ3, Ω3, e3, w3⟩ := k2 Γ2 Ω2 w2
      refine ⟨Γ3, Ω3, ?_, w3⟩
      rw [List.map_cons]
      unfold loopS
      rw [e1]
      dsimp only
      rw [e2]
      exact e3
  obtain ⟨l, k⟩ := key xs s hr
  refine ⟨l.trans hi.1, fun Γ Ω w => ?_⟩
  obtain ⟨Ω1, e1, x1⟩ := hi.2 Γ Ω w
  have w1 := w.ext x1 hi.1
  obtain ⟨Γ2, Ω2, e2, w2⟩ := k Γ Ω1 (w1.weak hP)
  exact ⟨Γ2, Ω2, (for_ok e1).trans e2, w2⟩
/-- what a walk with a return comes to -/
def outR (Q : σ → List Sl) (er : ρ → D) : σ ⊕ ρ → Fo
  | .inl s => .nx (Q s)
  | .inr r => .rt (er r)
theorem tb_forR {e : α → D} {xs : List α} {fi : Den (List D)} {t : DenG} {step : α → σ → Option (σ ⊕ ρ)} {s : σ} {z : σ ⊕ ρ} (Q : σ → List Sl) (B : σ → Om) (er : ρ → D) (A2 : σ ⊕ ρ → Om) (hA : ∀ s, A2 (.inl s) = B s) (hi : TE A P fi (xs.map e) (B s)) (hP : Pw P (Q s)) (hr : foldR step xs s = some z)
    (hb : ∀ x s z, step x s = some z → ∃ P1, TG t (e x) (Q s) P1 ∧ TB (B s) P1 b (outR Q er z) (A2 z)) : TB A P (sFor fi t b) (outR Q er z) (A2 z) := by
  have key : ∀ (xs : List α) (s : σ), foldR step xs s = some z → (A2 z).length = (B s).length ∧ ∀ Γ Ω, Rw (B s) (Q s) Γ Ω → TBo (B s) (fun Γ Ω => loopS t b (xs.map e) Γ Ω) Γ Ω (A2 z) (outR Q er z) := by
    intro xs
    induction xs with
    | nil => intro s h; cases h; exact ⟨by rw [hA], fun Γ Ω w => ⟨Γ, Ω, rfl, by rw [hA]; exact w⟩⟩
    | cons x xs ih =>
      intro s h
      unfold foldR at h
      cases q : step x s with
      | none => rw [q] at h; cases h
      | some y =>
        rw [q] at h
        obtain ⟨P1, g1, t1⟩ := hb x s y q
        cases y with
        | inr r =>
          cases h
          refine ⟨t1.1, fun Γ Ω w => ?_⟩
          obtain ⟨Γ1, e1, w1⟩ := g1 _ Γ Ω w
          obtain ⟨Γ2, Ω2, e2, w2⟩ := t1.2 Γ1 Ω w1
          refine ⟨Γ2, Ω2, ?_, w2⟩
          show loopS t b ((x :: xs).map e) Γ Ω = _
          rw [List.map_cons]
          unfold loopS
          rw [e1]
          dsimp only
          rw [e2]
        | inl s1 =>
          obtain ⟨l2, k2⟩ := ih s1 h
          rw [hA] at t1
          refine ⟨l2.trans t1.1, fun Γ Ω w => ?_⟩
          obtain ⟨Γ1, e1, w1⟩ := g1 _ Γ Ω w
          obtain ⟨Γ2, Ω2, e2, w2⟩ := t1.2 Γ1 Ω w1
          have z3 := k2 Γ2 Ω2 w2
          have ee : loopS t b ((x :: xs).map e) Γ Ω = loopS t b (xs.map e) Γ2 Ω2 := by
            rw [List.map_cons]
            conv => lhs; unfold loopS
            rw [e1]
            dsimp only
            rw [e2]
          cases z with
          | inl s2 =>
            obtain ⟨Γ3, Ω3, e3, w3⟩ := z3
            exact ⟨Γ3, Ω3, ee.trans e3, w3⟩
          | inr r2 =>
            obtain ⟨Γ3, Ω3, e3, w3⟩ := z3
            exact ⟨Γ3, Ω3, ee.trans e3, w3⟩
  obtain ⟨l, k⟩ := key xs s hr
  refine ⟨l.trans hi.1, fun Γ Ω w => ?_⟩
  obtain ⟨Ω1, e1, x1⟩ := hi.2 Γ Ω w
  have w1 := w.ext x1 hi.1
  have z2 := k Γ Ω1 (w1.weak hP)
  have ee : sFor fi t b Γ Ω = loopS t b (xs.map e) Γ Ω1 := for_ok e1
  cases z with
  | inl s2 =>
    obtain ⟨Γ3, Ω3, e3, w3⟩ := z2
    exact ⟨Γ3, Ω3, ee.trans e3, w3⟩
  | inr r2 =>
    obtain ⟨Γ3, Ω3, e3, w3⟩ := z2
    exact ⟨Γ3, Ω3, ee.trans e3, w3⟩
/-! ### comprehensions -/
def lcT {α β σ : Type} (f : α → σ → Option (Option β × σ)) : List α → σ → Option (List β × σ)
  | [], s => some ([], s)
  | x :: xs, s => match f x s with
    | none => none
    | some (y, s1) => match lcT f xs s1 with
      | none => none
      | some (ys, s2) => some ((match y with | some y => y :: ys | none => ys), s2)
theorem wipe_len : ∀ (vs : List Nat) (Γ : Gm), (wipeG Γ vs).length = Γ.length
  | [], Γ => rfl
  | v :: vs, Γ => by unfold wipeG; rw [List.length_set, wipe_len vs]
def wipeP (P : List Sl) : List Nat → List Sl
  | [] => P
  | v :: vs => (wipeP P vs).set v .un
theorem Rw.setN {Γ : Gm} {Ω : Om} (w : Rw A P Γ Ω) (i : Nat) (o : Option D) : Rw A (P.set i .un) (Γ.set i o) Ω := by
  refine ⟨by rw [List.length_set, List.length_set, w.len], w.base, fun j e h => ?_, fun j c h => ?_, fun j k c c' n h1 h2 h3 h4 => ?_, w.pure⟩
  · rcases getElem?_set_cases h with ⟨rfl, e1, hl⟩ | ⟨hj, h⟩
    · cases e1
    · rw [List.getElem?_set_ne (Ne.symm hj)]
      exact w.pl j e h
  · rcases getElem?_set_cases h with ⟨rfl, e1, hl⟩ | ⟨hj, h⟩
    · cases e1
    · rw [List.getElem?_set_ne (Ne.symm hj)]
      exact w.ow j c h
  · rcases getElem?_set_cases h1 with ⟨rfl, e1, hl⟩ | ⟨hj, h1⟩
    · cases e1
    · rcases getElem?_set_cases h2 with ⟨rfl, e1, hl⟩ | ⟨hk, h2⟩
      · cases e1
      · rw [List.getElem?_set_ne (Ne.symm hj)] at h3
        rw [List.getElem?_set_ne (Ne.symm hk)] at h4
        exact w.dis j k c c' n h1 h2 h3 h4
theorem Rw.wipe {Γ : Gm} {Ω : Om} (w : Rw A P Γ Ω) : ∀ vs, Rw A (wipeP P vs) (wipeG Γ vs) Ω
  | [] => w
  | v :: vs => (Rw.wipe w vs).setN v none
def TGt (t : Tg) (d : D) (P P1 : List Sl) : Prop := TG t.den d P P1
theorem setAll_rw {Ω : Om} : ∀ {is : List Nat} {ds : List D} {P : List Sl} {Γ : Gm}, ds.length = is.length → Rw A P Γ Ω → Rw A ((is.zip ds).foldl (fun P p => P.set p.1 (.pl p.2)) P) (setAll Γ is ds) Ω
  | [], ds, P, Γ, _, w => by unfold setAll; exact w
  | i :: is, [], P, Γ, h, w => by cases h
  | i :: is, d :: ds, P, Γ, h, w => by
    unfold setAll
    have z := setAll_rw (is := is) (ds := ds) (P := P.set i (.pl d)) (Γ := Γ.set i (some d)) (by simpa using h) (w.set i d)
    exact z
theorem tgt_nm : TG (Tg.nm i).den d P (P.set i (.pl d)) := fun A Γ Ω w => ⟨_, rfl, w.set i d⟩
theorem tgt_tp {is : List Nat} (h : ds.length = is.length := by rfl) : TG (Tg.tp is).den (.tup ds) P ((is.zip ds).foldl (fun P p => P.set p.1 (.pl p.2)) P) := fun A Γ Ω w => ⟨_, by unfold Tg.den; exact if_pos h, setAll_rw h w⟩
/-- the general comprehension: state s in the outer cells B s -/
theorem te_lcT {e : α → D} {ey : β → D} {xs : List α} {ys : List β} {fi : Den (List D)} {t : Tg} {ft : Den Bool} {fe : Den D} {vs : List Nat} {step : α → σ → Option (Option β × σ)} {s s' : σ} (B : σ → Om) (hi : TE A P fi (xs.map e) (B s)) (hr : lcT step xs s = some (ys, s')) (hl : xs.length ≤ 100000)
    (hb : ∀ x s y s', step x s = some (y, s') → ∃ P1, TG t.den (e x) (wipeP P vs) P1 ∧ ((y = none ∧ TE (B s) P1 ft false (B s')) ∨ ∃ z s1, y = some z ∧ TE (B s) P1 ft true s1 ∧ TE s1 P1 fe (ey z) (B s'))) : TE A P (fLc fi t ft fe vs) (.lst (ys.map ey)) (B s') := by
  have key : ∀ (xs : List α) (s : σ) (ys : List β) (acc : List D), lcT step xs s = some (ys, s') → acc.length + xs.length ≤ 100000 → (B s').length = (B s).length ∧ ∀ Γ Ω, Rw (B s) (wipeP P vs) Γ Ω → ∃ Ω', loopC t.den ft fe Γ (xs.map e) acc Ω = some (.ok (.lst (acc ++ ys.map ey)), Ω') ∧ Ext (B s') Ω Ω' := by
    intro xs
    induction xs with
    | nil =>
      intro s ys acc h _
      cases h
      exact ⟨rfl, fun Γ Ω w => ⟨Ω, by unfold loopC; simp, w.refl⟩⟩
    | cons x xs ih =>
      intro s ys acc h ha
      rw [List.length_cons] at ha
      unfold lcT at h
      cases q : step x s with
      | none => rw [q] at h; cases h
      | some z =>
        obtain ⟨y, s1⟩ := z
        rw [q] at h
        dsimp only at h
        cases q2 : lcT step xs s1 with
        | none => rw [q2] at h; cases h
        | some z2 =>
          obtain ⟨zs, s2⟩ := z2
          rw [q2] at h
          dsimp only at h
          obtain ⟨P1, g1, hy⟩ := hb x s y s1 q
          rcases hy with ⟨rfl, t1⟩ | ⟨z, A1, rfl, t1, t2⟩
          · cases h
            obtain ⟨l2, k2⟩ := ih s1 zs acc q2 (by omega)
            refine ⟨l2.trans t1.1, fun Γ Ω w => ?_⟩
            obtain ⟨Γ1, e1, w1⟩ := g1 _ Γ Ω w
            obtain ⟨Ω1, e2, w2⟩ := t1.2 Γ1 Ω w1
            obtain ⟨Ω3, e3, w3⟩ := k2 Γ Ω1 (w.ext w2 t1.1)
            refine ⟨Ω3, ?_, w2.trans w3 l2⟩
            rw [List.map_cons]
            unfold loopC
            rw [e1]
            dsimp only
            rw [e2]
            exact e3
          · cases h
            obtain ⟨l2, k2⟩ := ih s1 zs (acc ++ [ey z]) q2 (by simp; omega)
            refine ⟨l2.trans (t2.1.trans t1.1), fun Γ Ω w => ?_⟩
            obtain ⟨Γ1, e1, w1⟩ := g1 _ Γ Ω w
            obtain ⟨Ω1, e2, w2⟩ := t1.2 Γ1 Ω w1
            obtain ⟨Ω2, e2b, w2b⟩ := t2.2 Γ1 Ω1 (w1.ext w2 t1.1)
            have w2c := w2.trans w2b t2.1
            obtain ⟨Ω3, e3, w3⟩ := k2 Γ Ω2 (w.ext w2c (t2.1.trans t1.1))
            refine ⟨Ω3, ?_, w2c.trans w3 l2⟩
            rw [List.map_cons]
            unfold loopC
            rw [e1]
            dsimp only
            rw [e2]
            dsimp only
            rw [e2b]
            dsimp only
            rw [if_pos (by omega), e3]
            simp
  obtain ⟨l, k⟩ := key xs s ys [] hr (by simpa using hl)
  refine ⟨l.trans hi.1, fun Γ Ω w => ?_⟩
  obtain ⟨Ω1, e1, w1⟩ := hi.2 Γ Ω w
  obtain ⟨Ω2, e2, w2⟩ := k (wipeG Γ vs) Ω1 ((w.ext w1 hi.1).wipe vs)
  exact ⟨Ω2, by unfold fLc; rw [e1, bR_ok, e2]; simp, w1.trans w2 l⟩
end
end Tn


set_option Elab.async false
set_option linter.all false
set_option maxRecDepth 100000
/-! TnFn: defs. -/
namespace Tn
open PySem L2 Dn
def startP (n : Nat) (ds : List D) : List Sl := ds.map Sl.pl ++ List.replicate (n - ds.length) Sl.un
section
variable {A A1 A2 A' : Om} {P P1 P2 Q : List Sl} {f g fe : Den D} {d x y : D} {ds : List D} {b : DenS} {i n k m : Nat} {c fl : Str} {fs : List (Str × D)} {p p' : Pot}
theorem rw_start (h : PureΩ A) : Rw A (startP n ds) (startG n ds) A := by
  refine ⟨by unfold startP startG; simp, ⟨[], by simp⟩, fun i d e => ?_, fun i c e => ?_, fun i j c c' m e => ?_, h⟩
  · unfold startP at e
    unfold startG
    by_cases hi : i < ds.length
    · rw [List.getElem?_append_left (by simpa using hi), List.getElem?_map] at e ⊢
      rw [List.getElem?_eq_getElem hi] at e ⊢
      simp at e ⊢
      exact e
    · rw [List.getElem?_append_right (by simpa using hi), List.getElem?_replicate] at e
      split at e <;> cases e
  all_goals
    unfold startP at e
    by_cases hi : i < ds.length
    · rw [List.getElem?_append_left (by simpa using hi), List.getElem?_map, List.getElem?_eq_getElem hi] at e
      cases e
    · rw [List.getElem?_append_right (by simpa using hi), List.getElem?_replicate] at e
      split at e <;> cases e
theorem split_base {Ω' A' : Om} (h : ∃ W, Ω' = A' ++ W) (hp : PureΩ Ω') : ∃ W, Ω' = A' ++ W ∧ PureΩ A' := by
  obtain ⟨W, e⟩ := h
  exact ⟨W, e, fun c hc => hp c (by rw [e]; exact List.mem_append_left _ hc)⟩
theorem fn_rtA (hA : PureΩ A) (hd : below 0 d = true) (h : TB A (startP n ds) b (.rt d) A') : clean (fnD n b) ds A = some (.ok d, A') := by
  obtain ⟨Γ', Ω', e, hb, hp⟩ := h.2 _ _ (rw_start hA)
  obtain ⟨W, e2, hp2⟩ := split_base hb hp
  subst e2
  exact clean_val (fn_rt e) h.1 hp2 hd
theorem fn_nxA (hA : PureΩ A) (h : TB A (startP n ds) b (.nx P1) A') : clean (fnD n b) ds A = some (.ok .non, A') := by
  obtain ⟨Γ', Ω', e, w⟩ := h.2 _ _ (rw_start hA)
  obtain ⟨W, e2, hp2⟩ := split_base w.base w.pure
  subst e2
  exact clean_val (fn_nx e) h.1 hp2 rfl
theorem fn_rcA {xs : List D} (hA : PureΩ A) (h : TB A (startP n ds) b (.rc (.lst xs)) A') : clean (fnD n b) ds A = some (.ok (.lst xs), A') := by
  obtain ⟨Γ', Ω', m, e, hb, hp, h1, h2⟩ := h.2 _ _ (rw_start hA)
  obtain ⟨W, e2, hp2⟩ := split_base hb hp
  subst e2
  have hx : cellBelow 0 (.lst xs) = true := hp _ (List.mem_of_getElem? h2)
  exact clean_lst (fn_rt e) h.1 h1 h2 hp2 hx
theorem fn_rkA {xs : List (Key × D)} (hA : PureΩ A) (h : TB A (startP n ds) b (.rc (.dct xs)) A') : clean (fnD n b) ds A = some (.ok (.dct xs), A') := by
  obtain ⟨Γ', Ω', m, e, hb, hp, h1, h2⟩ := h.2 _ _ (rw_start hA)
  obtain ⟨W, e2, hp2⟩ := split_base hb hp
  subst e2
  have hx : cellBelow 0 (.dct xs) = true := hp _ (List.mem_of_getElem? h2)
  exact clean_dct (fn_rt e) h.1 h1 h2 hp2 hx
/-! without a pot -/
theorem fn_rt0 (hd : below 0 d = true) (h : ∀ A, TB A (startP n ds) b (.rt d) A) : Sp0 (clean (fnD n b)) ds d := fun Ω hp => fn_rtA hp hd (h Ω)
theorem fn_nx0 (h : ∀ A, ∃ P1, TB A (startP n ds) b (.nx P1) A) : Sp0 (clean (fnD n b)) ds .non := fun Ω hp => by
  obtain ⟨P1, h⟩ := h Ω
  exact fn_nxA hp h
theorem fn_rc0 {xs : List D} (h : ∀ A, TB A (startP n ds) b (.rc (.lst xs)) A) : Sp0 (clean (fnD n b)) ds (.lst xs) := fun Ω hp => fn_rcA hp (h Ω)
theorem fn_rk0 {xs : List (Key × D)} (h : ∀ A, TB A (startP n ds) b (.rc (.dct xs)) A) : Sp0 (clean (fnD n b)) ds (.dct xs) := fun Ω hp => fn_rkA hp (h Ω)
/-! with a pot -/
theorem pA_self {Ω : Om} (h : Ω[m]? = some (potC p)) : pA Ω m p = Ω := by
  unfold pA
  obtain ⟨hl, e⟩ := List.getElem?_eq_some_iff.mp h
  rw [← e]
  exact List.set_getElem_self hl
theorem fn_rtP (hd : below 0 d = true) (h : ∀ A, m < A.length → TB (pA A m p) (startP n ds) b (.rt d) (pA A m p')) : SpP (clean (fnD n b)) ds m p d p' := fun Ω hp hm => by
  have z := h Ω (List.getElem?_eq_some_iff.mp hm).1
  rw [pA_self hm] at z
  exact fn_rtA hp hd z
theorem fn_nxP (h : ∀ A, m < A.length → ∃ P1, TB (pA A m p) (startP n ds) b (.nx P1) (pA A m p')) : SpP (clean (fnD n b)) ds m p .non p' := fun Ω hp hm => by
  obtain ⟨P1, z⟩ := h Ω (List.getElem?_eq_some_iff.mp hm).1
  rw [pA_self hm] at z
  exact fn_nxA hp z
theorem fn_rcP {xs : List D} (h : ∀ A, m < A.length → TB (pA A m p) (startP n ds) b (.rc (.lst xs)) (pA A m p')) : SpP (clean (fnD n b)) ds m p (.lst xs) p' := fun Ω hp hm => by
  have z := h Ω (List.getElem?_eq_some_iff.mp hm).1
  rw [pA_self hm] at z
  exact fn_rcA hp z
theorem fn_rkP {xs : List (Key × D)} (h : ∀ A, m < A.length → TB (pA A m p) (startP n ds) b (.rc (.dct xs)) (pA A m p')) : SpP (clean (fnD n b)) ds m p (.dct xs) p' := fun Ω hp hm => by
  have z := h Ω (List.getElem?_eq_some_iff.mp hm).1
  rw [pA_self hm] at z
  exact fn_rkA hp z
/-! making -/
def iA (A : Om) (n : Nat) (c : Str) (fs : List (Str × D)) : Om := A.set n (.ins c fs)
theorem iA_len : (iA A n c fs).length = A.length := by unfold iA; simp
theorem tb_fld (hn : n < A.length) (hi : P[i]? = some (.pl (.ref n))) (h : TE (iA A n c fs) P fe d (iA A n c fs)) (hb : belowF 0 (putFD fl d fs) = true) (hl : fs.length < 1000 := by decide) : TB (iA A n c fs) P (sFldSet c fl (fVar i) fe) (.nx P) (iA A n c (putFD fl d fs)) := by
  refine ⟨by rw [iA_len, iA_len], fun Γ Ω w => ?_⟩
  obtain ⟨Ω1, e1, x1⟩ := h.2 Γ Ω w
  have w1 := w.ext x1 rfl
  have hx : Ω1[n]? = some (.ins c fs) := by
    obtain ⟨W, e⟩ := w1.base
    rw [e, List.getElem?_append_left (by rw [iA_len]; exact hn)]
    unfold iA
    rw [List.getElem?_set_self hn]
  refine ⟨Γ, Ω1.set n (.ins c (putFD fl d fs)), ?_, ?_⟩
  · unfold sFldSet
    rw [e1, eS_ok, var_at (w1.pl i _ hi), eS_ok]
    dsimp only
    have ha : asO c Ω1 (.ref n) = some fs := by unfold asO; dsimp only; rw [hx]; simp
    rw [ha]
    dsimp only
    rw [if_pos hl]
  · have := w1.outer (n := n) (c := .ins c (putFD fl d fs)) (by rw [iA_len]; exact hn) hb
    unfold iA at this ⊢
    rwa [List.set_set] at this
theorem fn_mk (hf : belowF 0 fs = true) (hk : ds.length + 1 = k) (h : ∀ A n, n < A.length → ∃ P1, TB (iA A n c []) (startP m (.ref n :: ds)) b (.nx P1) (iA A n c fs)) : SpM c k (clean (fnD m b)) ds (.obj c fs) := fun Ω hp => by
  obtain ⟨P1, z⟩ := h (Ω ++ [.ins c []]) Ω.length (by simp)
  have e : ∀ gs, iA (Ω ++ [.ins c []]) Ω.length c gs = Ω ++ [.ins c gs] := fun gs => by unfold iA; simp
  rw [e, e] at z
  refine mk_val (W := []) ?_ hk rfl hp hf
  exact fn_nxA (hp.add rfl) z
end
end Tn


set_option Elab.async false
set_option linter.all false
set_option maxRecDepth 100000
/-! TnOps: typed data, operations on them. -/
namespace Tn
open PySem L2 Dn
section
variable {α β γ δ : Type}
abbrev eL (e : α → D) (xs : List α) : D := .lst (xs.map e)
abbrev eT (e : α → D) (xs : List α) : D := .tup (xs.map e)
def eO (e : α → D) : Option α → D
  | none => .non
  | some a => e a
def eN (_ : Unit) : D := .non
def e2 (a : α → D) (b : β → D) (p : α × β) : D := .tup [a p.1, b p.2]
def e3 (a : α → D) (b : β → D) (c : γ → D) (p : α × β × γ) : D := .tup [a p.1, b p.2.1, c p.2.2]
def e4 (a : α → D) (b : β → D) (c : γ → D) (d : δ → D) (p : α × β × γ × δ) : D := .tup [a p.1, b p.2.1, c p.2.2.1, d p.2.2.2]
def kvI (e : α → D) (kv : Int × α) : Key × D := (Sum.inl kv.1, e kv.2)
def kvS (e : α → D) (kv : Str × α) : Key × D := (Sum.inr kv.1, e kv.2)
abbrev eKI (e : α → D) (kvs : List (Int × α)) : D := .dct (kvs.map (kvI e))
abbrev eKS (e : α → D) (kvs : List (Str × α)) : D := .dct (kvs.map (kvS e))
abbrev Pu (e : α → D) : Prop := ∀ a, below 0 (e a) = true
theorem pu_int : Pu D.int := fun _ => rfl
theorem pu_bl : Pu D.bl := fun _ => rfl
theorem pu_str : Pu D.str := fun _ => rfl
theorem pu_n : Pu eN := fun _ => rfl
theorem pu_st : Pu stD := fun _ => rfl
theorem pu_pr : Pu prD := fun _ => rfl
theorem pu_L {e : α → D} (h : Pu e) : Pu (eL e) := fun xs => belowL_map h xs
theorem pu_T {e : α → D} (h : Pu e) : Pu (eT e) := fun xs => belowL_map h xs
theorem pu_O {e : α → D} (h : Pu e) : Pu (eO e) := fun
  | none => rfl
  | some a => h a
theorem belowL_cons {d : D} {ds : List D} (h1 : below 0 d = true) (h2 : belowL 0 ds = true) : belowL 0 (d :: ds) = true := by unfold belowL; rw [h1, h2]; rfl
theorem belowF_cons {f : Str} {d : D} {ds : List (Str × D)} (h1 : below 0 d = true) (h2 : belowF 0 ds = true) : belowF 0 ((f, d) :: ds) = true := by unfold belowF; rw [h1, h2]; rfl
theorem pu_2 {a : α → D} {b : β → D} (h1 : Pu a) (h2 : Pu b) : Pu (e2 a b) := fun p => belowL_cons (h1 _) (belowL_cons (h2 _) rfl)
theorem pu_3 {a : α → D} {b : β → D} {c : γ → D} (h1 : Pu a) (h2 : Pu b) (h3 : Pu c) : Pu (e3 a b c) := fun p => belowL_cons (h1 _) (belowL_cons (h2 _) (belowL_cons (h3 _) rfl))
theorem pu_4 {a : α → D} {b : β → D} {c : γ → D} {d : δ → D} (h1 : Pu a) (h2 : Pu b) (h3 : Pu c) (h4 : Pu d) : Pu (e4 a b c d) := fun p => belowL_cons (h1 _) (belowL_cons (h2 _) (belowL_cons (h3 _) (belowL_cons (h4 _) rfl)))
theorem belowK_map {e : α → Key × D} (h : ∀ a, below 0 (e a).2 = true) : ∀ xs : List α, belowK 0 (xs.map e) = true
  | [] => rfl
  | x :: xs => by
    rw [List.map_cons]
    show (below 0 (e x).2 && belowK 0 (xs.map e)) = true
    rw [h x, belowK_map h xs]
    rfl
theorem pu_KI {e : α → D} (h : Pu e) : Pu (eKI e) := fun xs => belowK_map (fun a => h a.2) xs
theorem pu_KS {e : α → D} (h : Pu e) : Pu (eKS e) := fun xs => belowK_map (fun a => h a.2) xs
/-! ### == -/
def EX [DecidableEq α] (e : α → D) (k : Nat) : Prop := ∃ p, Emb e p k
theorem EX.up [DecidableEq α] {e : α → D} {k m : Nat} (h : EX e k) (hm : k ≤ m) : EX e m := by
  obtain ⟨p, h⟩ := h
  exact ⟨p, h.to, h.lay, fun a => Nat.le_trans (h.dep a) hm, h.eq⟩
theorem ex_int : EX D.int 0 := ⟨_, emb_int⟩
theorem ex_st : EX stD 1 := ⟨_, emb_st⟩
theorem ex_pr : EX prD 1 := ⟨_, emb_pr⟩
theorem ex_bl : EX D.bl 0 := ⟨PyData.bool, fun _ _ => rfl, fun _ => rfl, fun _ => by simp [PyData.depth], fun a b => by cases a <;> cases b <;> rfl⟩
theorem ex_n : EX eN 0 := ⟨fun _ => PyData.none, fun _ _ => rfl, fun _ => rfl, fun _ => by simp [PyData.depth], fun a b => rfl⟩
variable [DecidableEq α] [DecidableEq β] [DecidableEq γ] [DecidableEq δ]
theorem EX.lst {e : α → D} {k : Nat} (h : EX e k) : EX (eL e) (k + 1) := let ⟨p, h⟩ := h; ⟨_, h.lst⟩
theorem EX.tup {e : α → D} {k : Nat} (h : EX e k) : EX (eT e) (k + 1) := let ⟨p, h⟩ := h; ⟨_, h.tup⟩
theorem ex_2 {a : α → D} {b : β → D} {k : Nat} (h1 : EX a k) (h2 : EX b k) : EX (e2 a b) (k + 1) := by
  obtain ⟨p, h1⟩ := h1
  obtain ⟨q, h2⟩ := h2
  refine ⟨fun z => .tuple [p z.1, q z.2], fun g z => ?_, fun z => ?_, fun z => ?_, fun y z => ?_⟩
  · unfold e2 toPg toPLg toPLg toPLg
    rw [h1.to, h2.to]
    rfl
  · simp [PyData.canLay0, PyData.canLayAll0, h1.lay, h2.lay]
  · have := h1.dep z.1
    have := h2.dep z.2
    simp [PyData.depth, PyData.depthAll]
    omega
  · obtain ⟨y1, y2⟩ := y
    obtain ⟨z1, z2⟩ := z
    simp only [PyData.eqv, PyData.eqvAll, h1.eq, h2.eq]
    by_cases h1 : y1 = z1 <;> by_cases h2 : y2 = z2 <;> simp [h1, h2]
theorem ex_3 {a : α → D} {b : β → D} {c : γ → D} {k : Nat} (h1 : EX a k) (h2 : EX b k) (h3 : EX c k) : EX (e3 a b c) (k + 1) := by
  obtain ⟨p, h1⟩ := h1
  obtain ⟨q, h2⟩ := h2
  obtain ⟨r, h3⟩ := h3
  refine ⟨fun z => .tuple [p z.1, q z.2.1, r z.2.2], fun g z => ?_, fun z => ?_, fun z => ?_, fun y z => ?_⟩
  · unfold e3 toPg toPLg toPLg toPLg toPLg
    rw [h1.to, h2.to, h3.to]
    rfl
  · simp [PyData.canLay0, PyData.canLayAll0, h1.lay, h2.lay, h3.lay]
  · have := h1.dep z.1
    have := h2.dep z.2.1
    have := h3.dep z.2.2
    simp [PyData.depth, PyData.depthAll]
    omega
  · obtain ⟨y1, y2, y3⟩ := y
    obtain ⟨z1, z2, z3⟩ := z
    simp only [PyData.eqv, PyData.eqvAll, h1.eq, h2.eq, h3.eq]
    by_cases h1 : y1 = z1 <;> by_cases h2 : y2 = z2 <;> by_cases h3 : y3 = z3 <;> simp [h1, h2, h3]
theorem o_eq {e : α → D} {k : Nat} (E : EX e k) (x y : α) (hk : k ≤ 60 := by decide) (Ω : Om) : dEq (e x) (e y) Ω = some (.ok (.bl (decide (x = y))), Ω) := by
  obtain ⟨p, E⟩ := E
  exact eq_emb E hk (fun b => .bl b) x y
theorem o_ne {e : α → D} {k : Nat} (E : EX e k) (x y : α) (hk : k ≤ 60 := by decide) (Ω : Om) : dNe (e x) (e y) Ω = some (.ok (.bl (!decide (x = y))), Ω) := by
  obtain ⟨p, E⟩ := E
  exact eq_emb E hk (fun b => .bl (!b)) x y
theorem eqG_own {e : α → D} {k : Nat} (E : EX e k) (b : Bool → D) (xs ys : List α) (hk : k ≤ 59) {Ω : Om} {n : Nat} (h : Ω[n]? = some (.lst (xs.map e))) : eqG b (.ref n) (eL e ys) Ω = some (.ok (b (decide (xs = ys))), Ω) := by
  obtain ⟨p, E⟩ := E
  rw [eqG_of (p := .list (xs.map p)) (q := .list (ys.map p)) (E.toPref h) (E.lst.toP ys) (E.lst.shaped (by omega) xs) (E.lst.shaped (by omega) ys)]
  unfold PyData.eqv
  rw [E.eqL]
theorem w_eq {e : α → D} {k : Nat} (E : EX e k) (xs ys : List α) (hk : k ≤ 59 := by decide) (Ω : Om) (n : Nat) (h : Ω[n]? = some (.lst (xs.map e))) : dEq (.ref n) (eL e ys) Ω = some (.ok (.bl (decide (xs = ys))), Ω) := eqG_own E (fun b => .bl b) xs ys hk h
theorem w_ne {e : α → D} {k : Nat} (E : EX e k) (xs ys : List α) (hk : k ≤ 59 := by decide) (Ω : Om) (n : Nat) (h : Ω[n]? = some (.lst (xs.map e))) : dNe (.ref n) (eL e ys) Ω = some (.ok (.bl (!decide (xs = ys))), Ω) := eqG_own E (fun b => .bl (!b)) xs ys hk h
/-- an option of α: None or e a; e a is never None -/
theorem ex_O {e : α → D} {k : Nat} (h : EX e k) (hn : ∀ p a, Emb e p k → ∀ b, PyData.eqv (p a) .none = false ∧ PyData.eqv .none (p b) = false) : EX (eO e) k := by
  obtain ⟨p, h⟩ := h
  refine ⟨fun z => match z with | none => .none | some a => p a, fun g z => ?_, fun z => ?_, fun z => ?_, fun y z => ?_⟩
  · cases z with
    | none => rfl
    | some a => exact h.to g a
  · cases z with
    | none => rfl
    | some a => exact h.lay a
  · cases z with
    | none => simp [PyData.depth]
    | some a => exact h.dep a
  · cases y with
    | none =>
      cases z with
      | none => rfl
      | some b => simp [(hn p b h b).2]
    | some a =>
      cases z with
      | none => simp [(hn p a h a).1]
      | some b => simp [h.eq]
end
/-! ### ints -/
section
variable {i j : Int}
def mulT (i j : Int) : Option Int := if cMul i j = true then some (i * j) else none
def fdivT (i j : Int) : Option Int := if 0 < j ∧ j < 1073741824 then some (i / j) else none
def modT (i j : Int) : Option Int := if 0 < j then some (i % j) else none
def powT (i j : Int) : Option Int := if 0 ≤ j ∧ j ≤ 1000000 ∧ i.natAbs < 2 ^ 64 then some (i ^ j.toNat) else none
theorem ite_some {α : Type} {c : Prop} [Decidable c] {x y : α} (h : (if c then some x else none) = some y) : c ∧ x = y := by
  by_cases hc : c
  · rw [if_pos hc] at h; exact ⟨hc, Option.some.inj h⟩
  · rw [if_neg hc] at h; cases h
theorem o_mul {z : Int} (h : mulT i j = some z) (Ω : Om) : dMul (.int i) (.int j) Ω = some (.ok (.int z), Ω) := by
  obtain ⟨h1, h2⟩ := ite_some h
  unfold dMul opIC
  dsimp only
  rw [if_pos h1, h2]
theorem o_fdiv {z : Int} (h : fdivT i j = some z) (Ω : Om) : dFdiv (.int i) (.int j) Ω = some (.ok (.int z), Ω) := by
  obtain ⟨h1, h2⟩ := ite_some h
  unfold dFdiv opIC
  dsimp only
  rw [if_pos (decide_eq_true h1), h2]
theorem o_mod {z : Int} (h : modT i j = some z) (Ω : Om) : dMod (.int i) (.int j) Ω = some (.ok (.int z), Ω) := by
  obtain ⟨h1, h2⟩ := ite_some h
  unfold dMod opIC
  dsimp only
  rw [if_pos (decide_eq_true h1), h2]
theorem o_pow {z : Int} (h : powT i j = some z) (Ω : Om) : dPow (.int i) (.int j) Ω = some (.ok (.int z), Ω) := by
  obtain ⟨h1, h2⟩ := ite_some h
  unfold dPow opIC
  dsimp only
  rw [if_pos (decide_eq_true h1), h2]
end
/-! ### lists -/
section
variable {α β : Type} {e : α → D}
theorem atI_map (xs : List α) (i : Int) : L2.atI (xs.map e) i = (L2.atI xs i).map e := by
  unfold L2.atI
  rw [List.length_map]
  cases ixN xs.length i with
  | none => rfl
  | some j => exact List.getElem?_map ..
theorem o_ixL {xs : List α} {i : Int} {a : α} (h : L2.atI xs i = some a) (Ω : Om) : dIx (eL e xs) (.int i) Ω = some (.ok (e a), Ω) := by
  show (match L2.atI (xs.map e) i with | some d => _ | none => none) = _
  rw [atI_map, h]
  rfl
theorem o_ixT {xs : List α} {i : Int} {a : α} (h : L2.atI xs i = some a) (Ω : Om) : dIx (eT e xs) (.int i) Ω = some (.ok (e a), Ω) := by
  show (match L2.atI (xs.map e) i with | some d => _ | none => none) = _
  rw [atI_map, h]
  rfl
theorem w_ix {xs : List α} {i : Int} {a : α} (h : L2.atI xs i = some a) (Ω : Om) (n : Nat) (hn : Ω[n]? = some (.lst (xs.map e))) : dIx (.ref n) (.int i) Ω = some (.ok (e a), Ω) := by
  unfold dIx
  dsimp only
  rw [asL_at hn]
  dsimp only
  rw [atI_map, h]
  rfl
theorem o_lenL {xs : List α} (Ω : Om) : dLen [eL e xs] Ω = some (.ok (.int xs.length), Ω) := by
  show some (Rs.ok (D.int (xs.map e).length), Ω) = _
  rw [List.length_map]
theorem o_lenT {xs : List α} (Ω : Om) : dLen [eT e xs] Ω = some (.ok (.int xs.length), Ω) := by
  show some (Rs.ok (D.int (xs.map e).length), Ω) = _
  rw [List.length_map]
theorem w_len {xs : List α} (Ω : Om) (n : Nat) (hn : Ω[n]? = some (.lst (xs.map e))) : dLen [.ref n] Ω = some (.ok (.int xs.length), Ω) := by
  unfold dLen op1
  dsimp only
  rw [asL_at hn]
  dsimp only
  rw [List.length_map]
def catT (xs ys : List α) : Option (List α) := if xs.length + ys.length ≤ 100000 then some (xs ++ ys) else none
theorem o_cat {xs ys zs : List α} (h : catT xs ys = some zs) (Ω : Om) : dAdd (eL e xs) (eL e ys) Ω = some (.ok (eL e zs), Ω) := by
  obtain ⟨h1, h2⟩ := ite_some h
  show (if (xs.map e).length + (ys.map e).length ≤ 100000 then _ else none) = _
  rw [List.length_map, List.length_map, if_pos h1, ← h2]
  simp only [eL, List.map_append]
theorem w_catL {xs ys zs : List α} (h : catT xs ys = some zs) (Ω : Om) (n : Nat) (hn : Ω[n]? = some (.lst (xs.map e))) : dAdd (.ref n) (eL e ys) Ω = some (.ok (eL e zs), Ω) := by
  obtain ⟨h1, h2⟩ := ite_some h
  unfold dAdd
  dsimp only
  rw [asL_at hn]
  dsimp only [asL]
  rw [List.length_map, List.length_map, if_pos h1, ← h2]
  simp only [eL, List.map_append]
def cutT (xs : List α) (lo hi : Option Int) : List α := (xs.drop (HT.sIx xs.length 0 lo)).take (HT.sIx xs.length xs.length hi - HT.sIx xs.length 0 lo)
theorem cut_map (xs : List α) (lo hi : Option Int) : cutD (xs.map e) lo hi = (cutT xs lo hi).map e := by
  unfold cutD cutT
  rw [List.length_map, ← List.map_drop, ← List.map_take]
section
variable {A A1 A2 A3 : Om} {P : List Sl} {f g : Den D} {l h : Den (Option Int)} {lo hi : Option Int}
theorem to_no : TE A P fNo none A := te_c
theorem to_pt {i : Int} (h : TE A P f (.int i) A1) : TE A P (fPt f) (some i) A1 := te_bnd h (te_now fun _ _ => rfl)
theorem te_sl {xs : List α} (h1 : TE A P f (eL e xs) A1) (h2 : TE A1 P l lo A2) (h3 : TE A2 P h hi A3) : TE A P (fSl f l h) (eL e (cutT xs lo hi)) A3 := te_bnd h1 (te_bnd h2 (te_bnd h3 (te_now fun _ Ω => by
  show some (Rs.ok (D.lst (cutD (xs.map e) lo hi)), Ω) = _
  rw [cut_map])))
theorem te_slO {xs : List α} {i : Nat} (hi' : P[i]? = some (.ow (.lst (xs.map e)))) (h2 : TE A P l lo A) (h3 : TE A P h hi A) : TE A P (fSl (fVar i) l h) (eL e (cutT xs lo hi)) A := by
  refine ⟨rfl, fun Γ Ω w => ?_⟩
  obtain ⟨n, z1, z2, z3⟩ := w.ow i _ hi'
  obtain ⟨Ω2, e2, x2⟩ := h2.2 Γ Ω w
  have w2 := w.ext x2 rfl
  obtain ⟨Ω3, e3, x3⟩ := h3.2 Γ Ω2 w2
  have w3 := w2.ext x3 rfl
  obtain ⟨n', y1, y2, y3⟩ := w3.ow i _ hi'
  rw [z1] at y1
  cases y1
  refine ⟨Ω3, ?_, x2.trans x3 rfl⟩
  unfold fSl bnd fVar
  rw [z1]
  simp only [bR_ok, e2, e3, asL_at y3]
  rw [cut_map]
end
theorem o_tupL {xs : List α} (Ω : Om) : dTuple [eL e xs] Ω = some (.ok (eT e xs), Ω) := rfl
theorem o_tupT {xs : List α} (Ω : Om) : dTuple [eT e xs] Ω = some (.ok (eT e xs), Ω) := rfl
theorem w_tup {xs : List α} (Ω : Om) (n : Nat) (hn : Ω[n]? = some (.lst (xs.map e))) : dTuple [.ref n] Ω = some (.ok (eT e xs), Ω) := by
  unfold dTuple op1
  dsimp only
  rw [asL_at hn]
theorem o_lstL {xs : List α} (Ω : Om) : dList [eL e xs] Ω = some (.ok (eL e xs), Ω) := rfl
theorem o_lstT {xs : List α} (Ω : Om) : dList [eT e xs] Ω = some (.ok (eL e xs), Ω) := rfl
theorem w_lst {xs : List α} (Ω : Om) (n : Nat) (hn : Ω[n]? = some (.lst (xs.map e))) : dList [.ref n] Ω = some (.ok (eL e xs), Ω) := by
  unfold dList op1
  dsimp only
  rw [asL_at hn]
theorem asInts_map : ∀ xs : List Int, asInts (xs.map D.int) = some xs
  | [] => rfl
  | x :: xs => by rw [List.map_cons]; unfold asInts; rw [asInts_map xs]
theorem asBools_map : ∀ xs : List Bool, asBools (xs.map D.bl) = some xs
  | [] => rfl
  | x :: xs => by rw [List.map_cons]; unfold asBools; rw [asBools_map xs]
theorem o_sum {xs : List Int} (Ω : Om) : dSum [eL D.int xs] Ω = some (.ok (.int xs.sum), Ω) := by
  unfold dSum onInts op1
  dsimp only [asL]
  rw [asInts_map]
theorem o_all {xs : List Bool} (Ω : Om) : dAll [eL D.bl xs] Ω = some (.ok (.bl (xs.all id)), Ω) := by
  unfold dAll onBools op1
  dsimp only [asL]
  rw [asBools_map]
theorem o_any {xs : List Bool} (Ω : Om) : dAny [eL D.bl xs] Ω = some (.ok (.bl (xs.any id)), Ω) := by
  unfold dAny onBools op1
  dsimp only [asL]
  rw [asBools_map]
/-! ### walks -/
def rangeI (lo : Int) (n : Nat) : List Int := (List.range n).map fun (i : Nat) => lo + (i : Int)
theorem range_map (lo : Int) (n : Nat) : rangeD lo n = (rangeI lo n).map D.int := by unfold rangeD rangeI; rw [List.map_map]; rfl
def range1 (j : Int) : Option (List Int) := if -(2 ^ 62) ≤ j ∧ j < 2 ^ 62 then some (rangeI 0 j.toNat) else none
def range2 (i j : Int) : Option (List Int) := if -(2 ^ 62) ≤ i ∧ i < 2 ^ 62 ∧ -(2 ^ 62) ≤ j ∧ j < 2 ^ 62 then some (rangeI i (j - i).toNat) else none
section
variable {A A1 : Om} {P : List Sl} {f : Den D} {r : Den (List D)}
theorem ti_r1 {j : Int} {xs : List Int} (hr : range1 j = some xs) (h : TE A P r [.int j] A1) : TE A P (fRange1 r) (xs.map D.int) A1 := by
  obtain ⟨h1, h2⟩ := ite_some hr
  have z := ti_range1 h h1
  rw [range_map, h2] at z
  exact z
theorem ti_r2 {i j : Int} {xs : List Int} (hr : range2 i j = some xs) (h : TE A P r [.int i, .int j] A1) : TE A P (fRange2 r) (xs.map D.int) A1 := by
  obtain ⟨h1, h2⟩ := ite_some hr
  have z := ti_range2 h h1
  rw [range_map, h2] at z
  exact z
def enumT {α : Type} (k : Nat) : List α → List (Int × α)
  | [] => []
  | x :: xs => ((k : Int), x) :: enumT (k + 1) xs
theorem enum_map (xs : List α) : ∀ k, enumD k (xs.map e) = (enumT k xs).map (e2 D.int e) := by
  induction xs with
  | nil => intro k; rfl
  | cons x xs ih => intro k; rw [List.map_cons]; unfold enumD enumT; rw [List.map_cons, ih]; rfl
theorem ti_enT {xs : List α} (h : TE A P r [eT e xs] A1) : TE A P (fEnum r) ((enumT 0 xs).map (e2 D.int e)) A1 := by
  have z : TE A P (fEnum r) (enumD 0 (xs.map e)) A1 := te_bnd h (te_now fun _ _ => rfl)
  rw [enum_map] at z
  exact z
theorem ti_en {xs : List α} (h : TE A P r [eL e xs] A1) : TE A P (fEnum r) ((enumT 0 xs).map (e2 D.int e)) A1 := by
  have z := ti_enum h
  rw [enum_map] at z
  exact z
end
/-! ### dicts -/
def lkI (kvs : List (Int × α)) (k : Int) : Option α := (kvs.find? fun kv => decide (kv.1 = k)).map (·.2)
theorem val_map (k : Int) : ∀ kvs : List (Int × α), valD (kvs.map (kvI e)) (Sum.inl k) = (lkI kvs k).map e
  | [] => rfl
  | (k', a) :: kvs => by
    have ih := val_map k kvs
    unfold valD lkI at ih ⊢
    rw [List.map_cons, List.find?_cons, List.find?_cons]
    by_cases h : k' = k
    · simp [kvI, h]
    · have h2 : ¬ (Sum.inl k' : Key) = Sum.inl k := fun z => h (Sum.inl.inj z)
      simp only [kvI, h, h2, decide_false]
      exact ih
theorem o_get {kvs : List (Int × α)} {k : Int} {a : α} (h : lkI kvs k = some a) (Ω : Om) : dGet (eKI e kvs) (.int k) Ω = some (.ok (e a), Ω) := by
  unfold dGet onKey
  dsimp only [asK, keyD]
  rw [val_map, h]
  rfl
theorem o_getN {kvs : List (Int × α)} {k : Int} (Ω : Om) : dGetN (eKI e kvs) (.int k) Ω = some (.ok (eO e (lkI kvs k)), Ω) := by
  unfold dGetN onKey
  dsimp only [asK, keyD]
  rw [val_map]
  cases lkI kvs k <;> rfl
section
variable {A A1 A2 : Om} {P : List Sl} {f g : Den D}
theorem te_in {kvs : List (Int × α)} {k : Int} (h1 : TE A P f (.int k) A1) (h2 : TE A1 P g (eKI e kvs) A2) : TE A P (fIn f g) (.bl (lkI kvs k).isSome) A2 := te_bnd h1 (te_bnd h2 (te_now fun _ Ω => by
  unfold dHas onKey
  dsimp only [asK, keyD]
  rw [val_map]
  cases lkI kvs k <;> rfl))
theorem te_nin {kvs : List (Int × α)} {k : Int} (h1 : TE A P f (.int k) A1) (h2 : TE A1 P g (eKI e kvs) A2) : TE A P (fNotIn f g) (.bl (!(lkI kvs k).isSome)) A2 := te_bnd h1 (te_bnd h2 (te_now fun _ Ω => by
  unfold dHasNo onKey
  dsimp only [asK, keyD]
  rw [val_map]
  cases lkI kvs k <;> rfl))
theorem ti_k {i : Nat} {kvs : List (Int × α)} (h : P[i]? = some (.pl (eKI e kvs)) := by rfl) : TE A P (fKeys i) ((kvs.map (·.1)).map D.int) A := by
  have z := ti_keys (A := A) h
  have q : keysD (kvs.map (kvI e)) = (kvs.map (·.1)).map D.int := by
    unfold keysD
    rw [List.map_map, List.map_map]
    rfl
  rw [q] at z
  exact z
end
def putI (kvs : List (Int × α)) (k : Int) (v : α) : List (Int × α) := if (kvs.any fun kv => decide (kv.1 = k)) = true then kvs.map (fun kv => if kv.1 = k then (kv.1, v) else kv) else kvs ++ [(k, v)]
def mergeI (kvs more : List (Int × α)) : List (Int × α) := more.foldl (fun acc kv => putI acc kv.1 kv.2) kvs
theorem put_map (kvs : List (Int × α)) (k : Int) (v : α) : putD (kvs.map (kvI e)) (Sum.inl k) (e v) = (putI kvs k v).map (kvI e) := by
  unfold putD putI
  have h1 : ((kvs.map (kvI e)).any fun kv => decide (kv.1 = Sum.inl k)) = kvs.any fun kv => decide (kv.1 = k) := by
    rw [List.any_map]
    congr 1
    funext kv
    simp [kvI, Function.comp]
  rw [h1]
  split
  · rw [List.map_map, List.map_map]
    congr 1
    funext kv
    simp only [kvI, Function.comp]
    by_cases h : kv.1 = k
    · simp [h]
    · have h2 : ¬ (Sum.inl kv.1 : Key) = Sum.inl k := fun z => h (Sum.inl.inj z)
      simp only [h, h2, if_false]
  · rw [List.map_append]
    rfl
theorem merge_map (more : List (Int × α)) : ∀ kvs : List (Int × α), mergeD (kvs.map (kvI e)) (more.map (kvI e)) = (mergeI kvs more).map (kvI e) := by
  induction more with
  | nil => intro kvs; rfl
  | cons kv more ih =>
    intro kvs
    have : mergeD (kvs.map (kvI e)) ((kv :: more).map (kvI e)) = mergeD (putD (kvs.map (kvI e)) (Sum.inl kv.1) (e kv.2)) (more.map (kvI e)) := rfl
    rw [this, put_map, ih]
    rfl
theorem asPairs_map : ∀ xs : List (Int × α), asPairs (xs.map (e2 D.int e)) = some (xs.map (kvI e))
  | [] => rfl
  | x :: xs => by
    rw [List.map_cons]
    show (match keyD (D.int x.1) with
        | some k => match asPairs (xs.map (e2 D.int e)) with
          | some l => some ((k, e x.2) :: l)
          | none => none
        | none => none) = _
    rw [asPairs_map xs]
    rfl
theorem o_dict {xs : List (Int × α)} (Ω : Om) : dDict [eL (e2 D.int e) xs] Ω = some (.ok (eKI e (mergeI [] xs)), Ω) := by
  unfold dDict op1
  dsimp only [asL]
  rw [asPairs_map]
  dsimp only
  have := merge_map (e := e) xs []
  rw [List.map_nil] at this
  rw [this]
theorem o_lenK {kvs : List (Int × α)} (Ω : Om) : dLenK [eKI e kvs] Ω = some (.ok (.int kvs.length), Ω) := by
  unfold dLenK op1
  dsimp only [asK]
  rw [List.length_map]
theorem intKeys_map : ∀ kvs : List (Int × α), intKeys (kvs.map (kvI e)) = some (kvs.map (·.1))
  | [] => rfl
  | kv :: kvs => by
    rw [List.map_cons]
    show (match intKeys (kvs.map (kvI e)) with | some l => some (kv.1 :: l) | none => none) = _
    rw [intKeys_map kvs]
    rfl
def sortKT (kvs : List (Int × α)) : Option (List Int) := if kvs.length < 64 then some (sortI (kvs.map (·.1))) else none
theorem o_sortK {kvs : List (Int × α)} {ks : List Int} (h : sortKT kvs = some ks) (Ω : Om) : dSortK [eKI e kvs] Ω = some (.ok (eL D.int ks), Ω) := by
  obtain ⟨h1, h2⟩ := ite_some h
  unfold dSortK op1
  dsimp only [asK]
  rw [intKeys_map]
  dsimp only
  rw [if_pos (by rw [List.length_map]; exact h1), ← h2]
theorem o_sortI {xs : List Int} (Ω : Om) : dSortI [eL D.int xs] Ω = some (.ok (eL D.int (sortI xs)), Ω) := by
  unfold dSortI onInts op1
  dsimp only [asL]
  rw [asInts_map]
theorem asPr_map : ∀ xs : List (Int × Int), asPr (xs.map prD) = some xs
  | [] => rfl
  | x :: xs => by
    rw [List.map_cons]
    show (match asPr (xs.map prD) with | some l => some ((x.1, x.2) :: l) | none => none) = _
    rw [asPr_map xs]
theorem o_sortP {xs : List (Int × Int)} (Ω : Om) : dSortP [eL prD xs] Ω = some (.ok (eL prD (sortP xs)), Ω) := by
  unfold dSortP op1
  dsimp only [asL]
  rw [asPr_map]
/-- d.update(more), d one's own -/
theorem tb_upd {A A1 : Om} {P : List Sl} {i : Nat} {f : Den D} {kvs more : List (Int × α)} (he : Pu e) (hi : P[i]? = some (.ow (.dct (kvs.map (kvI e))))) (h : TE A P f (eKI e more) A1) (hl : kvs.length + more.length ≤ 100000) : TB A P (sExp (fMt chkK mUpd (fVar i) (fCons f fNil))) (.nx (P.set i (.ow (.dct ((mergeI kvs more).map (kvI e)))))) A1 :=
  tb_mt hi (te_cons h te_nil) (belowK_map (fun a => he a.2) _) (fun Ω n h => by unfold chkK asK; dsimp only; rw [h]; rfl) fun Ω n h => by
    have ha : asK Ω (.ref n) = some (kvs.map (kvI e)) := by unfold asK; dsimp only; rw [h]
    show (match asK Ω (.ref n) with
      | some kvs => if kvs.length + (more.map (kvI e)).length ≤ 100000 then some (Rs.ok D.non, List.set Ω n (.dct (mergeD kvs (more.map (kvI e))))) else none
      | none => none) = _
    rw [ha]
    dsimp only
    rw [List.length_map, List.length_map, if_pos hl, merge_map]
end
/-! ### hypotheses -/
theorem bE {α β : Type} {x : Option α} {f : α → Option β} {b : β} (h : x.bind f = some b) : ∃ a, x = some a ∧ f a = some b := Option.bind_eq_some_iff.mp h
theorem bE2 {α γ β : Type} {x : Option (α × γ)} {f : α × γ → Option β} {b : β} (h : x.bind f = some b) : ∃ a c, x = some (a, c) ∧ f (a, c) = some b := by
  obtain ⟨⟨a, c⟩, h1, h2⟩ := bE h
  exact ⟨a, c, h1, h2⟩
end Tn


set_option Elab.async false
set_option linter.all false
set_option maxRecDepth 100000
/-! TnRet: a def's end; cells laid still; comprehensions by map and filter. -/
namespace Tn
open PySem L2 Dn
section
variable {α β σ ρ : Type} {A A1 A2 A' : Om} {P P1 P2 Q : List Sl} {f g fe : Den D} {d x y : D} {ds : List D} {r : Den (List D)} {b b1 b2 : DenS} {i j k n m : Nat} {q : Bool} {p p' : Pot}
def TR (q : Bool) (A : Om) (P : List Sl) (b : DenS) (d : D) (A' : Om) : Prop :=
  TB A P b (.rt d) A' ∨ (∃ xs, d = .lst xs ∧ TB A P b (.rc (.lst xs)) A') ∨ (∃ xs, d = .dct xs ∧ TB A P b (.rc (.dct xs)) A') ∨ (q = true ∧ d = .non ∧ ∃ P1, TB A P b (.nx P1) A')
theorem tr_rt (h : TB A P b (.rt d) A') : TR q A P b d A' := .inl h
theorem tr_ret (h : TE A P f d A1) : TR q A P (sRet f) d A1 := .inl (tb_ret h)
theorem tr_own {xs : List D} (h : P[i]? = some (.ow (.lst xs))) : TR q A P (sRet (fVar i)) (.lst xs) A := .inr (.inl ⟨xs, rfl, tb_retC h⟩)
theorem tr_ownK {xs : List (Key × D)} (h : P[i]? = some (.ow (.dct xs))) : TR q A P (sRet (fVar i)) (.dct xs) A := .inr (.inr (.inl ⟨xs, rfl, tb_retC h⟩))
theorem tr_nx (h : TB A P b (.nx P1) A') : TR true A P b .non A' := .inr (.inr (.inr ⟨rfl, rfl, P1, h⟩))
theorem tr_seq (h1 : TB A P b1 (.nx P1) A1) (h2 : TR q A1 P1 b2 d A2) : TR q A P (sSeq b1 b2) d A2 := by
  rcases h2 with h | ⟨xs, e, h⟩ | ⟨xs, e, h⟩ | ⟨e1, e2, P2, h⟩
  · exact .inl (tb_seq h1 h)
  · exact .inr (.inl ⟨xs, e, tb_seq h1 h⟩)
  · exact .inr (.inr (.inl ⟨xs, e, tb_seq h1 h⟩))
  · exact .inr (.inr (.inr ⟨e1, e2, P2, tb_seq h1 h⟩))
theorem tr_seqR (h1 : TR false A P b1 d A1) : TR q A P (sSeq b1 b2) d A1 := by
  rcases h1 with h | ⟨xs, e, h⟩ | ⟨xs, e, h⟩ | ⟨e1, e2, P2, h⟩
  · exact .inl (tb_seqR h)
  · exact .inr (.inl ⟨xs, e, tb_seqC h⟩)
  · exact .inr (.inr (.inl ⟨xs, e, tb_seqC h⟩))
  · cases e1
theorem tr_ifT {c : Den Bool} (h : TE A P c true A1) (h2 : TR q A1 P b1 d A2) : TR q A P (sIf c b1 b2) d A2 := by
  rcases h2 with z | ⟨xs, e, z⟩ | ⟨xs, e, z⟩ | ⟨e1, e2, P2, z⟩
  · exact .inl (tb_ifT h z)
  · exact .inr (.inl ⟨xs, e, tb_ifT h z⟩)
  · exact .inr (.inr (.inl ⟨xs, e, tb_ifT h z⟩))
  · exact .inr (.inr (.inr ⟨e1, e2, P2, tb_ifT h z⟩))
theorem tr_ifF {c : Den Bool} (h : TE A P c false A1) (h2 : TR q A1 P b2 d A2) : TR q A P (sIf c b1 b2) d A2 := by
  rcases h2 with z | ⟨xs, e, z⟩ | ⟨xs, e, z⟩ | ⟨e1, e2, P2, z⟩
  · exact .inl (tb_ifF h z)
  · exact .inr (.inl ⟨xs, e, tb_ifF h z⟩)
  · exact .inr (.inr (.inl ⟨xs, e, tb_ifF h z⟩))
  · exact .inr (.inr (.inr ⟨e1, e2, P2, tb_ifF h z⟩))
theorem tr_A (hA : PureΩ A) (hd : below 0 d = true) (h : TR q A (startP n ds) b d A') : clean (fnD n b) ds A = some (.ok d, A') := by
  rcases h with h | ⟨xs, rfl, h⟩ | ⟨xs, rfl, h⟩ | ⟨_, rfl, P2, h⟩
  · exact fn_rtA hA hd h
  · exact fn_rcA hA h
  · exact fn_rkA hA h
  · exact fn_nxA hA h
theorem fn_0 (hd : below 0 d = true) (h : ∀ A, TR true A (startP n ds) b d A) : Sp0 (clean (fnD n b)) ds d := fun Ω hp => tr_A hp hd (h Ω)
theorem fn_P (hd : below 0 d = true) (h : ∀ A, m < A.length → TR true (pA A m p) (startP n ds) b d (pA A m p')) : SpP (clean (fnD n b)) ds m p d p' := fun Ω hp hm => by
  have z := h Ω (List.getElem?_eq_some_iff.mp hm).1
  rw [pA_self hm] at z
  exact tr_A hp hd z
theorem fn_M {c : Str} {fs : List (Str × D)} (hf : belowF 0 fs = true) (hk : ds.length + 1 = k) (h : ∀ A n, n < A.length → TR true (iA A n c []) (startP m (.ref n :: ds)) b .non (iA A n c fs)) : SpM c k (clean (fnD m b)) ds (.obj c fs) := fun Ω hp => by
  have z := h (Ω ++ [.ins c []]) Ω.length (by simp)
  have e : ∀ gs, iA (Ω ++ [.ins c []]) Ω.length c gs = Ω ++ [.ins c gs] := fun gs => by unfold iA; simp
  rw [e, e] at z
  refine mk_val (W := []) ?_ hk rfl hp hf
  exact tr_A (hp.add rfl) rfl z
/-! thaw -/
theorem rw_thaw {Γ : Gm} {Ω : Om} {c : Cell} {n : Nat} (w : Rw A P Γ Ω) (hi : P[i]? = some (.ow c)) (hn : Γ[i]? = some (some (.ref n))) : Rw A (P.set i (.pl d)) (Γ.set i (some d)) (Ω.set n .dead) := by
  have w1 := (w.chg (c' := .dead) hi hn rfl).set i d
  rwa [List.set_set] at w1
theorem tb_thaw {xs : List D} (hi : P[i]? = some (.ow (.lst xs))) : TB A P (sThaw i) (.nx (P.set i (.pl (.lst xs)))) A := ⟨rfl, fun Γ Ω w => by
  obtain ⟨n, z1, z2, z3⟩ := w.ow i _ hi
  exact ⟨_, _, by unfold sThaw; rw [z1]; dsimp only; rw [z3], rw_thaw w hi z1⟩⟩
theorem tb_thawK {xs : List (Key × D)} (hi : P[i]? = some (.ow (.dct xs))) : TB A P (sThaw i) (.nx (P.set i (.pl (.dct xs)))) A := ⟨rfl, fun Γ Ω w => by
  obtain ⟨n, z1, z2, z3⟩ := w.ow i _ hi
  exact ⟨_, _, by unfold sThaw; rw [z1]; dsimp only; rw [z3], rw_thaw w hi z1⟩⟩
/-! comprehensions -/
def lcM {α β : Type} (p : α → Bool) (y : α → β) (xs : List α) : Option (List β) := if xs.length ≤ 100000 then some ((xs.filter p).map y) else none
def lcO' {α β : Type} (f : α → Option (Option β)) : List α → Option (List β)
  | [] => some []
  | x :: xs => match f x with
    | none => none
    | some y => match lcO' f xs with
      | none => none
      | some ys => some (match y with | some y => y :: ys | none => ys)
def lcO {α β : Type} (f : α → Option (Option β)) (xs : List α) : Option (List β) := if xs.length ≤ 100000 then lcO' f xs else none
def lcS {α β σ : Type} (f : α → σ → Option (Option β × σ)) (xs : List α) (s : σ) : Option (List β × σ) := if xs.length ≤ 100000 then lcT f xs s else none
theorem lcT_M (p : α → Bool) (y : α → β) : ∀ xs : List α, lcT (σ := Unit) (fun x s => some (if p x = true then some (y x) else none, s)) xs () = some ((xs.filter p).map y, ())
  | [] => rfl
  | x :: xs => by
    unfold lcT
    dsimp only
    rw [lcT_M p y xs]
    dsimp only
    by_cases h : p x = true
    · simp [h]
    · simp [h]
theorem lcT_O (f : α → Option (Option β)) : ∀ (xs : List α) (ys : List β), lcO' f xs = some ys → lcT (σ := Unit) (fun x s => (f x).map fun y => (y, s)) xs () = some (ys, ())
  | [], ys, h => by cases h; rfl
  | x :: xs, ys, h => by
    unfold lcO' at h
    unfold lcT
    cases e : f x with
    | none => rw [e] at h; cases h
    | some y =>
      rw [e] at h
      dsimp only at h
      cases e2 : lcO' f xs with
      | none => rw [e2] at h; cases h
      | some zs =>
        rw [e2] at h
        cases h
        simp only [Option.map_some]
        rw [lcT_O f xs zs e2]
        all_goals rfl
variable {e : α → D} {ey : β → D} {xs : List α} {ys : List β} {fi : Den (List D)} {t : Tg} {ft : Den Bool} {vs : List Nat}
theorem te_lcM {pp : α → Bool} {yy : α → β} (hr : lcM pp yy xs = some ys) (hi : TE A P fi (xs.map e) A1) (hb : ∀ x, ∃ P1, TG t.den (e x) (wipeP P vs) P1 ∧ TE A1 P1 ft (pp x) A1 ∧ TE A1 P1 fe (ey (yy x)) A1) : TE A P (fLc fi t ft fe vs) (eL ey ys) A1 := by
  obtain ⟨h1, h2⟩ := ite_some hr
  subst h2
  refine te_lcT (σ := Unit) (s := ()) (s' := ()) (fun _ => A1) hi (lcT_M pp yy xs) h1 fun x s y s' h => ?_
  obtain ⟨P1, g1, t1, t2⟩ := hb x
  refine ⟨P1, g1, ?_⟩
  cases h
  by_cases hp : pp x = true
  · rw [hp] at t1
    exact .inr ⟨yy x, A1, by rw [if_pos hp], t1, t2⟩
  · have hp' : pp x = false := by simpa using hp
    rw [hp'] at t1
    exact .inl ⟨by rw [if_neg hp], t1⟩
theorem te_lcO {ff : α → Option (Option β)} (hr : lcO ff xs = some ys) (hi : TE A P fi (xs.map e) A1) (hb : ∀ x y, ff x = some y → ∃ P1, TG t.den (e x) (wipeP P vs) P1 ∧ ((y = none ∧ TE A1 P1 ft false A1) ∨ ∃ z, y = some z ∧ TE A1 P1 ft true A1 ∧ TE A1 P1 fe (ey z) A1)) : TE A P (fLc fi t ft fe vs) (eL ey ys) A1 := by
  unfold lcO at hr
  by_cases hl : xs.length ≤ 100000
  · rw [if_pos hl] at hr
    refine te_lcT (σ := Unit) (s := ()) (s' := ()) (fun _ => A1) hi (lcT_O ff xs ys hr) hl fun x s y s' h => ?_
    cases hq : ff x with
    | none => rw [hq] at h; cases h
    | some z =>
      rw [hq] at h
      cases h
      obtain ⟨P1, g1, hh⟩ := hb x y hq
      refine ⟨P1, g1, hh.imp (fun h => h) fun ⟨w, h1, h2, h3⟩ => ⟨w, A1, h1, h2, h3⟩⟩
  · rw [if_neg hl] at hr; cases hr
theorem te_lcS {ff : α → σ → Option (Option β × σ)} {s s' : σ} (B : σ → Om) (hr : lcS ff xs s = some (ys, s')) (hi : TE A P fi (xs.map e) (B s)) (hb : ∀ x s y s', ff x s = some (y, s') → ∃ P1, TG t.den (e x) (wipeP P vs) P1 ∧ ((y = none ∧ TE (B s) P1 ft false (B s')) ∨ ∃ z s1, y = some z ∧ TE (B s) P1 ft true s1 ∧ TE s1 P1 fe (ey z) (B s'))) : TE A P (fLc fi t ft fe vs) (eL ey ys) (B s') := by
  unfold lcS at hr
  by_cases hl : xs.length ≤ 100000
  · rw [if_pos hl] at hr
    exact te_lcT B hi hr hl hb
  · rw [if_neg hl] at hr; cases hr
/-! ### hypotheses -/
end
def b2 {α γ β : Type} (x : Option (α × γ)) (f : α → γ → Option β) : Option β := x.bind fun z => f z.1 z.2
theorem b2E {α γ β : Type} {x : Option (α × γ)} {f : α → γ → Option β} {b : β} (h : b2 x f = some b) : ∃ a c, x = some (a, c) ∧ f a c = some b := by
  obtain ⟨⟨a, c⟩, h1, h2⟩ := bE h
  exact ⟨a, c, h1, h2⟩
theorem ifO_t {α : Type} {t u : Option α} : ifO true t u = t := rfl
theorem ifO_f {α : Type} {t u : Option α} : ifO false t u = u := rfl
section
variable {α β σ ρ : Type} {A A1 A2 A' : Om} {P P1 P2 Q : List Sl} {f g fe : Den D} {i : Nat} {e : α → D}
def appT {α : Type} (xs : List α) (a : α) : Option (List α) := if xs.length < 100000 then some (xs ++ [a]) else none
def extT {α : Type} (xs ys : List α) : Option (List α) := if xs.length + ys.length ≤ 100000 then some (xs ++ ys) else none
theorem tb_appT {xs ys : List α} {a : α} (hr : appT xs a = some ys) (he : Pu e) (hi : P[i]? = some (.ow (.lst (xs.map e)))) (h : TE A P f (e a) A1) : TB A P (sExp (fMt chkL mAppend (fVar i) (fCons f fNil))) (.nx (P.set i (.ow (.lst (ys.map e))))) A1 := by
  obtain ⟨h1, h2⟩ := ite_some hr
  subst h2
  exact tb_app he hi h h1
theorem tb_extT {xs ys zs : List α} (hr : extT xs ys = some zs) (he : Pu e) (hi : P[i]? = some (.ow (.lst (xs.map e)))) (h : TE A P f (eL e ys) A1) : TB A P (sExp (fMt chkL mExtend (fVar i) (fCons f fNil))) (.nx (P.set i (.ow (.lst (zs.map e))))) A1 := by
  obtain ⟨h1, h2⟩ := ite_some hr
  subst h2
  exact tb_ext he hi h h1
def updT {α : Type} (kvs more : List (Int × α)) : Option (List (Int × α)) := if kvs.length + more.length ≤ 100000 then some (mergeI kvs more) else none
theorem tb_updT {α : Type} {e : α → D} {kvs more zs : List (Int × α)} (hr : updT kvs more = some zs) (he : Pu e) (hi : P[i]? = some (.ow (.dct (kvs.map (kvI e))))) (h : TE A P f (eKI e more) A1) : TB A P (sExp (fMt chkK mUpd (fVar i) (fCons f fNil))) (.nx (P.set i (.ow (.dct (zs.map (kvI e)))))) A1 := by
  obtain ⟨h1, h2⟩ := ite_some hr
  subst h2
  exact tb_upd he hi h h1
theorem ex_Oi : EX (eO D.int) 0 := ex_O ex_int fun p a h b => by
  have ha : p = PyData.int := funext fun c => by
    have := h.to (fun _ => none) c
    exact (Option.some.inj this).symm
  subst ha
  exact ⟨rfl, rfl⟩
theorem o_isN {e : α → D} (he : ∀ a, isNon (e a) = false) (x : Option α) (Ω : Om) : dIsN (eO e x) .non Ω = some (.ok (.bl x.isNone), Ω) := by
  cases x with
  | none => rfl
  | some a => show some (Rs.ok (D.bl (isNon (e a))), Ω) = _; rw [he]; rfl
theorem o_notN {e : α → D} (he : ∀ a, isNon (e a) = false) (x : Option α) (Ω : Om) : dNotN (eO e x) .non Ω = some (.ok (.bl x.isSome), Ω) := by
  cases x with
  | none => rfl
  | some a => show some (Rs.ok (D.bl (!isNon (e a))), Ω) = _; rw [he]; rfl
end
end Tn


set_option Elab.async false
set_option linter.all false
set_option maxRecDepth 100000
/-! TnMore: what the printed proofs name. -/
namespace Tn
open PySem L2 Dn
theorem sSeq_assoc (a b c : DenS) : sSeq (sSeq a b) c = sSeq a (sSeq b c) := by
  funext Γ Ω
  unfold sSeq
  cases e : a Γ Ω with
  | none => rfl
  | some z =>
    obtain ⟨fl, Γ1, Ω1⟩ := z
    cases fl <;> rfl
theorem sSeq_skip (b : DenS) : sSeq b sSkip = b := by
  funext Γ Ω
  unfold sSeq
  cases e : b Γ Ω with
  | none => rfl
  | some z =>
    obtain ⟨fl, Γ1, Ω1⟩ := z
    cases fl <;> rfl
section
variable {α β σ ρ : Type} {A A1 A2 A' : Om} {P P1 P2 Q : List Sl} {f g : Den D} {d x y : D} {ds : List D} {r : Den (List D)} {b b1 b2 rest : DenS} {o : Fo} {i j k n m : Nat} {q : Bool}
theorem tr_last (h : TR q A P (sSeq b sSkip) d A') : TR q A P b d A' := by rwa [sSeq_skip] at h
theorem tb_last (h : TB A P (sSeq b sSkip) o A') : TB A P b o A' := by rwa [sSeq_skip] at h
theorem tb_setE {e : α → D} {v w : α} (h : some v = some w) (t : TE A P f (e v) A1) : TB A P (sSet i f) (.nx (P.set i (.pl (e w)))) A1 := by cases h; exact tb_set t
/-! a list of one's own beside other values -/
theorem Rw.newAt {Γ : Gm} {Ω : Om} {c : Cell} (w : Rw A P Γ Ω) (i : Nat) (hn : A.length ≤ n) (hc : Ω[n]? = some c) (hf : ∀ (j : Nat) c', P[j]? = some (Sl.ow c') → Γ[j]? ≠ some (some (D.ref n))) : Rw A (P.set i (.ow c)) (Γ.set i (some (.ref n))) Ω := by
  refine ⟨by rw [List.length_set, List.length_set, w.len], w.base, fun j e h => ?_, fun j c' h => ?_, fun j k c1 c2 m h1 h2 h3 h4 => ?_, w.pure⟩
  · rcases getElem?_set_cases h with ⟨rfl, e1, hl⟩ | ⟨hj, h⟩
    · cases e1
    · rw [List.getElem?_set_ne (Ne.symm hj)]
      exact w.pl j e h
  · rcases getElem?_set_cases h with ⟨rfl, e1, hl⟩ | ⟨hj, h⟩
    · cases e1
      exact ⟨n, by rw [List.getElem?_set_self (by rw [← w.len]; exact hl)], hn, hc⟩
    · rw [List.getElem?_set_ne (Ne.symm hj)]
      exact w.ow j c' h
  · rcases getElem?_set_cases h1 with ⟨ej, e1, hl⟩ | ⟨hj, h1⟩
    · rcases getElem?_set_cases h2 with ⟨ek, e2, hk⟩ | ⟨hk, h2⟩
      · omega
      · rw [ej, List.getElem?_set_self (by rw [← w.len]; exact hl)] at h3
        cases h3
        rw [List.getElem?_set_ne (Ne.symm hk)] at h4
        exact (hf k c2 h2 h4).elim
    · have h1' := h1
      rcases getElem?_set_cases h2 with ⟨ek, e2, hk⟩ | ⟨hk, h2⟩
      · rw [ek, List.getElem?_set_self (by rw [← w.len]; exact hk)] at h4
        cases h4
        rw [List.getElem?_set_ne (Ne.symm hj)] at h3
        exact (hf j c1 h1' h3).elim
      · rw [List.getElem?_set_ne (Ne.symm hj)] at h3
        rw [List.getElem?_set_ne (Ne.symm hk)] at h4
        exact w.dis j k c1 c2 m h1 h2 h3 h4
theorem rw_more {Γ : Gm} {Ω : Om} {c : Cell} (w : Rw A P Γ Ω) (hc : cellBelow 0 c = true) : Rw A P Γ (Ω ++ [c]) := by
  refine ⟨w.len, ?_, w.pl, fun i c' h => ?_, w.dis, w.pure.add hc⟩
  · obtain ⟨W, e⟩ := w.base
    exact ⟨W ++ [c], by rw [e, List.append_assoc]⟩
  · obtain ⟨n, z1, z2, z3⟩ := w.ow i c' h
    exact ⟨n, z1, z2, by rw [List.getElem?_append_left (List.getElem?_eq_some_iff.mp z3).1]; exact z3⟩
theorem tb_par2a (h : TE A P g y A1) : TB A P (sPar [i, j] (fCons (fLstC fNil) (fCons g fNil))) (.nx ((P.set i (.ow (.lst []))).set j (.pl y))) A1 := ⟨h.1, fun Γ Ω w => by
  obtain ⟨Ω2, e2, x2⟩ := h.2 Γ (Ω ++ [.lst []]) (rw_more w rfl)
  have hb : A.length ≤ Ω.length := by obtain ⟨W, e⟩ := w.base; rw [e]; simp
  have w2 := (rw_more (c := .lst []) w rfl).ext x2 h.1
  have hc : Ω2[Ω.length]? = some (.lst []) := by
    rw [x2.keep Ω.length (by rw [h.1]; exact hb) (by simp)]
    simp
  refine ⟨_, Ω2, ?_, (w2.newAt i (by rw [h.1]; exact hb) hc fun k c' hk => ?_).set j y⟩
  · unfold sPar
    have e : fCons (fLstC fNil) (fCons g fNil) Γ Ω = some (.ok [.ref Ω.length, y], Ω2) := cons_ok (Ω1 := Ω ++ [.lst []]) rfl (cons_ok e2 nil_ok)
    rw [e]
  · obtain ⟨n, z1, z2, z3⟩ := w.ow k c' hk
    rw [z1]
    intro z
    cases z
    have := (List.getElem?_eq_some_iff.mp z3).1
    omega⟩
theorem tb_par2b (h : TE A P f x A1) : TB A P (sPar [i, j] (fCons f (fCons (fLstC fNil) fNil))) (.nx ((P.set i (.pl x)).set j (.ow (.lst [])))) A1 := ⟨h.1, fun Γ Ω w => by
  obtain ⟨Ω1, e1, x1⟩ := h.2 Γ Ω w
  refine ⟨_, Ω1 ++ [.lst []], ?_, ((w.ext x1 h.1).set i x).new j (.lst []) rfl⟩
  unfold sPar
  have e : fCons f (fCons (fLstC fNil) fNil) Γ Ω = some (.ok [x, .ref Ω1.length], Ω1 ++ [.lst []]) := cons_ok e1 (cons_ok (Ω1 := Ω1 ++ [.lst []]) rfl nil_ok)
  rw [e]⟩
theorem tb_par3c (h1 : TE A P f x A1) (h2 : TE A1 P g y A2) : TB A P (sPar [i, j, k] (fCons f (fCons g (fCons (fLstC fNil) fNil)))) (.nx (((P.set i (.pl x)).set j (.pl y)).set k (.ow (.lst [])))) A2 := ⟨h2.1.trans h1.1, fun Γ Ω w => by
  obtain ⟨Ω1, e1, x1⟩ := h1.2 Γ Ω w
  have w1 := w.ext x1 h1.1
  obtain ⟨Ω2, e2, x2⟩ := h2.2 Γ Ω1 w1
  refine ⟨_, Ω2 ++ [.lst []], ?_, (((w1.ext x2 h2.1).set i x).set j y).new k (.lst []) rfl⟩
  unfold sPar
  have e : fCons f (fCons g (fCons (fLstC fNil) fNil)) Γ Ω = some (.ok [x, y, .ref Ω2.length], Ω2 ++ [.lst []]) := cons_ok e1 (cons_ok e2 (cons_ok (Ω1 := Ω2 ++ [.lst []]) rfl nil_ok))
  rw [e]⟩
/-! ### walks, the hypothesis first -/
theorem tb_forM {e : α → D} {xs : List α} {fi : Den (List D)} {t : DenG} {step : α → σ → Option σ} {s s' : σ} (Q : σ → List Sl) (B : σ → Om) (hr : foldN step xs s = some s') (hi : TE A P fi (xs.map e) (B s)) (hP : Pw P (Q s))
    (hb : ∀ x s s', step x s = some s' → ∃ P1, TG t (e x) (Q s) P1 ∧ TB (B s) P1 b (.nx (Q s')) (B s')) : TB A P (sFor fi t b) (.nx (Q s')) (B s') := tb_forN Q B hi hP hr hb
theorem tb_forS {e : α → D} {xs : List α} {fi : Den (List D)} {t : DenG} {step : α → σ → Option (σ ⊕ ρ)} {s : σ} {z : σ ⊕ ρ} (Q : σ → List Sl) (B : σ → Om) (er : ρ → D) (A2 : σ ⊕ ρ → Om) (hA : ∀ s, A2 (.inl s) = B s) (hr : foldR step xs s = some z) (hi : TE A P fi (xs.map e) (B s)) (hP : Pw P (Q s))
    (hb : ∀ x s z, step x s = some z → ∃ P1, TG t (e x) (Q s) P1 ∧ TB (B s) P1 b (outR Q er z) (A2 z)) (hk : match z with | .inl s' => TB (B s') (Q s') rest o A' | .inr v => o = .rt (er v) ∧ A' = A2 (.inr v)) : TB A P (sSeq (sFor fi t b) rest) o A' := by
  have T := tb_forR Q B er A2 hA hi hP hr hb
  cases z with
  | inl s' => rw [hA] at T; exact tb_seq T hk
  | inr v => obtain ⟨rfl, rfl⟩ := hk; exact tb_seqR T
theorem tr_forS {e : α → D} {xs : List α} {fi : Den (List D)} {t : DenG} {step : α → σ → Option (σ ⊕ ρ)} {s : σ} {z : σ ⊕ ρ} (Q : σ → List Sl) (B : σ → Om) (er : ρ → D) (A2 : σ ⊕ ρ → Om) (hA : ∀ s, A2 (.inl s) = B s) (hr : foldR step xs s = some z) (hi : TE A P fi (xs.map e) (B s)) (hP : Pw P (Q s))
    (hb : ∀ x s z, step x s = some z → ∃ P1, TG t (e x) (Q s) P1 ∧ TB (B s) P1 b (outR Q er z) (A2 z)) (hk : match z with | .inl s' => TR q (B s') (Q s') rest d A' | .inr v => d = er v ∧ A' = A2 (.inr v)) : TR q A P (sSeq (sFor fi t b) rest) d A' := by
  have T := tb_forR Q B er A2 hA hi hP hr hb
  cases z with
  | inl s' => rw [hA] at T; exact tr_seq T hk
  | inr v => obtain ⟨rfl, rfl⟩ := hk; exact tr_rt (tb_seqR T)
/-! ### a branch of a walk that returns -/
def TV (er : ρ → D) (A2 : σ ⊕ ρ → Om) (z : σ ⊕ ρ) (A : Om) (P : List Sl) (b : DenS) : Prop := ∃ v, z = .inr v ∧ TB A P b (.rt (er v)) (A2 (.inr v))
variable {er : ρ → D} {B2 : σ ⊕ ρ → Om} {z : σ ⊕ ρ}
theorem tb_seqV {Q : σ → List Sl} (h : TV er B2 z A P b1) : TB A P (sSeq b1 b2) (outR Q er z) (B2 z) := by
  obtain ⟨v, rfl, h⟩ := h
  exact tb_seqR h
theorem tv_seqR (h : TV er B2 z A P b1) : TV er B2 z A P (sSeq b1 b2) := by
  obtain ⟨v, e, h⟩ := h
  exact ⟨v, e, tb_seqR h⟩
theorem tv_seq (h1 : TB A P b1 (.nx P1) A1) (h : TV er B2 z A1 P1 b2) : TV er B2 z A P (sSeq b1 b2) := by
  obtain ⟨v, e, h⟩ := h
  exact ⟨v, e, tb_seq h1 h⟩
theorem tv_ifT {c : Den Bool} (h1 : TE A P c true A1) (h : TV er B2 z A1 P b1) : TV er B2 z A P (sIf c b1 b2) := by
  obtain ⟨v, e, h⟩ := h
  exact ⟨v, e, tb_ifT h1 h⟩
theorem tv_ifF {c : Den Bool} (h1 : TE A P c false A1) (h : TV er B2 z A1 P b2) : TV er B2 z A P (sIf c b1 b2) := by
  obtain ⟨v, e, h⟩ := h
  exact ⟨v, e, tb_ifF h1 h⟩
theorem tv_ret {v : ρ} (h : TE A P f (er v) (B2 (.inr v))) : TV er B2 (.inr v) A P (sRet f) := ⟨v, rfl, tb_ret h⟩
/-! ### ints -/
def maxI (i j : Int) : Int := if j > i then j else i
def minI (i j : Int) : Int := if j < i then j else i
def absI (i : Int) : Int := if i < 0 then -i else i
def bI (b : Bool) : Int := if b then 1 else 0
theorem maxI_eq (i j : Int) : maxI i j = max i j := by unfold maxI; split <;> omega
theorem minI_eq (i j : Int) : minI i j = min i j := by unfold minI; split <;> omega
theorem o_divmod {i j z : Int} (h : fdivT i j = some z) (Ω : Om) : dDivmod [.int i, .int j] Ω = some (.ok (prD (z, i % j)), Ω) := by
  obtain ⟨h1, h2⟩ := ite_some h
  unfold dDivmod op2
  dsimp only
  rw [if_pos h1, h2]
  rfl
end
end Tn


set_option Elab.async false
set_option linter.all false
set_option maxRecDepth 100000
/-! TnAdd: typed: texts compared, repr, list(d), min(xs), zip, d.get(k), calls by names, own !=. -/
namespace Tn
open PySem L2 Dn
section
variable {α β : Type} {A A1 A2 : Om} {P : List Sl} {f g : Den D} {d x y : D} {ds : List D} {r : Den (List D)} {F : FD} {k l : Nat} {ix : List Nat} {e : α → D} {e' : β → D}
theorem te_callK (h : TE A P r ds A1) (hF : Sp0 F (reord ix ds) d) (hl : ds.length = l ∧ (reord ix ds).length = k := by exact ⟨rfl, rfl⟩) : TE A P (fCallK k l ix F r) d A1 := te_bnd h ⟨rfl, fun Γ Ω w => ⟨Ω, by dsimp only; rw [if_pos hl]; exact hF Ω w.pure, w.refl⟩⟩
theorem te_ownNe {c : Str} {fs gs : List (Str × D)} {b : Bool} (h1 : TE A P f (.obj c fs) A1) (h2 : TE A1 P g (.obj c gs) A2) (hF : Sp0 F [.obj c fs, .obj c gs] (.bl b)) : TE A P (fBin (dOwnNe c 2 F) f g) (.bl (!b)) A2 := te_bnd h1 (te_bnd h2 ⟨rfl, fun Γ Ω w => ⟨Ω, by
  show dOwnNe c 2 F _ _ Ω = _
  unfold dOwnNe dOwn
  rw [asO_obj]
  dsimp only
  rw [asO_obj]
  dsimp only
  rw [if_pos (show [_, _].length = 2 from rfl), hF Ω w.pure]
  rfl, w.refl⟩⟩)
/-- the text that shows a datum -/
def reprD (d : D) : Option Str := match toPg (fun _ => none) d with
  | some p => if okRep p = true then some p.shown else none
  | none => none
mutual
theorem toPg_pure (g : Nat → Option PyData) : ∀ (d : D) (p : PyData), toPg (fun _ => none) d = some p → toPg g d = some p
  | .non, p, h => h
  | .bl _, p, h => h
  | .int _, p, h => h
  | .str _, p, h => h
  | .tup xs, p, h => by
    unfold toPg at h ⊢
    cases e : toPLg (fun _ => none) xs with
    | none => rw [e] at h; cases h
    | some ps => rw [e] at h; rw [toPLg_pure g xs ps e]; exact h
  | .lst xs, p, h => by
    unfold toPg at h ⊢
    cases e : toPLg (fun _ => none) xs with
    | none => rw [e] at h; cases h
    | some ps => rw [e] at h; rw [toPLg_pure g xs ps e]; exact h
  | .ref n, p, h => by unfold toPg at h; cases h
  | .dct _, p, h => by unfold toPg at h; cases h
  | .obj _ _, p, h => by unfold toPg at h; cases h
  | .scr _, p, h => by unfold toPg at h; cases h
  | .cl _, p, h => by unfold toPg at h; cases h
theorem toPLg_pure (g : Nat → Option PyData) : ∀ (ds : List D) (ps : List PyData), toPLg (fun _ => none) ds = some ps → toPLg g ds = some ps
  | [], ps, h => h
  | d :: ds, ps, h => by
    unfold toPLg at h ⊢
    cases e : toPg (fun _ => none) d with
    | none => rw [e] at h; cases h
    | some p =>
      rw [e] at h
      rw [toPg_pure g d p e]
      dsimp only at h ⊢
      cases e2 : toPLg (fun _ => none) ds with
      | none => rw [e2] at h; cases h
      | some qs => rw [e2] at h; rw [toPLg_pure g ds qs e2]; exact h
end
theorem toP_pure {Ω : Om} {k : Nat} {p : PyData} (h : toPg (fun _ => none) d = some p) : toP Ω k d = some p := by
  cases k with
  | zero => exact h
  | succ k => exact toPg_pure _ d p h
theorem o_repr {t : Str} (h : reprD d = some t) (Ω : Om) : dRepr [d] Ω = some (.ok (.str t), Ω) := by
  unfold reprD at h
  cases e : toPg (fun _ => none) d with
  | none => rw [e] at h; cases h
  | some p =>
    rw [e] at h
    obtain ⟨h1, h2⟩ := ite_some h
    unfold dRepr op1
    dsimp only
    rw [toP_pure e]
    dsimp only
    rw [if_pos h1, h2]
theorem o_listK {e : α → D} {kvs : List (Int × α)} (Ω : Om) : dListK [eKI e kvs] Ω = some (.ok (eL D.int (kvs.map (·.1))), Ω) := by
  unfold dListK op1
  dsimp only [asK]
  unfold keysD
  rw [List.map_map, eL, List.map_map]
  rfl
def minT (xs : List Int) : Option Int := leastI xs
theorem o_minI {xs : List Int} {m : Int} (h : minT xs = some m) (Ω : Om) : dMinI [eL D.int xs] Ω = some (.ok (.int m), Ω) := by
  unfold dMinI onInts op1
  dsimp only [asL]
  rw [asInts_map]
  dsimp only
  rw [show leastI xs = some m from h]
theorem te_getN {kvs : List (Int × α)} {k : Int} (h1 : TE A P f (eKI e kvs) A1) (h2 : TE A1 P g (.int k) A2) : TE A P (fGetN f g) (eO e (lkI kvs k)) A2 := te_bnd h1 (by
  refine ⟨h2.1, fun Γ Ω w => ?_⟩
  obtain ⟨Ω2, e2, x2⟩ := h2.2 Γ Ω w
  refine ⟨Ω2, ?_, x2⟩
  dsimp only
  rw [if_pos (show (asK Ω (eKI e kvs)).isSome = true from rfl), e2, bR_ok]
  exact o_getN Ω2)
theorem zip_map (xs : List α) : ∀ ys : List β, zipD (xs.map e) (ys.map e') = (xs.zip ys).map (e2 e e') := by
  induction xs with
  | nil => intro ys; rfl
  | cons x xs ih =>
    intro ys
    cases ys with
    | nil => rfl
    | cons y ys =>
      rw [List.map_cons, List.map_cons]
      unfold zipD
      rw [ih, List.zip_cons_cons, List.map_cons]
      rfl
theorem ti_zip {xs : List α} {ys : List β} (h : TE A P r [eL e xs, eL e' ys] A1) : TE A P (fZip r) ((xs.zip ys).map (e2 e e')) A1 := te_bnd h (te_now fun _ Ω => by
  show some (Rs.ok (zipD (xs.map e) (ys.map e')), Ω) = _
  rw [zip_map])
theorem o_catT {xs ys zs : List α} (h : catT xs ys = some zs) (Ω : Om) : dCatT (eT e xs) (eT e ys) Ω = some (.ok (eT e zs), Ω) := by
  obtain ⟨h1, h2⟩ := ite_some h
  show (if (xs.map e).length + (ys.map e).length ≤ 100000 then _ else none) = _
  rw [List.length_map, List.length_map, if_pos h1, ← h2]
  simp only [eT, List.map_append]
end
end Tn
namespace Tn
theorem ite_some' {α : Type} {c : Prop} [Decidable c] {x : Option α} {y : α} (h : (if c then x else none) = some y) : c ∧ x = some y := by
  by_cases hc : c
  · rw [if_pos hc] at h; exact ⟨hc, h⟩
  · rw [if_neg hc] at h; cases h
end Tn


set_option Elab.async false
set_option linter.all false
set_option maxRecDepth 100000
/-! TnNew: sorted(d) of any size, len of an instance. -/
namespace Tn
open PySem L2 Dn
section
variable {α : Type} {e : α → D}
def sortBT (kvs : List (Int × α)) : Option (List Int) := if kvs.length ≤ 100000 then some (sortI (kvs.map (·.1))) else none
theorem o_sortB {kvs : List (Int × α)} {ks : List Int} (h : sortBT kvs = some ks) (Ω : Om) : dSortB [eKI e kvs] Ω = some (.ok (eL D.int ks), Ω) := by
  obtain ⟨h1, h2⟩ := ite_some h
  unfold dSortB op1
  dsimp only [asK]
  rw [intKeys_map]
  dsimp only
  rw [if_pos (by rw [List.length_map]; exact h1), ← h2]
end
section
variable {A A1 : Om} {P : List Sl} {f : Den D} {c : Str} {fs : List (Str × D)} {F : FD} {i : Int}
theorem te_lenO (h1 : TE A P f (.obj c fs) A1) (hF : Sp0 F [.obj c fs] (.int i)) (h0 : 0 ≤ i) (h2 : i < 9223372036854775808) : TE A P (fCB (dLenO c 1 F) (fCons f fNil)) (.int i) A1 :=
  te_bnd (te_cons h1 te_nil) ⟨rfl, fun Γ Ω w => ⟨Ω, by
    show dLenO c 1 F [D.obj c fs] Ω = _
    unfold dLenO op1
    dsimp only
    rw [asO_obj]
    dsimp only
    rw [if_pos (show [_].length = 1 from rfl), hF Ω w.pure]
    exact if_pos ⟨h0, h2⟩, w.refl⟩⟩
def lenT (i : Int) : Option Int := if 0 ≤ i ∧ i < 9223372036854775808 then some i else none
theorem te_lenT {j : Int} (h1 : TE A P f (.obj c fs) A1) (hF : Sp0 F [.obj c fs] (.int i)) (h : lenT i = some j) : TE A P (fCB (dLenO c 1 F) (fCons f fNil)) (.int j) A1 := by
  obtain ⟨⟨h0, h2⟩, h3⟩ := ite_some h
  subst h3
  exact te_lenO h1 hF h0 h2
end
end Tn




set_option Elab.async false
set_option linter.all false
set_option maxRecDepth 100000
/-! TnFmt: f'pre{e!r}suf', repr of an instance, an instance called, v in x: typed. -/
namespace Tn
open PySem L2 Dn
def fmtT (pre suf : Str) (d : D) : Option Str := match toPg (fun _ => none) d with
  | some p => if okRep p = true ∧ isSeqB p = true ∧ (Str.empty ++ pre ++ p.shown).length ≤ 100000 ∧ (Str.empty ++ pre ++ p.shown ++ suf).length ≤ 100000 then some (Str.empty ++ pre ++ p.shown ++ suf) else none
  | none => none
section
variable {A A1 : Om} {P : List Sl} {f g : Den D} {c : Str} {fs : List (Str × D)} {F : FD} {d : D}
theorem te_fmt {pre suf t : Str} (h1 : TE A P f d A1) (h : fmtT pre suf d = some t) : TE A P (fFmt pre suf f) (.str t) A1 := te_bnd h1 (te_now fun Γ Ω => by
  unfold fmtT at h
  cases e : toPg (fun _ => none) d with
  | none => rw [e] at h; cases h
  | some p =>
    rw [e] at h
    obtain ⟨z1, z2⟩ := ite_some h
    show (match toP Ω 3 d with
      | some p => _
      | none => none) = _
    rw [toP_pure e]
    dsimp only
    rw [if_pos z1, z2])
theorem te_reprO {t : Str} (h1 : TE A P f (.obj c fs) A1) (hF : Sp0 F [.obj c fs] (.str t)) : TE A P (fCB (dReprO c 1 F) (fCons f fNil)) (.str t) A1 :=
  te_bnd (te_cons h1 te_nil) ⟨rfl, fun Γ Ω w => ⟨Ω, by
    show dReprO c 1 F [D.obj c fs] Ω = _
    unfold dReprO op1
    dsimp only
    rw [asO_obj]
    dsimp only
    rw [if_pos (show [_].length = 1 from rfl), hF Ω w.pure], w.refl⟩⟩
theorem te_callO (h1 : TE A P f (.obj c fs) A1) (h2 : TE A1 P g d A1) {z : D} (hF : Sp0 F [.obj c fs, d] z) : TE A P (fCallO c 2 F f (fCons g fNil)) z A1 := te_bnd h1 (by
  have h3 := te_cons h2 te_nil
  refine ⟨rfl, fun Γ Ω w => ?_⟩
  obtain ⟨Ω1, e1, x1⟩ := h3.2 Γ Ω w
  refine ⟨Ω1, ?_, x1⟩
  show (if c = c then bR (fCons g fNil Γ Ω) _ else none) = _
  rw [if_pos rfl, e1, bR_ok]
  rw [if_pos (show [_, _].length = 2 from rfl), hF Ω1 (w.ext x1 rfl).pure]
  rfl)
theorem te_inO {b : Bool} (h1 : TE A P f d A1) (h2 : TE A1 P g (.obj c fs) A1) (hF : Sp0 F [.obj c fs, d] (.bl b)) : TE A P (fBin (dInO c 2 F) f g) (.bl b) A1 := te_bnd h1 (te_bnd h2 ⟨rfl, fun Γ Ω w => ⟨Ω, by
  show dInO c 2 F d (D.obj c fs) Ω = _
  unfold dInO
  rw [asO_obj]
  dsimp only
  rw [if_pos (show [_, _].length = 2 from rfl), hF Ω w.pure], w.refl⟩⟩)
end
end Tn


set_option Elab.async false
set_option linter.all false
set_option maxRecDepth 100000
/-! TnCls: class methods, cls(..), the repr of a list of objects, list(range(a, b)), typed. -/
namespace Tn
open PySem L2 Dn
def reprLT (c fld pre suf : Str) (ds : List D) : Option Str := match objTs c fld pre suf ds with
  | some ts => if ds ≠ [] ∧ (listText ts).length ≤ 100000 then some (listText ts) else none
  | none => none
theorem o_reprL {c fld pre suf t : Str} {ds : List D} (h : reprLT c fld pre suf ds = some t) (Ω : Om) : dReprL c fld pre suf [.lst ds] Ω = some (.ok (.str t), Ω) := by
  unfold reprLT at h
  unfold dReprL op1
  dsimp only
  cases e : objTs c fld pre suf ds with
  | none => rw [e] at h; cases h
  | some ts =>
    rw [e] at h
    obtain ⟨z1, z2⟩ := ite_some h
    dsimp only
    rw [if_pos z1, z2]
def rgLT (i j : Int) : Option (List Int) := if (-(2 ^ 62) ≤ i ∧ i < 2 ^ 62 ∧ -(2 ^ 62) ≤ j ∧ j < 2 ^ 62) ∧ (j - i).toNat ≤ 100000 then some (rangeI i (j - i).toNat) else none
theorem o_rgL {i j : Int} {xs : List Int} (h : rgLT i j = some xs) (Ω : Om) : dRgL (.int i) (.int j) Ω = some (.ok (eL D.int xs), Ω) := by
  obtain ⟨z1, z2⟩ := ite_some h
  show (if _ then _ else _) = _
  rw [if_pos z1, ← z2]
  show some (Rs.ok (D.lst _), Ω) = some (Rs.ok (D.lst _), Ω)
  rw [range_map]
section
variable {A A1 : Om} {P : List Sl} {f g : Den D} {r : Den (List D)} {c : Str} {F : FD} {d : D} {ds : List D} {k l : Nat} {ix : List Nat}
theorem te_cmeth (h : TE A P r ds A1) (hF : Sp0 F (.cl c :: ds) d) (hl : (D.cl c :: ds).length = k := by rfl) : TE A P (fCMeth c k F r) d A1 := te_bnd h ⟨rfl, fun Γ Ω w => ⟨Ω, by dsimp only; rw [if_pos hl]; exact hF Ω w.pure, w.refl⟩⟩
theorem te_cmethK (h : TE A P r ds A1) (hF : Sp0 F (reord ix (.cl c :: ds)) d) (hl : ds.length = l ∧ (reord ix (D.cl c :: ds)).length = k := by exact ⟨rfl, rfl⟩) : TE A P (fCMethK c k l ix F r) d A1 := te_bnd h ⟨rfl, fun Γ Ω w => ⟨Ω, by dsimp only; rw [if_pos hl]; exact hF Ω w.pure, w.refl⟩⟩
theorem te_makeV {i : Nat} (h : TE A P r ds A1) (hF : SpM c k F ds d) (hi : P[i]? = some (.pl (.cl c)) := by rfl) : TE A P (fMakeV i c k F r) d A1 := by
  have z := te_make h hF
  refine ⟨z.1, fun Γ Ω w => ?_⟩
  obtain ⟨Ω', e, x⟩ := z.2 Γ Ω w
  refine ⟨Ω', ?_, x⟩
  unfold fMakeV
  rw [w.pl i _ hi]
  dsimp only
  rw [if_pos rfl]
  exact e
theorem te_varO {α : Type} {e : α → D} {i : Nat} {x : Option α} {y : α} (hx : x = some y) (h : P[i]? = some (.pl (eO e x)) := by rfl) : TE A P (fVar i) (e y) A := by
  subst hx
  exact te_var h
theorem tiW_k {α : Type} {e : α → D} {i : Nat} {kvs : List (Int × α)} (h : P[i]? = some (.pl (eKI e kvs)) := by rfl) : TE A P (fWalk i) ((kvs.map (·.1)).map D.int) A := by
  have z := ti_k (A := A) h
  refine ⟨z.1, fun Γ Ω w => ?_⟩
  obtain ⟨Ω', e1, x⟩ := z.2 Γ Ω w
  refine ⟨Ω', ?_, x⟩
  unfold fWalk
  rw [w.pl i _ h]
  exact e1
theorem tiW_l {i : Nat} (h : P[i]? = some (.pl (.lst ds)) := by rfl) : TE A P (fWalk i) ds A := by
  have z := ti_lst (te_var (A := A) h)
  refine ⟨z.1, fun Γ Ω w => ?_⟩
  obtain ⟨Ω', e1, x⟩ := z.2 Γ Ω w
  refine ⟨Ω', ?_, x⟩
  unfold fWalk
  rw [w.pl i _ h]
  exact e1
end
end Tn


set_option Elab.async false
set_option linter.all false
set_option maxRecDepth 100000
/-! TnMix: DnMix, DnCell, typed. -/
namespace Tn
open PySem L2 Dn
def catST (a b : Str) : Option Str := if a.length + b.length ≤ 100000 then some (a ++ b) else none
theorem o_catS {a b c : Str} (h : catST a b = some c) (Ω : Om) : dCatS (.str a) (.str b) Ω = some (.ok (.str c), Ω) := by
  obtain ⟨z1, z2⟩ := ite_some h
  show (if _ then _ else _) = _
  rw [if_pos z1, z2]
theorem o_repr1 {c fld pre suf t : Str} {d : D} (h : objT c fld pre suf d = some t) (Ω : Om) : dRepr1 c fld pre suf [d] Ω = some (.ok (.str t), Ω) := by
  unfold dRepr1 op1
  dsimp only
  rw [h]
def e1 {α : Type} (a : α → D) (x : α) : D := .tup [a x]
section
variable {A A1 A2 : Om} {P : List Sl} {f g fo : Den D} {r : Den (List D)} {c mt : Str} {fs : List (Str × D)} {F R : FD} {d y z : D} {ds : List D} {i k l : Nat} {ix : List Nat} {b : Bool}
theorem te_callOK (h1 : TE A P f (.obj c fs) A1) (h2 : TE A1 P r ds A2) (hF : Sp0 F (reord ix (.obj c fs :: ds)) z) (hl : ds.length = l ∧ (reord ix (D.obj c fs :: ds)).length = k := by exact ⟨rfl, rfl⟩) : TE A P (fCallOK c k l ix F f r) z A2 := te_bnd h1 (by
  refine ⟨h2.1, fun Γ Ω w => ?_⟩
  obtain ⟨Ω1, e1, x1⟩ := h2.2 Γ Ω w
  refine ⟨Ω1, ?_, x1⟩
  show (if c = c then bR (r Γ Ω) _ else none) = _
  rw [if_pos rfl, e1, bR_ok]
  rw [if_pos hl, hF Ω1 (w.ext x1 h2.1).pure]
  rfl)
theorem te_makeK (h : TE A P r ds A1) (hF : SpM c k F (reord ix ds) d) (hl : ds.length = l := by rfl) : TE A P (fMakeK c k l ix F r) d A1 := te_bnd h ⟨rfl, fun Γ Ω w => ⟨Ω, by dsimp only; rw [if_pos hl]; exact hF Ω w.pure, w.refl⟩⟩
theorem te_ownX {t : String} (h1 : TE A P f (.obj c fs) A1) (h2 : TE A1 P g y A2) (hF : Sp0 F [.obj c fs, y] (.bl b)) (ht : ∀ Ω, tyD Ω y = some t := by intro _; rfl) : TE A P (fBin (dOwnX c 2 F) f g) (.bl b) A2 := te_bnd h1 (te_bnd h2 ⟨rfl, fun Γ Ω w => ⟨Ω, by
  show dOwnX c 2 F _ _ Ω = _
  unfold dOwnX
  rw [asO_obj]
  dsimp only
  rw [ht]
  dsimp only
  rw [if_pos (show [_, _].length = 2 from rfl), hF Ω w.pure], w.refl⟩⟩)
theorem te_conO {ff : Str} {j : Int} (h1 : TE A P f (.obj c fs) A1) (hl : fs.lookup ff = none := by rfl) : TE A P (fUn (dConO c ff j) f) (.int j) A1 := te_bnd h1 (te_now fun _ Ω => by
  show dConO c ff j _ Ω = _
  unfold dConO
  rw [asO_obj]
  dsimp only
  rw [hl])
theorem te_makeL {ds0 : List D} {gs : List (Str × D)} (hF : SpM c k F [.lst ds0] (.obj c gs)) (hfl : flatF gs = true) (hi : P[i]? = some (.ow (.lst ds0)) := by rfl) : TE A P (fMakeL c k F (fCons (fVar i) fNil)) (.obj c gs) A := by
  refine ⟨rfl, fun Γ Ω w => ⟨Ω, ?_, w.refl⟩⟩
  obtain ⟨n, z1, z2, z3⟩ := w.ow i _ hi
  have e0 : fCons (fVar i) fNil Γ Ω = some (.ok [.ref n], Ω) := by
    unfold fCons bnd fVar
    rw [z1]
    rfl
  have e1 : [D.ref n].map (lendD Ω) = [.lst ds0] := by
    show [lendD Ω (.ref n)] = _
    unfold lendD
    dsimp only
    rw [z3]
  have hb : belowL 0 [D.lst ds0] = true := by
    have hp := w.pure _ (List.mem_of_getElem? z3)
    have hp' : belowL 0 ds0 = true := hp
    show (below 0 (.lst ds0) && belowL 0 []) = true
    have : below 0 (.lst ds0) = true := by unfold below; exact hp'
    rw [this]
    rfl
  unfold fMakeL bnd
  rw [e0, bR_ok]
  dsimp only
  rw [e1, if_pos hb, hF [] (fun _ h => by cases h)]
  dsimp only
  rw [if_pos hfl]
theorem te_andF (h1 : TE A P f (.bl false) A1) : TE A P (fAndV f g) (.bl false) A1 := te_bnd (tt_val h1) te_c
/-- list(x) of one's own -/
theorem tb_newLs (h : TE A P f d A1) (hs : ∀ Ω, seqD Ω d = some ds) (hb : belowL 0 ds = true) : TB A P (sSet i (fCB dListC (fCons f fNil))) (.nx (P.set i (.ow (.lst ds)))) A1 := ⟨h.1, fun Γ Ω w => by
  obtain ⟨Ω1, e, r1⟩ := (te_cons h te_nil).2 Γ Ω w
  refine ⟨_, _, set_ok (d := .ref Ω1.length) (Ω1 := Ω1 ++ [.lst ds]) ?_, (w.ext r1 h.1).new i (.lst ds) hb⟩
  unfold fCB bnd
  rw [e, bR_ok]
  show dListC [d] Ω1 = _
  unfold dListC op1
  dsimp only
  rw [hs]⟩
theorem ext_push {Ω Ω1 : Om} {cl : Cell} (w : Rw A P Γ Ω) (x : Ext A1 Ω Ω1) (hl : A1.length = A.length) (hb : cellBelow 0 cl = true) : Ext A1 Ω (Ω1 ++ [cl]) := by
  obtain ⟨W, e⟩ := x.base
  refine ⟨⟨W ++ [cl], by rw [e, List.append_assoc]⟩, x.pure.add hb, fun n h1 h2 => ?_⟩
  have k := x.keep n h1 h2
  have hlt : n < Ω1.length := by
    have : Ω1[n]? = some Ω[n] := by rw [k]; exact List.getElem?_eq_getElem h2
    exact (List.getElem?_eq_some_iff.mp this).1
  rw [List.getElem?_append_left hlt, k]
/-- x.m().clear(), x.m().append(y): a told list is changed -/
theorem te_tmpClr {ds0 : List D} (h : TE A P fo (.obj c fs) A1) (hR : ∀ Ω, PureΩ Ω → R [.obj c fs] Ω = some (.ok (.ref Ω.length), Ω ++ [.lst ds0])) (hm : fs.lookup mt = none := by rfl) : TE A P (fMt0 chkL mClear (fMeth c mt 1 R fo fNil)) .non A1 := by
  refine ⟨h.1, fun Γ Ω w => ?_⟩
  obtain ⟨Ω1, e1, x1⟩ := h.2 Γ Ω w
  have hp := (w.ext x1 h.1).pure
  refine ⟨Ω1 ++ [.lst []], ?_, ext_push w x1 h.1 rfl⟩
  have e2 : fMeth c mt 1 R fo fNil Γ Ω = some (.ok (.ref Ω1.length), Ω1 ++ [.lst ds0]) := by
    unfold fMeth bnd
    rw [e1, bR_ok]
    dsimp only
    rw [asO_obj]
    dsimp only
    rw [hm]
    dsimp only
    show bR (some (.ok [], Ω1)) _ = _
    rw [bR_ok, if_pos (show [_].length = 1 from rfl)]
    exact hR Ω1 hp
  have hc : cellL (Ω1 ++ [.lst ds0]) Ω1.length = some ds0 := by
    unfold cellL
    simp
  unfold fMt0 bnd
  rw [e2, bR_ok]
  have hk : chkL (.ref Ω1.length) (Ω1 ++ [.lst ds0]) = true := by
    unfold chkL
    dsimp only
    rw [hc]
    rfl
  dsimp only
  rw [if_pos hk]
  show mClear (.ref Ω1.length) [] (Ω1 ++ [.lst ds0]) = _
  unfold mClear
  dsimp only
  rw [hc]
  dsimp only
  congr 3
  simp
theorem te_tmpApp {ds0 : List D} (h : TE A P fo (.obj c fs) A1) (hR : ∀ Ω, PureΩ Ω → R [.obj c fs] Ω = some (.ok (.ref Ω.length), Ω ++ [.lst ds0])) (hr : ∀ Γ Ω, r Γ Ω = some (.ok [y], Ω)) (hl : ds0.length < 100000) (hb0 : below 0 (.lst ds0) = true) (hy : below 0 y = true) (hm : fs.lookup mt = none := by rfl) :
    TE A P (fMt chkL mAppend (fMeth c mt 1 R fo fNil) r) .non A1 := by
  refine ⟨h.1, fun Γ Ω w => ?_⟩
  obtain ⟨Ω1, e1, x1⟩ := h.2 Γ Ω w
  have hp := (w.ext x1 h.1).pure
  have hb : belowL 0 ds0 = true := by unfold below at hb0; exact hb0
  have hb2 : belowL 0 (ds0 ++ [y]) = true := by
    have : ∀ (l : List D), belowL 0 l = true → belowL 0 (l ++ [y]) = true := fun l => by
      induction l with
      | nil => intro _; show (below 0 y && belowL 0 []) = true; rw [hy]; rfl
      | cons a l ih =>
        intro z
        unfold belowL at z
        obtain ⟨z1, z2⟩ := Bool.and_eq_true_iff.mp z
        rw [List.cons_append]
        unfold belowL
        rw [z1, ih z2]
        rfl
    exact this ds0 hb
  refine ⟨Ω1 ++ [.lst (ds0 ++ [y])], ?_, ext_push w x1 h.1 (show cellBelow 0 (.lst (ds0 ++ [y])) = true from hb2)⟩
  have e2 : fMeth c mt 1 R fo fNil Γ Ω = some (.ok (.ref Ω1.length), Ω1 ++ [.lst ds0]) := by
    unfold fMeth bnd
    rw [e1, bR_ok]
    dsimp only
    rw [asO_obj]
    dsimp only
    rw [hm]
    dsimp only
    show bR (some (.ok [], Ω1)) _ = _
    rw [bR_ok, if_pos (show [_].length = 1 from rfl)]
    exact hR Ω1 hp
  have hc : cellL (Ω1 ++ [.lst ds0]) Ω1.length = some ds0 := by
    unfold cellL
    simp
  unfold fMt bnd
  rw [e2, bR_ok]
  have hk : chkL (.ref Ω1.length) (Ω1 ++ [.lst ds0]) = true := by
    unfold chkL
    dsimp only
    rw [hc]
    rfl
  dsimp only
  rw [if_pos hk, hr, bR_ok]
  show mAppend (.ref Ω1.length) [y] (Ω1 ++ [.lst ds0]) = _
  unfold mAppend
  dsimp only
  rw [hc]
  dsimp only
  rw [if_pos hl]
  congr 3
  simp
end
def lenLt {α : Type} (xs : List α) : Option Unit := if xs.length < 100000 then some () else none
theorem lenLt_ok {α : Type} {xs : List α} {u : Unit} (h : lenLt xs = some u) {e : α → D} : (xs.map e).length < 100000 := by
  obtain ⟨z1, _⟩ := ite_some h
  rw [List.length_map]
  exact z1
end Tn


set_option Elab.async false
set_option linter.all false
set_option maxRecDepth 100000
set_option maxHeartbeats 4000000
namespace K11
open PySem PySem.Spec PyProof.Rows L2 Dn Tn
abbrev e_Stair (s : List (Int × Int × Int)) : D := .obj "Stair" [("own_steps", (eT stD s))]
theorem pu_Stair : Pu e_Stair := fun s => (belowF_cons (f := "own_steps") ((pu_T pu_st) _) rfl)
abbrev e_RightSteps (s : List (Int × Int × Int)) : D := .obj "RightSteps" [("told_steps", (eT stD s))]
theorem pu_RightSteps : Pu e_RightSteps := fun s => (belowF_cons (f := "told_steps") ((pu_T pu_st) _) rfl)
theorem fl_st (xs : List (Int × Int × Int)) : flatL (xs.map stD) = true := by
  induction xs with
  | nil => rfl
  | cons x xs ih => show (flat (stD x) && flatL (xs.map stD)) = true; rw [ih]; rfl
theorem fl_Stair (s : List (Int × Int × Int)) : flatF [("own_steps", eT stD s)] = true := by
  show (flat (eT stD s) && true) = true
  have : flat (eT stD s) = flatL (s.map stD) := rfl
  rw [this, fl_st]
  rfl
theorem r_Stair_steps (s : List (Int × Int × Int)) (Ω : Om) (_h : PureΩ Ω) : R_Stair_steps [e_Stair s] Ω = some (.ok (.ref Ω.length), Ω ++ [.lst (s.map stD)]) := rfl
/-! ### draws -/
def PotOk (q : Pot) : Prop := 0 ≤ q.2 ∧ q.2 < 4294967296
def t_law_draw (size : Int) (q : Pot) : Option (Int × Pot) :=
  if 0 < size ∧ size < 1073741824 ∧ 0 ≤ q.2 ∧ q.2 < 4294967296 then
    (if 0 < q.1 then some (q.1 % size, (q.1 / size, q.2)) else some (((q.2 * 48271 + 14009) % 2147483587 * ((q.2 * 48271 + 14009) % 2147483587) % 2147483549 / 13) % size, (q.1, (q.2 * 48271 + 14009) % 2147483587)))
  else none
theorem draw_spec {size : Int} {q : Pot} (hq : PotOk q) (h1 : 0 < size) (h2 : size < 1073741824) : ∃ d q', t_law_draw size q = some (d, q') ∧ 0 ≤ d ∧ d < size ∧ PotOk q' := by
  unfold t_law_draw
  rw [if_pos ⟨h1, h2, hq.1, hq.2⟩]
  split
  · exact ⟨_, _, rfl, Int.emod_nonneg _ (by omega), Int.emod_lt_of_pos _ h1, hq⟩
  · refine ⟨_, _, rfl, Int.emod_nonneg _ (by omega), Int.emod_lt_of_pos _ h1, Int.emod_nonneg _ (by decide), ?_⟩
    have := Int.emod_lt_of_pos (q.2 * 48271 + 14009) (b := 2147483587) (by decide)
    show (q.2 * 48271 + 14009) % 2147483587 < 4294967296
    omega
theorem w_law_draw {size : Int} {q q' : Pot} {rr : Int} {n : Nat} (hr : t_law_draw size q = some (rr, q')) : SpP F_law_draw [.ref n, .int size] n q (.int rr) q' := by
  intro Ω hP hg0
  obtain ⟨p, q⟩ := q
  have hg : Ω[n]? = some (.lst [.int p, .int q]) := hg0
  have hn : n < Ω.length := (List.getElem?_eq_some_iff.mp hg).1
  unfold t_law_draw at hr
  obtain ⟨⟨hs, hs2, hq1, hq2⟩, hr⟩ := ite_some' hr
  have hc : cellL Ω n = some [.int p, .int q] := by unfold cellL; rw [hg]
  dsimp only at hr hq1 hq2
  by_cases hp : 0 < p
  · rw [if_pos hp] at hr
    obtain ⟨e1, e2⟩ := Prod.mk.inj (Option.some.inj hr)
    subst e1 e2
    refine clean_val0 ?_ (by simp) (hP.set rfl) rfl
    simp [b_law_draw, fnD, startG, sRet, sIf, sSeq, bS, sSet, eS, sExp, sSkip, sNever, sPar, sAsg, Dn.gT, Dn.gCons, Dn.gNil, Dn.gN, fAndV, fOrV, fNotV, fBl, fAnd, fOr, fNot, fIf, fT, fBin, fUn, bnd, fVar, fC, dIx, dAdd, dSub, dLt, dLe, dGt, dGe, Dn.opI, dNeg, fCons, fNil, fTup, fLst, fLstC, fCB, op1, op2, fIs, isB, isC, isB2, tyD, isT, asL, L2.atI, ixN, fChain, hg, hp, sSetPair, setIx, hc, dDivmod, hs, hs2, potC]
  · rw [if_neg hp] at hr
    obtain ⟨e1, e2⟩ := Prod.mk.inj (Option.some.inj hr)
    subst e1 e2
    have hr1 : 0 ≤ (q * 48271 + 14009) % 2147483587 := Int.emod_nonneg _ (by decide)
    have hr2 : (q * 48271 + 14009) % 2147483587 < 2147483587 := Int.emod_lt_of_pos _ (by decide)
    generalize er : (q * 48271 + 14009) % 2147483587 = r at hr1 hr2
    have hg2 : ∀ c, (Ω.set n c)[n]? = some c := fun c => by rw [List.getElem?_set_self hn]
    have c1 : cMul q 48271 = true := by unfold cMul; rw [decide_eq_true_iff]; right; constructor <;> decide
    have c2 : cMul r r = true := by unfold cMul; rw [decide_eq_true_iff]; left; constructor <;> omega
    refine clean_val0 ?_ (by simp) (hP.set rfl) rfl
    simp [b_law_draw, fnD, startG, sRet, sIf, sSeq, bS, sSet, eS, sExp, sSkip, sNever, sPar, sAsg, Dn.gT, Dn.gCons, Dn.gNil, Dn.gN, fAndV, fOrV, fNotV, fBl, fAnd, fOr, fNot, fIf, fT, fBin, fUn, bnd, fVar, fC, dIx, dAdd, dSub, dLt, dLe, dGt, dGe, Dn.opI, dNeg, fCons, fNil, fTup, fLst, fLstC, fCB, op1, op2, fIs, isB, isC, isB2, tyD, isT, asL, L2.atI, ixN, fChain, hg, hp, sSetIx, setIx, hc, hg2, dMul, opIC, c1, c2, dMod, dFdiv, dInt, er, hs, potC]

def t_is_integer (v_value : Int) : Option Bool :=
  some (true && (!false))
theorem w_is_integer {v_value : Int} {rr : Bool} (hr : t_is_integer v_value = some rr) : Sp0 F_is_integer [(D.int v_value)] (D.bl rr) := by
  refine fn_0 rfl fun A => ?_
  unfold t_is_integer at hr
  unfold b_is_integer
  obtain hs := Option.some.inj hr
  subst hs
  exact tr_ret (te_and (b := true) (b' := (!false)) (te_is (b := true) (te_var (d := (D.int v_value)))) (fun _ => (te_not (te_is (b := false) (te_var (d := (D.int v_value)))))))
def t_is_list_l (v_value : List (Int × Int × Int)) : Option Bool :=
  some true
theorem w_is_list_l {v_value : List (Int × Int × Int)} {rr : Bool} (hr : t_is_list_l v_value = some rr) : Sp0 F_is_list [(eL stD v_value)] (D.bl rr) := by
  refine fn_0 rfl fun A => ?_
  unfold t_is_list_l at hr
  unfold b_is_list
  obtain hs := Option.some.inj hr
  subst hs
  exact tr_ret (te_is (b := true) (te_var (d := (eL stD v_value))))
def t_is_list_t (v_value : List (Int × Int × Int)) : Option Bool :=
  some true
theorem w_is_list_t {v_value : List (Int × Int × Int)} {rr : Bool} (hr : t_is_list_t v_value = some rr) : Sp0 F_is_list [(eT stD v_value)] (D.bl rr) := by
  refine fn_0 rfl fun A => ?_
  unfold t_is_list_t at hr
  unfold b_is_list
  obtain hs := Option.some.inj hr
  subst hs
  exact tr_ret (te_is (b := true) (te_var (d := (eT stD v_value))))
def t_is_step (v_value : Int × Int × Int) : Option Bool :=
  Option.bind (orO false (Option.bind (orO (!decide (3 = 3)) (Option.bind (lcO (β := Bool) (fun (e1 : Int) => Option.bind (t_is_integer e1) fun x2 => some (some x2)) ([v_value.1, v_value.2.1, v_value.2.2])) fun x4 => some (!(x4.all id)))) fun x6 => some x6)) fun x8 => Option.bind (some x8) fun c10 => ifO c10 (some false) (some (decide (1 ≤ v_value.2.2)))
theorem w_is_step {v_value : Int × Int × Int} {rr : Bool} (hr : t_is_step v_value = some rr) : Sp0 F_is_step [(stD v_value)] (D.bl rr) := by
  refine fn_0 rfl fun A => ?_
  unfold t_is_step at hr
  unfold b_is_step
  obtain ⟨x8, h9, hr⟩ := bE hr
  obtain ⟨c10, h11, hr⟩ := bE hr
  cases c10 with
  | true =>
    rw [ifO_t] at hr
    refine tr_seqR (tr_ifT (te_castS h11 (tt_orO (tt_not (b := true) (tt_val (b := true) (te_is (b := true) (te_var (d := (stD v_value)))))) h9 (fun _ hh => by obtain ⟨x6, h7, hh⟩ := bE hh; exact te_castS hh (tt_orO (tt_val (b := (!decide (3 = 3))) (te_bin (z := D.bl (!decide (3 = 3))) (te_cb (z := (D.int 3)) (te_cons (d := (stD v_value)) (te_var (d := (stD v_value))) te_nil)) te_c)) h7 (fun _ hh => by obtain ⟨x4, h5, hh⟩ := bE hh; exact te_castS hh (tt_not (b := (x4.all id)) (tt_val (b := (x4.all id)) (te_cb (z := (D.bl (x4.all id))) (te_cons (d := (eL D.bl x4)) (te_lcO (e := D.int) (ey := D.bl) (vs := [1]) h5 (ti_tup (te_var (d := (stD v_value)))) (by intro e1 yy hh; exact ⟨_, tgt_nm, (by obtain ⟨x2, h3, hh⟩ := bE hh; obtain hs := Option.some.inj hh; subst hs; exact .inr ⟨_, rfl, te_c, (te_call0 (te_cons (d := (D.int e1)) (te_var (d := (D.int e1))) te_nil) (w_is_integer h3))⟩)⟩)) te_nil) (fun Ω => o_all Ω))))))))) ?_)
    obtain hs := Option.some.inj hr
    subst hs
    exact tr_ret te_c
  | false =>
    rw [ifO_f] at hr
    refine tr_seq (tb_ifF (te_castS h11 (tt_orO (tt_not (b := true) (tt_val (b := true) (te_is (b := true) (te_var (d := (stD v_value)))))) h9 (fun _ hh => by obtain ⟨x6, h7, hh⟩ := bE hh; exact te_castS hh (tt_orO (tt_val (b := (!decide (3 = 3))) (te_bin (z := D.bl (!decide (3 = 3))) (te_cb (z := (D.int 3)) (te_cons (d := (stD v_value)) (te_var (d := (stD v_value))) te_nil)) te_c)) h7 (fun _ hh => by obtain ⟨x4, h5, hh⟩ := bE hh; exact te_castS hh (tt_not (b := (x4.all id)) (tt_val (b := (x4.all id)) (te_cb (z := (D.bl (x4.all id))) (te_cons (d := (eL D.bl x4)) (te_lcO (e := D.int) (ey := D.bl) (vs := [1]) h5 (ti_tup (te_var (d := (stD v_value)))) (by intro e1 yy hh; exact ⟨_, tgt_nm, (by obtain ⟨x2, h3, hh⟩ := bE hh; obtain hs := Option.some.inj hh; subst hs; exact .inr ⟨_, rfl, te_c, (te_call0 (te_cons (d := (D.int e1)) (te_var (d := (D.int e1))) te_nil) (w_is_integer h3))⟩)⟩)) te_nil) (fun Ω => o_all Ω))))))))) tb_skip) ?_
    obtain hs := Option.some.inj hr
    subst hs
    exact tr_ret (te_bin (z := D.bl (decide (1 ≤ v_value.2.2))) (te_bin (x := (stD v_value)) (z := (D.int v_value.2.2)) (te_var (d := (stD v_value))) te_c) te_c)
def t_does_rise (v_before : Int × Int × Int) (v_step : Int × Int × Int) : Option Bool :=
  some (decide ((v_before.1 + v_before.2.2) ≤ v_step.1) && decide ((v_before.2.1 + v_before.2.2) ≤ v_step.2.1))
theorem w_does_rise {v_before : Int × Int × Int} {v_step : Int × Int × Int} {rr : Bool} (hr : t_does_rise v_before v_step = some rr) : Sp0 F_does_rise [(stD v_before), (stD v_step)] (D.bl rr) := by
  refine fn_0 rfl fun A => ?_
  unfold t_does_rise at hr
  unfold b_does_rise
  obtain hs := Option.some.inj hr
  subst hs
  exact tr_ret (te_and (b := (decide ((v_before.1 + v_before.2.2) ≤ v_step.1))) (b' := (decide ((v_before.2.1 + v_before.2.2) ≤ v_step.2.1))) (te_bin (z := D.bl (decide ((v_before.1 + v_before.2.2) ≤ v_step.1))) (te_bin (x := (stD v_step)) (z := (D.int v_step.1)) (te_var (d := (stD v_step))) te_c) (te_bin (z := D.int (v_before.1 + v_before.2.2)) (te_bin (x := (stD v_before)) (z := (D.int v_before.1)) (te_var (d := (stD v_before))) te_c) (te_bin (x := (stD v_before)) (z := (D.int v_before.2.2)) (te_var (d := (stD v_before))) te_c))) (fun _ => (te_bin (z := D.bl (decide ((v_before.2.1 + v_before.2.2) ≤ v_step.2.1))) (te_bin (x := (stD v_step)) (z := (D.int v_step.2.1)) (te_var (d := (stD v_step))) te_c) (te_bin (z := D.int (v_before.2.1 + v_before.2.2)) (te_bin (x := (stD v_before)) (z := (D.int v_before.2.1)) (te_var (d := (stD v_before))) te_c) (te_bin (x := (stD v_before)) (z := (D.int v_before.2.2)) (te_var (d := (stD v_before))) te_c)))))
def t_want_steps_l (v_steps : List (Int × Int × Int)) : Option Unit :=
  Option.bind (t_is_list_l v_steps) fun x1 => Option.bind (some (!x1)) fun c3 => ifO c3 none (Option.bind (foldN (fun (e6 : Int × (Int × Int × Int)) (s5 : Unit) => (Option.bind (t_is_step e6.2) fun x7 => Option.bind (orO (!x7) (Option.bind (andO (decide (0 < e6.1)) (Option.bind (L2.atI v_steps (e6.1 - 1)) fun x9 => Option.bind (t_does_rise x9 e6.2) fun x11 => some (!x11))) fun x13 => some x13)) fun x15 => Option.bind (some x15) fun c17 => ifO c17 none (some ()) : Option Unit)) (enumT 0 v_steps) ()) fun r19 => some ())
theorem w_want_steps_l {v_steps : List (Int × Int × Int)} {rr : Unit} (hr : t_want_steps_l v_steps = some rr) : Sp0 F_want_steps [(eL stD v_steps)] D.non := by
  refine fn_0 rfl fun A => ?_
  unfold t_want_steps_l at hr
  unfold b_want_steps
  obtain ⟨x1, h2, hr⟩ := bE hr
  obtain ⟨c3, h4, hr⟩ := bE hr
  cases c3 with
  | true =>
    rw [ifO_t] at hr
    refine tr_seqR (tr_ifT (te_castS h4 (tt_not (b := x1) (tt_val (b := x1) (te_call0 (te_cons (d := (eL stD v_steps)) (te_var (d := (eL stD v_steps))) te_nil) (w_is_list_l h2))))) ?_)
    cases hr
  | false =>
    rw [ifO_f] at hr
    refine tr_seq (tb_ifF (te_castS h4 (tt_not (b := x1) (tt_val (b := x1) (te_call0 (te_cons (d := (eL stD v_steps)) (te_var (d := (eL stD v_steps))) te_nil) (w_is_list_l h2))))) tb_skip) ?_
    obtain ⟨r19, h20, hr⟩ := bE hr
    refine tr_last ?_
    refine tr_seq (tb_forM (e := (e2 D.int stD)) (fun (s5 : Unit) => [.pl (eL stD v_steps), .un, .un]) (fun (_ : Unit) => A) h20 (ti_en (e := stD) (te_cons (d := (eL stD v_steps)) (te_var (d := (eL stD v_steps))) te_nil)) (by repeat (first | exact Pw.nil | apply Pw.same | apply Pw.un)) ?_) ?_
    · intro e6 s5 s' hr
      try dsimp only at hr
      refine ⟨_, (tg_t (tgs_cons tg_n (tgs_cons tg_n tgs_nil))), ?_⟩
      unfold b_want_steps_for
      obtain ⟨x7, h8, hr⟩ := bE hr
      obtain ⟨x15, h16, hr⟩ := bE hr
      obtain ⟨c17, h18, hr⟩ := bE hr
      cases c17 with
      | true =>
        rw [ifO_t] at hr
        refine tb_ifT (te_castS h18 (tt_orO (tt_not (b := x7) (tt_val (b := x7) (te_call0 (te_cons (d := (stD e6.2)) (te_var (d := (stD e6.2))) te_nil) (w_is_step h8)))) h16 (fun _ hh => by obtain ⟨x13, h14, hh⟩ := bE hh; exact te_castS hh (tt_andO (tt_val (b := decide (0 < e6.1)) (te_bin (z := D.bl (decide (0 < e6.1))) (te_var (d := (D.int e6.1))) te_c)) h14 (fun _ hh => by obtain ⟨x9, h10, hh⟩ := bE hh; obtain ⟨x11, h12, hh⟩ := bE hh; exact te_castS hh (tt_not (b := x11) (tt_val (b := x11) (te_call0 (te_cons (d := (stD x9)) (te_bin (x := (eL stD v_steps)) (z := (stD x9)) (te_var (d := (eL stD v_steps))) (te_bin (z := D.int (e6.1 - 1)) (te_var (d := (D.int e6.1))) te_c) (fun Ω => o_ixL (e := stD) h10 Ω)) (te_cons (d := (stD e6.2)) (te_var (d := (stD e6.2))) te_nil)) (w_does_rise h12))))))))) ?_
        cases hr
      | false =>
        rw [ifO_f] at hr
        refine tb_ifF (te_castS h18 (tt_orO (tt_not (b := x7) (tt_val (b := x7) (te_call0 (te_cons (d := (stD e6.2)) (te_var (d := (stD e6.2))) te_nil) (w_is_step h8)))) h16 (fun _ hh => by obtain ⟨x13, h14, hh⟩ := bE hh; exact te_castS hh (tt_andO (tt_val (b := decide (0 < e6.1)) (te_bin (z := D.bl (decide (0 < e6.1))) (te_var (d := (D.int e6.1))) te_c)) h14 (fun _ hh => by obtain ⟨x9, h10, hh⟩ := bE hh; obtain ⟨x11, h12, hh⟩ := bE hh; exact te_castS hh (tt_not (b := x11) (tt_val (b := x11) (te_call0 (te_cons (d := (stD x9)) (te_bin (x := (eL stD v_steps)) (z := (stD x9)) (te_var (d := (eL stD v_steps))) (te_bin (z := D.int (e6.1 - 1)) (te_var (d := (D.int e6.1))) te_c) (fun Ω => o_ixL (e := stD) h10 Ω)) (te_cons (d := (stD e6.2)) (te_var (d := (stD e6.2))) te_nil)) (w_does_rise h12))))))))) ?_
        obtain hs := Option.some.inj hr
        subst hs
        exact tb_weak tb_skip (by repeat (first | exact Pw.nil | apply Pw.same | apply Pw.un))
    obtain hs := Option.some.inj hr
    subst hs
    exact tr_nx tb_skip
def t_want_steps_t (v_steps : List (Int × Int × Int)) : Option Unit :=
  Option.bind (t_is_list_t v_steps) fun x1 => Option.bind (some (!x1)) fun c3 => ifO c3 none (Option.bind (foldN (fun (e6 : Int × (Int × Int × Int)) (s5 : Unit) => (Option.bind (t_is_step e6.2) fun x7 => Option.bind (orO (!x7) (Option.bind (andO (decide (0 < e6.1)) (Option.bind (L2.atI v_steps (e6.1 - 1)) fun x9 => Option.bind (t_does_rise x9 e6.2) fun x11 => some (!x11))) fun x13 => some x13)) fun x15 => Option.bind (some x15) fun c17 => ifO c17 none (some ()) : Option Unit)) (enumT 0 v_steps) ()) fun r19 => some ())
theorem w_want_steps_t {v_steps : List (Int × Int × Int)} {rr : Unit} (hr : t_want_steps_t v_steps = some rr) : Sp0 F_want_steps [(eT stD v_steps)] D.non := by
  refine fn_0 rfl fun A => ?_
  unfold t_want_steps_t at hr
  unfold b_want_steps
  obtain ⟨x1, h2, hr⟩ := bE hr
  obtain ⟨c3, h4, hr⟩ := bE hr
  cases c3 with
  | true =>
    rw [ifO_t] at hr
    refine tr_seqR (tr_ifT (te_castS h4 (tt_not (b := x1) (tt_val (b := x1) (te_call0 (te_cons (d := (eT stD v_steps)) (te_var (d := (eT stD v_steps))) te_nil) (w_is_list_t h2))))) ?_)
    cases hr
  | false =>
    rw [ifO_f] at hr
    refine tr_seq (tb_ifF (te_castS h4 (tt_not (b := x1) (tt_val (b := x1) (te_call0 (te_cons (d := (eT stD v_steps)) (te_var (d := (eT stD v_steps))) te_nil) (w_is_list_t h2))))) tb_skip) ?_
    obtain ⟨r19, h20, hr⟩ := bE hr
    refine tr_last ?_
    refine tr_seq (tb_forM (e := (e2 D.int stD)) (fun (s5 : Unit) => [.pl (eT stD v_steps), .un, .un]) (fun (_ : Unit) => A) h20 (ti_enT (e := stD) (te_cons (d := (eT stD v_steps)) (te_var (d := (eT stD v_steps))) te_nil)) (by repeat (first | exact Pw.nil | apply Pw.same | apply Pw.un)) ?_) ?_
    · intro e6 s5 s' hr
      try dsimp only at hr
      refine ⟨_, (tg_t (tgs_cons tg_n (tgs_cons tg_n tgs_nil))), ?_⟩
      unfold b_want_steps_for
      obtain ⟨x7, h8, hr⟩ := bE hr
      obtain ⟨x15, h16, hr⟩ := bE hr
      obtain ⟨c17, h18, hr⟩ := bE hr
      cases c17 with
      | true =>
        rw [ifO_t] at hr
        refine tb_ifT (te_castS h18 (tt_orO (tt_not (b := x7) (tt_val (b := x7) (te_call0 (te_cons (d := (stD e6.2)) (te_var (d := (stD e6.2))) te_nil) (w_is_step h8)))) h16 (fun _ hh => by obtain ⟨x13, h14, hh⟩ := bE hh; exact te_castS hh (tt_andO (tt_val (b := decide (0 < e6.1)) (te_bin (z := D.bl (decide (0 < e6.1))) (te_var (d := (D.int e6.1))) te_c)) h14 (fun _ hh => by obtain ⟨x9, h10, hh⟩ := bE hh; obtain ⟨x11, h12, hh⟩ := bE hh; exact te_castS hh (tt_not (b := x11) (tt_val (b := x11) (te_call0 (te_cons (d := (stD x9)) (te_bin (x := (eT stD v_steps)) (z := (stD x9)) (te_var (d := (eT stD v_steps))) (te_bin (z := D.int (e6.1 - 1)) (te_var (d := (D.int e6.1))) te_c) (fun Ω => o_ixT (e := stD) h10 Ω)) (te_cons (d := (stD e6.2)) (te_var (d := (stD e6.2))) te_nil)) (w_does_rise h12))))))))) ?_
        cases hr
      | false =>
        rw [ifO_f] at hr
        refine tb_ifF (te_castS h18 (tt_orO (tt_not (b := x7) (tt_val (b := x7) (te_call0 (te_cons (d := (stD e6.2)) (te_var (d := (stD e6.2))) te_nil) (w_is_step h8)))) h16 (fun _ hh => by obtain ⟨x13, h14, hh⟩ := bE hh; exact te_castS hh (tt_andO (tt_val (b := decide (0 < e6.1)) (te_bin (z := D.bl (decide (0 < e6.1))) (te_var (d := (D.int e6.1))) te_c)) h14 (fun _ hh => by obtain ⟨x9, h10, hh⟩ := bE hh; obtain ⟨x11, h12, hh⟩ := bE hh; exact te_castS hh (tt_not (b := x11) (tt_val (b := x11) (te_call0 (te_cons (d := (stD x9)) (te_bin (x := (eT stD v_steps)) (z := (stD x9)) (te_var (d := (eT stD v_steps))) (te_bin (z := D.int (e6.1 - 1)) (te_var (d := (D.int e6.1))) te_c) (fun Ω => o_ixT (e := stD) h10 Ω)) (te_cons (d := (stD e6.2)) (te_var (d := (stD e6.2))) te_nil)) (w_does_rise h12))))))))) ?_
        obtain hs := Option.some.inj hr
        subst hs
        exact tb_weak tb_skip (by repeat (first | exact Pw.nil | apply Pw.same | apply Pw.un))
    obtain hs := Option.some.inj hr
    subst hs
    exact tr_nx tb_skip
def t_does_go_on (v_step : Int × Int × Int) (v_elder : Int) (v_newer : Int) : Option Bool :=
  some ((decide ((v_step.1 + v_step.2.2) = v_elder)) && (decide ((v_step.2.1 + v_step.2.2) = v_newer)))
theorem w_does_go_on {v_step : Int × Int × Int} {v_elder : Int} {v_newer : Int} {rr : Bool} (hr : t_does_go_on v_step v_elder v_newer = some rr) : Sp0 F_does_go_on [(stD v_step), (D.int v_elder), (D.int v_newer)] (D.bl rr) := by
  refine fn_0 rfl fun A => ?_
  unfold t_does_go_on at hr
  unfold b_does_go_on
  obtain hs := Option.some.inj hr
  subst hs
  exact tr_ret (te_and (b := (decide ((v_step.1 + v_step.2.2) = v_elder))) (b' := (decide ((v_step.2.1 + v_step.2.2) = v_newer))) (te_bin (z := D.bl (decide ((v_step.1 + v_step.2.2) = v_elder))) (te_bin (z := D.int (v_step.1 + v_step.2.2)) (te_bin (x := (stD v_step)) (z := (D.int v_step.1)) (te_var (d := (stD v_step))) te_c) (te_bin (x := (stD v_step)) (z := (D.int v_step.2.2)) (te_var (d := (stD v_step))) te_c)) (te_var (d := (D.int v_elder)))) (fun _ => (te_bin (z := D.bl (decide ((v_step.2.1 + v_step.2.2) = v_newer))) (te_bin (z := D.int (v_step.2.1 + v_step.2.2)) (te_bin (x := (stD v_step)) (z := (D.int v_step.2.1)) (te_var (d := (stD v_step))) te_c) (te_bin (x := (stD v_step)) (z := (D.int v_step.2.2)) (te_var (d := (stD v_step))) te_c)) (te_var (d := (D.int v_newer))))))
def t_one_form_l (v_steps : List (Int × Int × Int)) : Option (List (Int × Int × Int)) :=
  Option.bind (foldN (fun (e2 : Int × Int × Int) (s1 : (List (Int × Int × Int))) => (Option.bind (andO (!decide (s1 = ([] : List (Int × Int × Int)))) (Option.bind (L2.atI s1 (-1)) fun x3 => Option.bind (t_does_go_on x3 e2.1 e2.2.1) fun x5 => some x5)) fun x7 => Option.bind (some x7) fun c9 => ifO c9 (Option.bind (L2.atI s1 (-1)) fun x11 => Option.bind (L2.atI s1 (-1)) fun x13 => Option.bind (L2.atI s1 (-1)) fun x15 => Option.bind (setT s1 (-1) (x11.1, x13.2.1, (x15.2.2 + e2.2.2))) fun x17 => some x17) (Option.bind (appT s1 (e2.1, e2.2.1, e2.2.2)) fun x19 => some x19) : Option (List (Int × Int × Int)))) v_steps ([] : List (Int × Int × Int))) fun r21 => some r21
theorem w_one_form_l {v_steps : List (Int × Int × Int)} {rr : List (Int × Int × Int)} (hr : t_one_form_l v_steps = some rr) : Sp0 F_one_form [(eL stD v_steps)] (eT stD rr) := by
  refine fn_0 ((pu_T pu_st) rr) fun A => ?_
  unfold t_one_form_l at hr
  unfold b_one_form
  refine tr_seq (tb_newL te_nil ((pu_L pu_st) ([] : List (Int × Int × Int)))) ?_
  obtain ⟨r21, h22, hr⟩ := bE hr
  refine tr_seq (tb_forM (e := stD) (fun (s1 : (List (Int × Int × Int))) => [.pl (eL stD v_steps), .ow (.lst (s1.map stD)), .un, .un, .un]) (fun (_ : (List (Int × Int × Int))) => A) h22 (ti_lst (te_var (d := (eL stD v_steps)))) (by repeat (first | exact Pw.nil | apply Pw.same | apply Pw.un)) ?_) ?_
  · intro e2 s1 s' hr
    try dsimp only at hr
    refine ⟨_, (tg_t (tgs_cons tg_n (tgs_cons tg_n (tgs_cons tg_n tgs_nil)))), ?_⟩
    unfold b_one_form_for
    obtain ⟨x7, h8, hr⟩ := bE hr
    obtain ⟨c9, h10, hr⟩ := bE hr
    cases c9 with
    | true =>
      rw [ifO_t] at hr
      refine tb_ifT (te_castS h10 (tt_andO (tt_val (b := (!decide (s1 = ([] : List (Int × Int × Int))))) (te_owL (i := 1) (z := D.bl (!decide (s1 = ([] : List (Int × Int × Int))))) rfl (te_lst te_nil) (fun Ω n hn => w_ne ex_st s1 ([] : List (Int × Int × Int)) (by decide) Ω n hn))) h8 (fun _ hh => by obtain ⟨x3, h4, hh⟩ := bE hh; obtain ⟨x5, h6, hh⟩ := bE hh; exact te_castS hh (tt_val (b := x5) (te_call0 (te_cons (d := (stD x3)) (te_owL (i := 1) (z := (stD x3)) rfl (te_un (z := D.int (-1)) te_c) (fun Ω n hn => w_ix (e := stD) h4 Ω n hn)) (te_cons (d := (D.int e2.1)) (te_var (d := (D.int e2.1))) (te_cons (d := (D.int e2.2.1)) (te_var (d := (D.int e2.2.1))) te_nil))) (w_does_go_on h6)))))) ?_
      obtain ⟨x11, h12, hr⟩ := bE hr
      obtain ⟨x13, h14, hr⟩ := bE hr
      obtain ⟨x15, h16, hr⟩ := bE hr
      obtain ⟨x17, h18, hr⟩ := bE hr
      obtain hs := Option.some.inj hr
      subst hs
      exact tb_weak (tb_setix (e := stD) (xs := s1) (a := (x11.1, x13.2.1, (x15.2.2 + e2.2.2))) (kk := (-1)) pu_st rfl (te_tup (te_cons (d := (D.int x11.1)) (te_bin (x := (stD x11)) (z := (D.int x11.1)) (te_owL (i := 1) (z := (stD x11)) rfl (te_un (z := D.int (-1)) te_c) (fun Ω n hn => w_ix (e := stD) h12 Ω n hn)) te_c) (te_cons (d := (D.int x13.2.1)) (te_bin (x := (stD x13)) (z := (D.int x13.2.1)) (te_owL (i := 1) (z := (stD x13)) rfl (te_un (z := D.int (-1)) te_c) (fun Ω n hn => w_ix (e := stD) h14 Ω n hn)) te_c) (te_cons (d := (D.int (x15.2.2 + e2.2.2))) (te_bin (z := D.int (x15.2.2 + e2.2.2)) (te_bin (x := (stD x15)) (z := (D.int x15.2.2)) (te_owL (i := 1) (z := (stD x15)) rfl (te_un (z := D.int (-1)) te_c) (fun Ω n hn => w_ix (e := stD) h16 Ω n hn)) te_c) (te_var (d := (D.int e2.2.2)))) te_nil)))) (te_un (z := D.int (-1)) te_c) h18) (by repeat (first | exact Pw.nil | apply Pw.same | apply Pw.un))
    | false =>
      rw [ifO_f] at hr
      refine tb_ifF (te_castS h10 (tt_andO (tt_val (b := (!decide (s1 = ([] : List (Int × Int × Int))))) (te_owL (i := 1) (z := D.bl (!decide (s1 = ([] : List (Int × Int × Int))))) rfl (te_lst te_nil) (fun Ω n hn => w_ne ex_st s1 ([] : List (Int × Int × Int)) (by decide) Ω n hn))) h8 (fun _ hh => by obtain ⟨x3, h4, hh⟩ := bE hh; obtain ⟨x5, h6, hh⟩ := bE hh; exact te_castS hh (tt_val (b := x5) (te_call0 (te_cons (d := (stD x3)) (te_owL (i := 1) (z := (stD x3)) rfl (te_un (z := D.int (-1)) te_c) (fun Ω n hn => w_ix (e := stD) h4 Ω n hn)) (te_cons (d := (D.int e2.1)) (te_var (d := (D.int e2.1))) (te_cons (d := (D.int e2.2.1)) (te_var (d := (D.int e2.2.1))) te_nil))) (w_does_go_on h6)))))) ?_
      obtain ⟨x19, h20, hr⟩ := bE hr
      obtain hs := Option.some.inj hr
      subst hs
      exact tb_weak (tb_appT (e := stD) h20 pu_st rfl (te_tup (te_cons (d := (D.int e2.1)) (te_var (d := (D.int e2.1))) (te_cons (d := (D.int e2.2.1)) (te_var (d := (D.int e2.2.1))) (te_cons (d := (D.int e2.2.2)) (te_var (d := (D.int e2.2.2))) te_nil))))) (by repeat (first | exact Pw.nil | apply Pw.same | apply Pw.un))
  obtain hs := Option.some.inj hr
  subst hs
  exact tr_ret (te_owB (i := 1) (z := (eT stD r21)) rfl (fun Ω n hn => w_tup (e := stD) Ω n hn))
def t_one_form_t (v_steps : List (Int × Int × Int)) : Option (List (Int × Int × Int)) :=
  Option.bind (foldN (fun (e2 : Int × Int × Int) (s1 : (List (Int × Int × Int))) => (Option.bind (andO (!decide (s1 = ([] : List (Int × Int × Int)))) (Option.bind (L2.atI s1 (-1)) fun x3 => Option.bind (t_does_go_on x3 e2.1 e2.2.1) fun x5 => some x5)) fun x7 => Option.bind (some x7) fun c9 => ifO c9 (Option.bind (L2.atI s1 (-1)) fun x11 => Option.bind (L2.atI s1 (-1)) fun x13 => Option.bind (L2.atI s1 (-1)) fun x15 => Option.bind (setT s1 (-1) (x11.1, x13.2.1, (x15.2.2 + e2.2.2))) fun x17 => some x17) (Option.bind (appT s1 (e2.1, e2.2.1, e2.2.2)) fun x19 => some x19) : Option (List (Int × Int × Int)))) v_steps ([] : List (Int × Int × Int))) fun r21 => some r21
theorem w_one_form_t {v_steps : List (Int × Int × Int)} {rr : List (Int × Int × Int)} (hr : t_one_form_t v_steps = some rr) : Sp0 F_one_form [(eT stD v_steps)] (eT stD rr) := by
  refine fn_0 ((pu_T pu_st) rr) fun A => ?_
  unfold t_one_form_t at hr
  unfold b_one_form
  refine tr_seq (tb_newL te_nil ((pu_L pu_st) ([] : List (Int × Int × Int)))) ?_
  obtain ⟨r21, h22, hr⟩ := bE hr
  refine tr_seq (tb_forM (e := stD) (fun (s1 : (List (Int × Int × Int))) => [.pl (eT stD v_steps), .ow (.lst (s1.map stD)), .un, .un, .un]) (fun (_ : (List (Int × Int × Int))) => A) h22 (ti_tup (te_var (d := (eT stD v_steps)))) (by repeat (first | exact Pw.nil | apply Pw.same | apply Pw.un)) ?_) ?_
  · intro e2 s1 s' hr
    try dsimp only at hr
    refine ⟨_, (tg_t (tgs_cons tg_n (tgs_cons tg_n (tgs_cons tg_n tgs_nil)))), ?_⟩
    unfold b_one_form_for
    obtain ⟨x7, h8, hr⟩ := bE hr
    obtain ⟨c9, h10, hr⟩ := bE hr
    cases c9 with
    | true =>
      rw [ifO_t] at hr
      refine tb_ifT (te_castS h10 (tt_andO (tt_val (b := (!decide (s1 = ([] : List (Int × Int × Int))))) (te_owL (i := 1) (z := D.bl (!decide (s1 = ([] : List (Int × Int × Int))))) rfl (te_lst te_nil) (fun Ω n hn => w_ne ex_st s1 ([] : List (Int × Int × Int)) (by decide) Ω n hn))) h8 (fun _ hh => by obtain ⟨x3, h4, hh⟩ := bE hh; obtain ⟨x5, h6, hh⟩ := bE hh; exact te_castS hh (tt_val (b := x5) (te_call0 (te_cons (d := (stD x3)) (te_owL (i := 1) (z := (stD x3)) rfl (te_un (z := D.int (-1)) te_c) (fun Ω n hn => w_ix (e := stD) h4 Ω n hn)) (te_cons (d := (D.int e2.1)) (te_var (d := (D.int e2.1))) (te_cons (d := (D.int e2.2.1)) (te_var (d := (D.int e2.2.1))) te_nil))) (w_does_go_on h6)))))) ?_
      obtain ⟨x11, h12, hr⟩ := bE hr
      obtain ⟨x13, h14, hr⟩ := bE hr
      obtain ⟨x15, h16, hr⟩ := bE hr
      obtain ⟨x17, h18, hr⟩ := bE hr
      obtain hs := Option.some.inj hr
      subst hs
      exact tb_weak (tb_setix (e := stD) (xs := s1) (a := (x11.1, x13.2.1, (x15.2.2 + e2.2.2))) (kk := (-1)) pu_st rfl (te_tup (te_cons (d := (D.int x11.1)) (te_bin (x := (stD x11)) (z := (D.int x11.1)) (te_owL (i := 1) (z := (stD x11)) rfl (te_un (z := D.int (-1)) te_c) (fun Ω n hn => w_ix (e := stD) h12 Ω n hn)) te_c) (te_cons (d := (D.int x13.2.1)) (te_bin (x := (stD x13)) (z := (D.int x13.2.1)) (te_owL (i := 1) (z := (stD x13)) rfl (te_un (z := D.int (-1)) te_c) (fun Ω n hn => w_ix (e := stD) h14 Ω n hn)) te_c) (te_cons (d := (D.int (x15.2.2 + e2.2.2))) (te_bin (z := D.int (x15.2.2 + e2.2.2)) (te_bin (x := (stD x15)) (z := (D.int x15.2.2)) (te_owL (i := 1) (z := (stD x15)) rfl (te_un (z := D.int (-1)) te_c) (fun Ω n hn => w_ix (e := stD) h16 Ω n hn)) te_c) (te_var (d := (D.int e2.2.2)))) te_nil)))) (te_un (z := D.int (-1)) te_c) h18) (by repeat (first | exact Pw.nil | apply Pw.same | apply Pw.un))
    | false =>
      rw [ifO_f] at hr
      refine tb_ifF (te_castS h10 (tt_andO (tt_val (b := (!decide (s1 = ([] : List (Int × Int × Int))))) (te_owL (i := 1) (z := D.bl (!decide (s1 = ([] : List (Int × Int × Int))))) rfl (te_lst te_nil) (fun Ω n hn => w_ne ex_st s1 ([] : List (Int × Int × Int)) (by decide) Ω n hn))) h8 (fun _ hh => by obtain ⟨x3, h4, hh⟩ := bE hh; obtain ⟨x5, h6, hh⟩ := bE hh; exact te_castS hh (tt_val (b := x5) (te_call0 (te_cons (d := (stD x3)) (te_owL (i := 1) (z := (stD x3)) rfl (te_un (z := D.int (-1)) te_c) (fun Ω n hn => w_ix (e := stD) h4 Ω n hn)) (te_cons (d := (D.int e2.1)) (te_var (d := (D.int e2.1))) (te_cons (d := (D.int e2.2.1)) (te_var (d := (D.int e2.2.1))) te_nil))) (w_does_go_on h6)))))) ?_
      obtain ⟨x19, h20, hr⟩ := bE hr
      obtain hs := Option.some.inj hr
      subst hs
      exact tb_weak (tb_appT (e := stD) h20 pu_st rfl (te_tup (te_cons (d := (D.int e2.1)) (te_var (d := (D.int e2.1))) (te_cons (d := (D.int e2.2.1)) (te_var (d := (D.int e2.2.1))) (te_cons (d := (D.int e2.2.2)) (te_var (d := (D.int e2.2.2))) te_nil))))) (by repeat (first | exact Pw.nil | apply Pw.same | apply Pw.un))
  obtain hs := Option.some.inj hr
  subst hs
  exact tr_ret (te_owB (i := 1) (z := (eT stD r21)) rfl (fun Ω n hn => w_tup (e := stD) Ω n hn))
def t_RightStepsD_initD (v_steps : List (Int × Int × Int)) : Option (List (Int × Int × Int)) :=
  Option.bind (t_one_form_l v_steps) fun x1 => some x1
theorem w_RightStepsD_initD {v_steps : List (Int × Int × Int)} {rr : List (Int × Int × Int)} (hr : t_RightStepsD_initD v_steps = some rr) : SpM "RightSteps" 2 F_RightStepsD_initD [(eL stD v_steps)] (e_RightSteps rr) := by
  refine fn_M (pu_RightSteps rr) rfl fun A n hn => ?_
  unfold t_RightStepsD_initD at hr
  unfold b_RightStepsD_initD
  obtain ⟨x1, h2, hr⟩ := bE hr
  obtain hs := Option.some.inj hr
  subst hs
  exact tr_nx (tb_fld hn rfl (te_call0 (te_cons (d := (eL stD v_steps)) (te_var (d := (eL stD v_steps))) te_nil) (w_one_form_l h2)) (belowF_cons (f := "told_steps") ((pu_T pu_st) _) rfl))
def t_StairD_initD_r (v_steps : List (Int × Int × Int)) : Option (List (Int × Int × Int)) :=
  some v_steps
theorem w_StairD_initD_r {v_steps : List (Int × Int × Int)} {rr : List (Int × Int × Int)} (hr : t_StairD_initD_r v_steps = some rr) : SpM "Stair" 2 F_StairD_initD [(e_RightSteps v_steps)] (e_Stair rr) := by
  refine fn_M (pu_Stair rr) rfl fun A n hn => ?_
  unfold t_StairD_initD_r at hr
  unfold b_StairD_initD
  refine tr_ifT (tt_val (b := true) (te_is (b := true) (te_var (d := (e_RightSteps v_steps))))) ?_
  obtain hs := Option.some.inj hr
  subst hs
  exact tr_nx (tb_fld hn rfl (te_fld (v := (eT stD v_steps)) (te_var (d := (e_RightSteps v_steps)))) (belowF_cons (f := "own_steps") ((pu_T pu_st) _) rfl))
def t_StairD_initD_l (v_steps : List (Int × Int × Int)) : Option (List (Int × Int × Int)) :=
  Option.bind (t_want_steps_l v_steps) fun x1 => Option.bind (some (decide (60 < (v_steps.length : Int)))) fun c3 => ifO c3 none (Option.bind (t_one_form_l v_steps) fun x5 => some x5)
theorem w_StairD_initD_l {v_steps : List (Int × Int × Int)} {rr : List (Int × Int × Int)} (hr : t_StairD_initD_l v_steps = some rr) : SpM "Stair" 2 F_StairD_initD [(eL stD v_steps)] (e_Stair rr) := by
  refine fn_M (pu_Stair rr) rfl fun A n hn => ?_
  unfold t_StairD_initD_l at hr
  unfold b_StairD_initD
  refine tr_ifF (tt_val (b := false) (te_is (b := false) (te_var (d := (eL stD v_steps))))) ?_
  obtain ⟨x1, h2, hr⟩ := bE hr
  refine tr_seq (tb_exp (te_call0 (te_cons (d := (eL stD v_steps)) (te_var (d := (eL stD v_steps))) te_nil) (w_want_steps_l h2))) ?_
  obtain ⟨c3, h4, hr⟩ := bE hr
  cases c3 with
  | true =>
    rw [ifO_t] at hr
    refine tr_seqR (tr_ifT (te_castS h4 (tt_val (b := decide (60 < (v_steps.length : Int))) (te_bin (z := D.bl (decide (60 < (v_steps.length : Int)))) (te_cb (z := (D.int (v_steps.length : Int))) (te_cons (d := (eL stD v_steps)) (te_var (d := (eL stD v_steps))) te_nil) (fun Ω => o_lenL (e := stD) Ω)) te_c))) ?_)
    cases hr
  | false =>
    rw [ifO_f] at hr
    refine tr_seq (tb_ifF (te_castS h4 (tt_val (b := decide (60 < (v_steps.length : Int))) (te_bin (z := D.bl (decide (60 < (v_steps.length : Int)))) (te_cb (z := (D.int (v_steps.length : Int))) (te_cons (d := (eL stD v_steps)) (te_var (d := (eL stD v_steps))) te_nil) (fun Ω => o_lenL (e := stD) Ω)) te_c))) tb_skip) ?_
    obtain ⟨x5, h6, hr⟩ := bE hr
    obtain hs := Option.some.inj hr
    subst hs
    exact tr_nx (tb_fld hn rfl (te_call0 (te_cons (d := (eL stD v_steps)) (te_var (d := (eL stD v_steps))) te_nil) (w_one_form_l h6)) (belowF_cons (f := "own_steps") ((pu_T pu_st) _) rfl))
def t_StairD_initD_t (v_steps : List (Int × Int × Int)) : Option (List (Int × Int × Int)) :=
  Option.bind (t_want_steps_t v_steps) fun x1 => Option.bind (some (decide (60 < (v_steps.length : Int)))) fun c3 => ifO c3 none (Option.bind (t_one_form_t v_steps) fun x5 => some x5)
theorem w_StairD_initD_t {v_steps : List (Int × Int × Int)} {rr : List (Int × Int × Int)} (hr : t_StairD_initD_t v_steps = some rr) : SpM "Stair" 2 F_StairD_initD [(eT stD v_steps)] (e_Stair rr) := by
  refine fn_M (pu_Stair rr) rfl fun A n hn => ?_
  unfold t_StairD_initD_t at hr
  unfold b_StairD_initD
  refine tr_ifF (tt_val (b := false) (te_is (b := false) (te_var (d := (eT stD v_steps))))) ?_
  obtain ⟨x1, h2, hr⟩ := bE hr
  refine tr_seq (tb_exp (te_call0 (te_cons (d := (eT stD v_steps)) (te_var (d := (eT stD v_steps))) te_nil) (w_want_steps_t h2))) ?_
  obtain ⟨c3, h4, hr⟩ := bE hr
  cases c3 with
  | true =>
    rw [ifO_t] at hr
    refine tr_seqR (tr_ifT (te_castS h4 (tt_val (b := decide (60 < (v_steps.length : Int))) (te_bin (z := D.bl (decide (60 < (v_steps.length : Int)))) (te_cb (z := (D.int (v_steps.length : Int))) (te_cons (d := (eT stD v_steps)) (te_var (d := (eT stD v_steps))) te_nil) (fun Ω => o_lenT (e := stD) Ω)) te_c))) ?_)
    cases hr
  | false =>
    rw [ifO_f] at hr
    refine tr_seq (tb_ifF (te_castS h4 (tt_val (b := decide (60 < (v_steps.length : Int))) (te_bin (z := D.bl (decide (60 < (v_steps.length : Int)))) (te_cb (z := (D.int (v_steps.length : Int))) (te_cons (d := (eT stD v_steps)) (te_var (d := (eT stD v_steps))) te_nil) (fun Ω => o_lenT (e := stD) Ω)) te_c))) tb_skip) ?_
    obtain ⟨x5, h6, hr⟩ := bE hr
    obtain hs := Option.some.inj hr
    subst hs
    exact tr_nx (tb_fld hn rfl (te_call0 (te_cons (d := (eT stD v_steps)) (te_var (d := (eT stD v_steps))) te_nil) (w_one_form_t h6)) (belowF_cons (f := "own_steps") ((pu_T pu_st) _) rfl))
def t_Stair_steps (v_self : List (Int × Int × Int)) : Option (List (Int × Int × Int)) :=
  some v_self
theorem w_Stair_steps {v_self : List (Int × Int × Int)} {rr : List (Int × Int × Int)} (hr : t_Stair_steps v_self = some rr) : Sp0 F_Stair_steps [(e_Stair v_self)] (eL stD rr) := by
  refine fn_0 ((pu_L pu_st) rr) fun A => ?_
  unfold t_Stair_steps at hr
  unfold b_Stair_steps
  obtain hs := Option.some.inj hr
  subst hs
  exact tr_ret (te_cb (z := (eL stD v_self)) (te_cons (d := (eT stD v_self)) (te_fld (v := (eT stD v_self)) (te_var (d := (e_Stair v_self)))) te_nil) (fun Ω => o_lstT (e := stD) Ω))
def t_StairD_lenD (v_self : List (Int × Int × Int)) : Option Int :=
  some (v_self.length : Int)
theorem w_StairD_lenD {v_self : List (Int × Int × Int)} {rr : Int} (hr : t_StairD_lenD v_self = some rr) : Sp0 F_StairD_lenD [(e_Stair v_self)] (D.int rr) := by
  refine fn_0 rfl fun A => ?_
  unfold t_StairD_lenD at hr
  unfold b_StairD_lenD
  obtain hs := Option.some.inj hr
  subst hs
  exact tr_ret (te_cb (z := (D.int (v_self.length : Int))) (te_cons (d := (eT stD v_self)) (te_fld (v := (eT stD v_self)) (te_var (d := (e_Stair v_self)))) te_nil) (fun Ω => o_lenT (e := stD) Ω))
def t_Stair_kept (v_self : List (Int × Int × Int)) : Option Int :=
  Option.bind (lcM (fun (e1 : Int × Int × Int) => true) (fun (e1 : Int × Int × Int) => e1.2.2) v_self) fun x2 => some x2.sum
theorem w_Stair_kept {v_self : List (Int × Int × Int)} {rr : Int} (hr : t_Stair_kept v_self = some rr) : Sp0 F_Stair_kept [(e_Stair v_self)] (D.int rr) := by
  refine fn_0 rfl fun A => ?_
  unfold t_Stair_kept at hr
  unfold b_Stair_kept
  obtain ⟨x2, h3, hr⟩ := bE hr
  obtain hs := Option.some.inj hr
  subst hs
  exact tr_ret (te_cb (z := (D.int x2.sum)) (te_cons (d := (eL D.int x2)) (te_lcM (e := stD) (ey := D.int) (vs := [1, 2, 3]) h3 (ti_tup (te_fld (v := (eT stD v_self)) (te_var (d := (e_Stair v_self))))) (fun e1 => ⟨_, tgt_tp, te_c, (te_var (d := (D.int e1.2.2)))⟩)) te_nil) (fun Ω => o_sum Ω))
def t_Stair_newer_of (v_self : List (Int × Int × Int)) (v_mark : Int) : Option (Option Int) :=
  Option.bind (foldR (fun (e2 : Int × Int × Int) (s1 : Unit) => (Option.bind (some (decide (e2.1 ≤ v_mark) && decide (v_mark < (e2.1 + e2.2.2)))) fun c3 => ifO c3 (some (Sum.inr (some ((e2.2.1 + v_mark) - e2.1)))) (some (Sum.inl ())) : Option (Unit ⊕ (Option Int)))) v_self ()) fun z7 => match z7 with | .inr v8 => some v8 | .inl r5 => some (none : Option Int)
theorem w_Stair_newer_of {v_self : List (Int × Int × Int)} {v_mark : Int} {rr : Option Int} (hr : t_Stair_newer_of v_self v_mark = some rr) : Sp0 F_Stair_newer_of [(e_Stair v_self), (D.int v_mark)] (eO D.int rr) := by
  refine fn_0 ((pu_O pu_int) rr) fun A => ?_
  unfold t_Stair_newer_of at hr
  unfold b_Stair_newer_of
  obtain ⟨z7, h6, hr⟩ := bE hr
  refine tr_forS (e := stD) (fun (s1 : Unit) => [.pl (e_Stair v_self), .pl (D.int v_mark), .un, .un, .un]) (fun (_ : Unit) => A) (fun (r : Option Int) => (eO D.int r)) (Sum.elim (fun (_ : Unit) => A) (fun r => A)) (fun _ => rfl) h6 (ti_tup (te_fld (v := (eT stD v_self)) (te_var (d := (e_Stair v_self))))) (by repeat (first | exact Pw.nil | apply Pw.same | apply Pw.un)) ?_ ?_
  · intro e2 s1 zz hr
    try dsimp only at hr
    refine ⟨_, (tg_t (tgs_cons tg_n (tgs_cons tg_n (tgs_cons tg_n tgs_nil)))), ?_⟩
    unfold b_Stair_newer_of_for
    obtain ⟨c3, h4, hr⟩ := bE hr
    cases c3 with
    | true =>
      rw [ifO_t] at hr
      refine tb_ifT (te_castS h4 (tt_val (b := (decide (e2.1 ≤ v_mark) && decide (v_mark < (e2.1 + e2.2.2)))) (te_chain (b := decide (e2.1 ≤ v_mark)) (b' := decide (v_mark < (e2.1 + e2.2.2))) (te_var (d := (D.int e2.1))) (te_var (d := (D.int v_mark))) (fun _ => rfl) (te_bin (z := D.int (e2.1 + e2.2.2)) (te_var (d := (D.int e2.1))) (te_var (d := (D.int e2.2.2)))) (fun _ => rfl)))) ?_
      obtain hs := Option.some.inj hr
      subst hs
      exact tb_ret (te_bin (z := D.int ((e2.2.1 + v_mark) - e2.1)) (te_bin (z := D.int (e2.2.1 + v_mark)) (te_var (d := (D.int e2.2.1))) (te_var (d := (D.int v_mark)))) (te_var (d := (D.int e2.1))))
    | false =>
      rw [ifO_f] at hr
      refine tb_ifF (te_castS h4 (tt_val (b := (decide (e2.1 ≤ v_mark) && decide (v_mark < (e2.1 + e2.2.2)))) (te_chain (b := decide (e2.1 ≤ v_mark)) (b' := decide (v_mark < (e2.1 + e2.2.2))) (te_var (d := (D.int e2.1))) (te_var (d := (D.int v_mark))) (fun _ => rfl) (te_bin (z := D.int (e2.1 + e2.2.2)) (te_var (d := (D.int e2.1))) (te_var (d := (D.int e2.2.2)))) (fun _ => rfl)))) ?_
      obtain hs := Option.some.inj hr
      subst hs
      exact tb_weak tb_skip (by repeat (first | exact Pw.nil | apply Pw.same | apply Pw.un))
  cases z7 with
  | inr v8 =>
    obtain hs := Option.some.inj hr
    subst hs
    exact ⟨rfl, rfl⟩
  | inl r5 =>
    obtain hs := Option.some.inj hr
    subst hs
    exact tr_ret te_c
def t_StairD_callD (v_self : List (Int × Int × Int)) (v_mark : Int) : Option (Option Int) :=
  Option.bind (t_is_integer v_mark) fun x1 => Option.bind (some (!x1)) fun c3 => ifO c3 none (Option.bind (t_Stair_newer_of v_self v_mark) fun x5 => some x5)
theorem w_StairD_callD {v_self : List (Int × Int × Int)} {v_mark : Int} {rr : Option Int} (hr : t_StairD_callD v_self v_mark = some rr) : Sp0 F_StairD_callD [(e_Stair v_self), (D.int v_mark)] (eO D.int rr) := by
  refine fn_0 ((pu_O pu_int) rr) fun A => ?_
  unfold t_StairD_callD at hr
  unfold b_StairD_callD
  obtain ⟨x1, h2, hr⟩ := bE hr
  obtain ⟨c3, h4, hr⟩ := bE hr
  cases c3 with
  | true =>
    rw [ifO_t] at hr
    refine tr_seqR (tr_ifT (te_castS h4 (tt_not (b := x1) (tt_val (b := x1) (te_call0 (te_cons (d := (D.int v_mark)) (te_var (d := (D.int v_mark))) te_nil) (w_is_integer h2))))) ?_)
    cases hr
  | false =>
    rw [ifO_f] at hr
    refine tr_seq (tb_ifF (te_castS h4 (tt_not (b := x1) (tt_val (b := x1) (te_call0 (te_cons (d := (D.int v_mark)) (te_var (d := (D.int v_mark))) te_nil) (w_is_integer h2))))) tb_skip) ?_
    obtain ⟨x5, h6, hr⟩ := bE hr
    obtain hs := Option.some.inj hr
    subst hs
    exact tr_ret (te_meth (te_var (d := (e_Stair v_self))) (te_cons (d := (D.int v_mark)) (te_var (d := (D.int v_mark))) te_nil) (w_Stair_newer_of h6))
def t_StairD_containsD_i (v_self : List (Int × Int × Int)) (v_value : Int) : Option Bool :=
  Option.bind (t_is_integer v_value) fun x1 => Option.bind (andO x1 (Option.bind (t_Stair_newer_of v_self v_value) fun x3 => some x3.isSome)) fun x5 => some x5
theorem w_StairD_containsD_i {v_self : List (Int × Int × Int)} {v_value : Int} {rr : Bool} (hr : t_StairD_containsD_i v_self v_value = some rr) : Sp0 F_StairD_containsD [(e_Stair v_self), (D.int v_value)] (D.bl rr) := by
  refine fn_0 rfl fun A => ?_
  unfold t_StairD_containsD_i at hr
  unfold b_StairD_containsD
  obtain ⟨x1, h2, hr⟩ := bE hr
  obtain ⟨x5, h6, hr⟩ := bE hr
  obtain hs := Option.some.inj hr
  subst hs
  exact tr_ret (te_andO (te_call0 (te_cons (d := (D.int v_value)) (te_var (d := (D.int v_value))) te_nil) (w_is_integer h2)) h6 (fun _ hh => by obtain ⟨x3, h4, hh⟩ := bE hh; exact te_castE (e := D.bl) hh (te_bin (z := D.bl x3.isSome) (te_meth (te_var (d := (e_Stair v_self))) (te_cons (d := (D.int v_value)) (te_var (d := (D.int v_value))) te_nil) (w_Stair_newer_of h4)) te_c (fun Ω => o_notN (e := D.int) (fun _ => rfl) x3 Ω))))
def NoInt : D → Prop
  | .int _ => False
  | .ref _ => False
  | .scr _ => False
  | .cl _ => False
  | .obj c _ => c = "Stair"
  | _ => True
theorem isint_no {d : D} (h : NoInt d) : Sp0 F_is_integer [d] (.bl false) := by
  cases d with
  | int _ => exact h.elim
  | ref _ => exact h.elim
  | scr _ => exact h.elim
  | cl _ => exact h.elim
  | obj c fs =>
    have hc : c = "Stair" := h
    subst hc
    refine fn_0 rfl fun A => ?_
    unfold b_is_integer
    exact tr_ret (te_andF (te_is (b := false) te_var))
  | bl b =>
    refine fn_0 rfl fun A => ?_
    unfold b_is_integer
    exact tr_ret (te_and (b := true) (b' := false) (te_is (b := true) te_var) (fun _ => te_not (te_is (b := true) te_var)))
  | _ =>
    refine fn_0 rfl fun A => ?_
    unfold b_is_integer
    exact tr_ret (te_andF (te_is (b := false) te_var))
/-- any value in a stair -/
def t_StairD_containsD_a (v_self : List (Int × Int × Int)) (d : D) : Option Bool := match d with
  | .int i => t_StairD_containsD_i v_self i
  | .ref _ => none
  | .scr _ => none
  | .cl _ => none
  | .obj c _ => if c = "Stair" then some false else none
  | _ => some false
theorem w_StairD_containsD_a {v_self : List (Int × Int × Int)} {d : D} {rr : Bool} (hr : t_StairD_containsD_a v_self d = some rr) : Sp0 F_StairD_containsD [(e_Stair v_self), d] (D.bl rr) := by
  have no : NoInt d → Sp0 F_StairD_containsD [(e_Stair v_self), d] (D.bl false) := fun hd => by
    refine fn_0 rfl fun A => ?_
    unfold b_StairD_containsD
    exact tr_ret (te_andF (te_call0 (te_cons (d := d) te_var te_nil) (isint_no hd)))
  cases d with
  | int i => exact w_StairD_containsD_i hr
  | ref _ => cases hr
  | scr _ => cases hr
  | cl _ => cases hr
  | obj c fs =>
    unfold t_StairD_containsD_a at hr
    obtain ⟨h1, h2⟩ := ite_some hr
    cases h2
    exact no h1
  | _ => cases hr; exact no trivial

def t_StairD_eqD_o (v_self : List (Int × Int × Int)) (v_other : List (Int × Int × Int)) : Option Bool :=
  some (true && (decide (v_self = v_other)))
theorem w_StairD_eqD_o {v_self : List (Int × Int × Int)} {v_other : List (Int × Int × Int)} {rr : Bool} (hr : t_StairD_eqD_o v_self v_other = some rr) : Sp0 F_StairD_eqD [(e_Stair v_self), (e_Stair v_other)] (D.bl rr) := by
  refine fn_0 rfl fun A => ?_
  unfold t_StairD_eqD_o at hr
  unfold b_StairD_eqD
  obtain hs := Option.some.inj hr
  subst hs
  exact tr_ret (te_and (b := true) (b' := (decide (v_self = v_other))) (te_is (b := true) (te_var (d := (e_Stair v_other)))) (fun _ => (te_bin (x := (eT stD v_self)) (y := (eT stD v_other)) (z := D.bl (decide (v_self = v_other))) (te_fld (v := (eT stD v_self)) (te_var (d := (e_Stair v_self)))) (te_fld (v := (eT stD v_other)) (te_var (d := (e_Stair v_other)))) (fun Ω => o_eq (EX.tup ex_st) v_self v_other (by decide) Ω))))
def t_StairD_eqD_l (v_self : List (Int × Int × Int)) (v_other : List (Int × Int × Int)) : Option Bool :=
  some false
theorem w_StairD_eqD_l {v_self : List (Int × Int × Int)} {v_other : List (Int × Int × Int)} {rr : Bool} (hr : t_StairD_eqD_l v_self v_other = some rr) : Sp0 F_StairD_eqD [(e_Stair v_self), (eL stD v_other)] (D.bl rr) := by
  refine fn_0 rfl fun A => ?_
  unfold t_StairD_eqD_l at hr
  unfold b_StairD_eqD
  obtain hs := Option.some.inj hr
  subst hs
  exact tr_ret (te_andF (te_is (b := false) (te_var (d := (eL stD v_other)))))
def t_StairD_eqD_s (v_self : List (Int × Int × Int)) (v_other : Str) : Option Bool :=
  some false
theorem w_StairD_eqD_s {v_self : List (Int × Int × Int)} {v_other : Str} {rr : Bool} (hr : t_StairD_eqD_s v_self v_other = some rr) : Sp0 F_StairD_eqD [(e_Stair v_self), (D.str v_other)] (D.bl rr) := by
  refine fn_0 rfl fun A => ?_
  unfold t_StairD_eqD_s at hr
  unfold b_StairD_eqD
  obtain hs := Option.some.inj hr
  subst hs
  exact tr_ret (te_andF (te_is (b := false) (te_var (d := (D.str v_other)))))
def t_law_steps (v_most : Int) (q0 : Pot) : Option ((List (Int × Int × Int)) × Pot) :=
  b2 (t_law_draw 9 q0) fun x1 q2 => b2 (t_law_draw 9 q2) fun x4 q5 => b2 (t_law_draw (v_most + 1) q5) fun x7 q8 => Option.bind (range1 x7) fun x10 => Option.bind (foldN (fun (e13 : Int) (s12 : Int × Int × (List (Int × Int × Int)) × Pot) => (b2 (t_law_draw 4 s12.2.2.2) fun x14 q15 => Option.bind (appT s12.2.2.1 (s12.1, s12.2.1, (1 + x14))) fun x17 => b2 (t_law_draw 4 q15) fun x19 q20 => Option.bind (L2.atI ([0, 0, 1, 3]) x19) fun x22 => Option.bind (some ((s12.1 + (1 + x14)) + x22)) fun x24 => b2 (t_law_draw 4 q20) fun x26 q27 => Option.bind (L2.atI ([0, 0, 1, 2]) x26) fun x29 => Option.bind (some ((s12.2.1 + (1 + x14)) + x29)) fun x31 => some (x24, x31, x17, q27) : Option (Int × Int × (List (Int × Int × Int)) × Pot))) x10 ((x1 - 4), (x4 - 4), ([] : List (Int × Int × Int)), q8)) fun r33 => some (r33.2.2.1, r33.2.2.2)
theorem w_law_steps {v_most : Int} {q0 q9 : Pot} {rr : List (Int × Int × Int)} {n : Nat} (hr : t_law_steps v_most q0 = some (rr, q9)) : SpP F_law_steps [.ref n, (D.int v_most)] n q0 (eL stD rr) q9 := by
  refine fn_P ((pu_L pu_st) rr) fun A hn => ?_
  unfold t_law_steps at hr
  unfold b_law_steps
  obtain ⟨x1, q2, h3, hr⟩ := b2E hr
  obtain ⟨x4, q5, h6, hr⟩ := b2E hr
  refine tr_seq (tb_par3c (te_bin (z := D.int (x1 - 4)) (te_callP hn (te_cons (d := (D.ref n)) (te_var (d := D.ref n)) (te_cons (d := (D.int 9)) te_c te_nil)) (w_law_draw h3)) te_c) (te_bin (z := D.int (x4 - 4)) (te_callP hn (te_cons (d := (D.ref n)) (te_var (d := D.ref n)) (te_cons (d := (D.int 9)) te_c te_nil)) (w_law_draw h6)) te_c)) ?_
  obtain ⟨x7, q8, h9, hr⟩ := b2E hr
  obtain ⟨x10, h11, hr⟩ := bE hr
  obtain ⟨r33, h34, hr⟩ := bE hr
  refine tr_seq (tb_forM (e := D.int) (fun (s12 : Int × Int × (List (Int × Int × Int)) × Pot) => [.pl (.ref n), .pl (D.int v_most), .pl (D.int s12.1), .pl (D.int s12.2.1), .ow (.lst (s12.2.2.1.map stD)), .un, .un]) (fun (s12 : Int × Int × (List (Int × Int × Int)) × Pot) => pA A n s12.2.2.2) h34 (ti_r1 h11 (te_cons (d := (D.int x7)) (te_callP hn (te_cons (d := (D.ref n)) (te_var (d := D.ref n)) (te_cons (d := (D.int (v_most + 1))) (te_bin (z := D.int (v_most + 1)) (te_var (d := (D.int v_most))) te_c) te_nil)) (w_law_draw h9)) te_nil)) (by repeat (first | exact Pw.nil | apply Pw.same | apply Pw.un)) ?_) ?_
  · intro e13 s12 s' hr
    try dsimp only at hr
    refine ⟨_, tg_n, ?_⟩
    unfold b_law_steps_for
    obtain ⟨x14, q15, h16, hr⟩ := b2E hr
    refine tb_seq (tb_set (d := (D.int (1 + x14))) (te_bin (z := D.int (1 + x14)) te_c (te_callP hn (te_cons (d := (D.ref n)) (te_var (d := D.ref n)) (te_cons (d := (D.int 4)) te_c te_nil)) (w_law_draw h16)))) ?_
    obtain ⟨x17, h18, hr⟩ := bE hr
    refine tb_seq (tb_appT (e := stD) h18 pu_st rfl (te_tup (te_cons (d := (D.int s12.1)) (te_var (d := (D.int s12.1))) (te_cons (d := (D.int s12.2.1)) (te_var (d := (D.int s12.2.1))) (te_cons (d := (D.int (1 + x14))) (te_var (d := (D.int (1 + x14)))) te_nil))))) ?_
    obtain ⟨x19, q20, h21, hr⟩ := b2E hr
    obtain ⟨x22, h23, hr⟩ := bE hr
    obtain ⟨x24, h25, hr⟩ := bE hr
    refine tb_seq (tb_setE (e := D.int) h25 (te_bin (z := D.int ((s12.1 + (1 + x14)) + x22)) (te_bin (z := D.int (s12.1 + (1 + x14))) (te_var (d := (D.int s12.1))) (te_var (d := (D.int (1 + x14))))) (te_bin (x := (eL D.int ([0, 0, 1, 3]))) (z := (D.int x22)) (te_lst (te_cons (d := (D.int 0)) te_c (te_cons (d := (D.int 0)) te_c (te_cons (d := (D.int 1)) te_c (te_cons (d := (D.int 3)) te_c te_nil))))) (te_callP hn (te_cons (d := (D.ref n)) (te_var (d := D.ref n)) (te_cons (d := (D.int 4)) te_c te_nil)) (w_law_draw h21)) (fun Ω => o_ixL (e := D.int) h23 Ω)))) ?_
    obtain ⟨x26, q27, h28, hr⟩ := b2E hr
    obtain ⟨x29, h30, hr⟩ := bE hr
    obtain ⟨x31, h32, hr⟩ := bE hr
    obtain hs := Option.some.inj hr
    subst hs
    exact tb_weak (tb_setE (e := D.int) h32 (te_bin (z := D.int ((s12.2.1 + (1 + x14)) + x29)) (te_bin (z := D.int (s12.2.1 + (1 + x14))) (te_var (d := (D.int s12.2.1))) (te_var (d := (D.int (1 + x14))))) (te_bin (x := (eL D.int ([0, 0, 1, 2]))) (z := (D.int x29)) (te_lst (te_cons (d := (D.int 0)) te_c (te_cons (d := (D.int 0)) te_c (te_cons (d := (D.int 1)) te_c (te_cons (d := (D.int 2)) te_c te_nil))))) (te_callP hn (te_cons (d := (D.ref n)) (te_var (d := D.ref n)) (te_cons (d := (D.int 4)) te_c te_nil)) (w_law_draw h28)) (fun Ω => o_ixL (e := D.int) h30 Ω)))) (by repeat (first | exact Pw.nil | apply Pw.same | apply Pw.un))
  obtain ⟨hs, hq⟩ := Prod.mk.inj (Option.some.inj hr)
  subst hs
  subst hq
  exact tr_own rfl
def t_law_carry (v_rows : List (Int × Int × Int)) : Option (List (Int × Int)) :=
  Option.bind (foldN (fun (e2 : Int × Int × Int) (s1 : (List (Int × Int))) => (Option.bind (range1 e2.2.2) fun x3 => Option.bind (lcM (fun (e5 : Int) => true) (fun (e5 : Int) => ((e2.1 + e5), (e2.2.1 + e5))) x3) fun x6 => Option.bind (updT s1 (mergeI [] x6)) fun x8 => some x8 : Option (List (Int × Int)))) v_rows ([] : List (Int × Int))) fun r10 => some r10
theorem w_law_carry {v_rows : List (Int × Int × Int)} {rr : List (Int × Int)} (hr : t_law_carry v_rows = some rr) : Sp0 F_law_carry [(eL stD v_rows)] (eKI D.int rr) := by
  refine fn_0 ((pu_KI pu_int) rr) fun A => ?_
  unfold t_law_carry at hr
  unfold b_law_carry
  refine tr_seq tb_newK ?_
  obtain ⟨r10, h11, hr⟩ := bE hr
  refine tr_seq (tb_forM (e := stD) (fun (s1 : (List (Int × Int))) => [.pl (eL stD v_rows), .ow (.dct (s1.map (kvI D.int))), .un, .un, .un, .un]) (fun (_ : (List (Int × Int))) => A) h11 (ti_lst (te_var (d := (eL stD v_rows)))) (by repeat (first | exact Pw.nil | apply Pw.same | apply Pw.un)) ?_) ?_
  · intro e2 s1 s' hr
    try dsimp only at hr
    refine ⟨_, (tg_t (tgs_cons tg_n (tgs_cons tg_n (tgs_cons tg_n tgs_nil)))), ?_⟩
    unfold b_law_carry_for
    obtain ⟨x3, h4, hr⟩ := bE hr
    obtain ⟨x6, h7, hr⟩ := bE hr
    obtain ⟨x8, h9, hr⟩ := bE hr
    obtain hs := Option.some.inj hr
    subst hs
    exact tb_weak (tb_updT (e := D.int) h9 pu_int rfl (te_cb (z := (eKI D.int (mergeI [] x6))) (te_cons (d := (eL prD x6)) (te_lcM (e := D.int) (ey := prD) (vs := [5]) h7 (ti_r1 h4 (te_cons (d := (D.int e2.2.2)) (te_var (d := (D.int e2.2.2))) te_nil)) (fun e5 => ⟨_, tgt_nm, te_c, (te_tup (te_cons (d := (D.int (e2.1 + e5))) (te_bin (z := D.int (e2.1 + e5)) (te_var (d := (D.int e2.1))) (te_var (d := (D.int e5)))) (te_cons (d := (D.int (e2.2.1 + e5))) (te_bin (z := D.int (e2.2.1 + e5)) (te_var (d := (D.int e2.2.1))) (te_var (d := (D.int e5)))) te_nil)))⟩)) te_nil) (fun Ω => o_dict (e := D.int) Ω))) (by repeat (first | exact Pw.nil | apply Pw.same | apply Pw.un))
  obtain hs := Option.some.inj hr
  subst hs
  exact tr_ownK rfl
def t_law_form (v_carry_here : List (Int × Int)) : Option (List (Int × Int × Int)) :=
  Option.bind (sortBT v_carry_here) fun x1 => Option.bind (foldN (fun (e4 : Int) (s3 : (List (Int × Int × Int))) => (Option.bind (andO (!decide (s3 = ([] : List (Int × Int × Int)))) (Option.bind (L2.atI s3 (-1)) fun x5 => Option.bind (L2.atI s3 (-1)) fun x7 => Option.bind (andO (decide ((x5.1 + x7.2.2) = e4)) (Option.bind (L2.atI s3 (-1)) fun x9 => Option.bind (L2.atI s3 (-1)) fun x11 => Option.bind (lkI v_carry_here e4) fun x13 => some (decide ((x9.2.1 + x11.2.2) = x13)))) fun x15 => some x15)) fun x17 => Option.bind (some x17) fun c19 => ifO c19 (Option.bind (L2.atI s3 (-1)) fun x21 => Option.bind (L2.atI s3 (-1)) fun x23 => Option.bind (L2.atI s3 (-1)) fun x25 => Option.bind (setT s3 (-1) (x21.1, x23.2.1, (x25.2.2 + 1))) fun x27 => some x27) (Option.bind (lkI v_carry_here e4) fun x29 => Option.bind (appT s3 (e4, x29, 1)) fun x31 => some x31) : Option (List (Int × Int × Int)))) x1 ([] : List (Int × Int × Int))) fun r33 => some r33
theorem w_law_form {v_carry_here : List (Int × Int)} {rr : List (Int × Int × Int)} (hr : t_law_form v_carry_here = some rr) : Sp0 F_law_form [(eKI D.int v_carry_here)] (eL stD rr) := by
  refine fn_0 ((pu_L pu_st) rr) fun A => ?_
  unfold t_law_form at hr
  unfold b_law_form
  refine tr_seq (tb_newL te_nil ((pu_L pu_st) ([] : List (Int × Int × Int)))) ?_
  obtain ⟨x1, h2, hr⟩ := bE hr
  obtain ⟨r33, h34, hr⟩ := bE hr
  refine tr_seq (tb_forM (e := D.int) (fun (s3 : (List (Int × Int × Int))) => [.pl (eKI D.int v_carry_here), .ow (.lst (s3.map stD)), .un]) (fun (_ : (List (Int × Int × Int))) => A) h34 (ti_lst (te_cb (z := (eL D.int x1)) (te_cons (d := (eKI D.int v_carry_here)) (te_var (d := (eKI D.int v_carry_here))) te_nil) (fun Ω => o_sortB (e := D.int) h2 Ω))) (by repeat (first | exact Pw.nil | apply Pw.same | apply Pw.un)) ?_) ?_
  · intro e4 s3 s' hr
    try dsimp only at hr
    refine ⟨_, tg_n, ?_⟩
    unfold b_law_form_for
    obtain ⟨x17, h18, hr⟩ := bE hr
    obtain ⟨c19, h20, hr⟩ := bE hr
    cases c19 with
    | true =>
      rw [ifO_t] at hr
      refine tb_ifT (te_castS h20 (tt_andO (tt_val (b := (!decide (s3 = ([] : List (Int × Int × Int))))) (te_owL (i := 1) (z := D.bl (!decide (s3 = ([] : List (Int × Int × Int))))) rfl (te_lst te_nil) (fun Ω n hn => w_ne ex_st s3 ([] : List (Int × Int × Int)) (by decide) Ω n hn))) h18 (fun _ hh => by obtain ⟨x5, h6, hh⟩ := bE hh; obtain ⟨x7, h8, hh⟩ := bE hh; obtain ⟨x15, h16, hh⟩ := bE hh; exact te_castS hh (tt_andO (tt_val (b := (decide ((x5.1 + x7.2.2) = e4))) (te_bin (z := D.bl (decide ((x5.1 + x7.2.2) = e4))) (te_bin (z := D.int (x5.1 + x7.2.2)) (te_bin (x := (stD x5)) (z := (D.int x5.1)) (te_owL (i := 1) (z := (stD x5)) rfl (te_un (z := D.int (-1)) te_c) (fun Ω n hn => w_ix (e := stD) h6 Ω n hn)) te_c) (te_bin (x := (stD x7)) (z := (D.int x7.2.2)) (te_owL (i := 1) (z := (stD x7)) rfl (te_un (z := D.int (-1)) te_c) (fun Ω n hn => w_ix (e := stD) h8 Ω n hn)) te_c)) (te_var (d := (D.int e4))))) h16 (fun _ hh => by obtain ⟨x9, h10, hh⟩ := bE hh; obtain ⟨x11, h12, hh⟩ := bE hh; obtain ⟨x13, h14, hh⟩ := bE hh; exact te_castS hh (tt_val (b := (decide ((x9.2.1 + x11.2.2) = x13))) (te_bin (z := D.bl (decide ((x9.2.1 + x11.2.2) = x13))) (te_bin (z := D.int (x9.2.1 + x11.2.2)) (te_bin (x := (stD x9)) (z := (D.int x9.2.1)) (te_owL (i := 1) (z := (stD x9)) rfl (te_un (z := D.int (-1)) te_c) (fun Ω n hn => w_ix (e := stD) h10 Ω n hn)) te_c) (te_bin (x := (stD x11)) (z := (D.int x11.2.2)) (te_owL (i := 1) (z := (stD x11)) rfl (te_un (z := D.int (-1)) te_c) (fun Ω n hn => w_ix (e := stD) h12 Ω n hn)) te_c)) (te_bin (z := (D.int x13)) (te_var (d := (eKI D.int v_carry_here))) (te_var (d := (D.int e4))) (fun Ω => o_get (e := D.int) h14 Ω))))))))) ?_
      obtain ⟨x21, h22, hr⟩ := bE hr
      obtain ⟨x23, h24, hr⟩ := bE hr
      obtain ⟨x25, h26, hr⟩ := bE hr
      obtain ⟨x27, h28, hr⟩ := bE hr
      obtain hs := Option.some.inj hr
      subst hs
      exact tb_weak (tb_setix (e := stD) (xs := s3) (a := (x21.1, x23.2.1, (x25.2.2 + 1))) (kk := (-1)) pu_st rfl (te_tup (te_cons (d := (D.int x21.1)) (te_bin (x := (stD x21)) (z := (D.int x21.1)) (te_owL (i := 1) (z := (stD x21)) rfl (te_un (z := D.int (-1)) te_c) (fun Ω n hn => w_ix (e := stD) h22 Ω n hn)) te_c) (te_cons (d := (D.int x23.2.1)) (te_bin (x := (stD x23)) (z := (D.int x23.2.1)) (te_owL (i := 1) (z := (stD x23)) rfl (te_un (z := D.int (-1)) te_c) (fun Ω n hn => w_ix (e := stD) h24 Ω n hn)) te_c) (te_cons (d := (D.int (x25.2.2 + 1))) (te_bin (z := D.int (x25.2.2 + 1)) (te_bin (x := (stD x25)) (z := (D.int x25.2.2)) (te_owL (i := 1) (z := (stD x25)) rfl (te_un (z := D.int (-1)) te_c) (fun Ω n hn => w_ix (e := stD) h26 Ω n hn)) te_c) te_c) te_nil)))) (te_un (z := D.int (-1)) te_c) h28) (by repeat (first | exact Pw.nil | apply Pw.same | apply Pw.un))
    | false =>
      rw [ifO_f] at hr
      refine tb_ifF (te_castS h20 (tt_andO (tt_val (b := (!decide (s3 = ([] : List (Int × Int × Int))))) (te_owL (i := 1) (z := D.bl (!decide (s3 = ([] : List (Int × Int × Int))))) rfl (te_lst te_nil) (fun Ω n hn => w_ne ex_st s3 ([] : List (Int × Int × Int)) (by decide) Ω n hn))) h18 (fun _ hh => by obtain ⟨x5, h6, hh⟩ := bE hh; obtain ⟨x7, h8, hh⟩ := bE hh; obtain ⟨x15, h16, hh⟩ := bE hh; exact te_castS hh (tt_andO (tt_val (b := (decide ((x5.1 + x7.2.2) = e4))) (te_bin (z := D.bl (decide ((x5.1 + x7.2.2) = e4))) (te_bin (z := D.int (x5.1 + x7.2.2)) (te_bin (x := (stD x5)) (z := (D.int x5.1)) (te_owL (i := 1) (z := (stD x5)) rfl (te_un (z := D.int (-1)) te_c) (fun Ω n hn => w_ix (e := stD) h6 Ω n hn)) te_c) (te_bin (x := (stD x7)) (z := (D.int x7.2.2)) (te_owL (i := 1) (z := (stD x7)) rfl (te_un (z := D.int (-1)) te_c) (fun Ω n hn => w_ix (e := stD) h8 Ω n hn)) te_c)) (te_var (d := (D.int e4))))) h16 (fun _ hh => by obtain ⟨x9, h10, hh⟩ := bE hh; obtain ⟨x11, h12, hh⟩ := bE hh; obtain ⟨x13, h14, hh⟩ := bE hh; exact te_castS hh (tt_val (b := (decide ((x9.2.1 + x11.2.2) = x13))) (te_bin (z := D.bl (decide ((x9.2.1 + x11.2.2) = x13))) (te_bin (z := D.int (x9.2.1 + x11.2.2)) (te_bin (x := (stD x9)) (z := (D.int x9.2.1)) (te_owL (i := 1) (z := (stD x9)) rfl (te_un (z := D.int (-1)) te_c) (fun Ω n hn => w_ix (e := stD) h10 Ω n hn)) te_c) (te_bin (x := (stD x11)) (z := (D.int x11.2.2)) (te_owL (i := 1) (z := (stD x11)) rfl (te_un (z := D.int (-1)) te_c) (fun Ω n hn => w_ix (e := stD) h12 Ω n hn)) te_c)) (te_bin (z := (D.int x13)) (te_var (d := (eKI D.int v_carry_here))) (te_var (d := (D.int e4))) (fun Ω => o_get (e := D.int) h14 Ω))))))))) ?_
      obtain ⟨x29, h30, hr⟩ := bE hr
      obtain ⟨x31, h32, hr⟩ := bE hr
      obtain hs := Option.some.inj hr
      subst hs
      exact tb_weak (tb_appT (e := stD) h32 pu_st rfl (te_tup (te_cons (d := (D.int e4)) (te_var (d := (D.int e4))) (te_cons (d := (D.int x29)) (te_bin (z := (D.int x29)) (te_var (d := (eKI D.int v_carry_here))) (te_var (d := (D.int e4))) (fun Ω => o_get (e := D.int) h30 Ω)) (te_cons (d := (D.int 1)) te_c te_nil))))) (by repeat (first | exact Pw.nil | apply Pw.same | apply Pw.un))
  obtain hs := Option.some.inj hr
  subst hs
  exact tr_own rfl
def t_law_cut (v_rows : List (Int × Int × Int)) (q0 : Pot) : Option ((List (Int × Int × Int)) × Pot) :=
  Option.bind (foldN (fun (e2 : Int × Int × Int) (s1 : (List (Int × Int × Int)) × Pot) => (b2 (t_law_draw e2.2.2 s1.2) fun x3 q4 => Option.bind (Option.bind (some (decide (0 < x3))) fun c6 => ifO c6 (Option.bind (appT s1.1 (e2.1, e2.2.1, x3)) fun x8 => some x8) (some s1.1)) fun j10 => Option.bind (appT j10 ((e2.1 + x3), (e2.2.1 + x3), (e2.2.2 - x3))) fun x12 => some (x12, q4) : Option ((List (Int × Int × Int)) × Pot))) v_rows (([] : List (Int × Int × Int)), q0)) fun r14 => some (r14.1, r14.2)
theorem w_law_cut {v_rows : List (Int × Int × Int)} {q0 q9 : Pot} {rr : List (Int × Int × Int)} {n : Nat} (hr : t_law_cut v_rows q0 = some (rr, q9)) : SpP F_law_cut [.ref n, (eL stD v_rows)] n q0 (eL stD rr) q9 := by
  refine fn_P ((pu_L pu_st) rr) fun A hn => ?_
  unfold t_law_cut at hr
  unfold b_law_cut
  refine tr_seq (tb_newL te_nil ((pu_L pu_st) ([] : List (Int × Int × Int)))) ?_
  obtain ⟨r14, h15, hr⟩ := bE hr
  refine tr_seq (tb_forM (e := stD) (fun (s1 : (List (Int × Int × Int)) × Pot) => [.pl (.ref n), .pl (eL stD v_rows), .ow (.lst (s1.1.map stD)), .un, .un, .un, .un]) (fun (s1 : (List (Int × Int × Int)) × Pot) => pA A n s1.2) h15 (ti_lst (te_var (d := (eL stD v_rows)))) (by repeat (first | exact Pw.nil | apply Pw.same | apply Pw.un)) ?_) ?_
  · intro e2 s1 s' hr
    try dsimp only at hr
    refine ⟨_, (tg_t (tgs_cons tg_n (tgs_cons tg_n (tgs_cons tg_n tgs_nil)))), ?_⟩
    unfold b_law_cut_for
    obtain ⟨x3, q4, h5, hr⟩ := b2E hr
    refine tb_seq (tb_set (d := (D.int x3)) (te_callP hn (te_cons (d := (D.ref n)) (te_var (d := D.ref n)) (te_cons (d := (D.int e2.2.2)) (te_var (d := (D.int e2.2.2))) te_nil)) (w_law_draw h5))) ?_
    obtain ⟨j10, h11, hr⟩ := bE hr
    refine tb_seq (P1 := [.pl (.ref n), .pl (eL stD v_rows), .ow (.lst (j10.map stD)), .pl (D.int e2.1), .pl (D.int e2.2.1), .pl (D.int e2.2.2), .pl (D.int x3)]) (A1 := pA A n q4) ?_ ?_
    · have hr := h11
      obtain ⟨c6, h7, hr⟩ := bE hr
      cases c6 with
      | true =>
        rw [ifO_t] at hr
        refine tb_ifT (te_castS h7 (tt_val (b := decide (0 < x3)) (te_bin (z := D.bl (decide (0 < x3))) (te_var (d := (D.int x3))) te_c))) ?_
        obtain ⟨x8, h9, hr⟩ := bE hr
        obtain hs := Option.some.inj hr
        subst hs
        exact tb_weak (tb_appT (e := stD) h9 pu_st rfl (te_tup (te_cons (d := (D.int e2.1)) (te_var (d := (D.int e2.1))) (te_cons (d := (D.int e2.2.1)) (te_var (d := (D.int e2.2.1))) (te_cons (d := (D.int x3)) (te_var (d := (D.int x3))) te_nil))))) (by repeat (first | exact Pw.nil | apply Pw.same | apply Pw.un))
      | false =>
        rw [ifO_f] at hr
        refine tb_ifF (te_castS h7 (tt_val (b := decide (0 < x3)) (te_bin (z := D.bl (decide (0 < x3))) (te_var (d := (D.int x3))) te_c))) ?_
        obtain hs := Option.some.inj hr
        subst hs
        exact tb_weak tb_skip (by repeat (first | exact Pw.nil | apply Pw.same | apply Pw.un))
    obtain ⟨x12, h13, hr⟩ := bE hr
    obtain hs := Option.some.inj hr
    subst hs
    exact tb_weak (tb_appT (e := stD) h13 pu_st rfl (te_tup (te_cons (d := (D.int (e2.1 + x3))) (te_bin (z := D.int (e2.1 + x3)) (te_var (d := (D.int e2.1))) (te_var (d := (D.int x3)))) (te_cons (d := (D.int (e2.2.1 + x3))) (te_bin (z := D.int (e2.2.1 + x3)) (te_var (d := (D.int e2.2.1))) (te_var (d := (D.int x3)))) (te_cons (d := (D.int (e2.2.2 - x3))) (te_bin (z := D.int (e2.2.2 - x3)) (te_var (d := (D.int e2.2.2))) (te_var (d := (D.int x3)))) te_nil))))) (by repeat (first | exact Pw.nil | apply Pw.same | apply Pw.un))
  obtain ⟨hs, hq⟩ := Prod.mk.inj (Option.some.inj hr)
  subst hs
  subst hq
  exact tr_own rfl
def t_law_told_right (v_made : List (Int × Int × Int)) (v_carry_here : List (Int × Int)) : Option Bool :=
  Option.bind (t_law_form v_carry_here) fun x1 => Option.bind (t_Stair_steps v_made) fun x3 => Option.bind (orO (!decide (x3 = x1)) (Option.bind (t_StairD_lenD v_made) fun x5 => Option.bind (lenT x5) fun x7 => Option.bind (orO (!decide (x7 = (x1.length : Int))) (Option.bind (t_Stair_kept v_made) fun x9 => Option.bind (reprD (D.int x9)) fun x11 => Option.bind (reprD (D.int (v_carry_here.length : Int))) fun x13 => some (!decide (x11 = x13)))) fun x15 => some x15)) fun x17 => Option.bind (some x17) fun c19 => ifO c19 (some false) (Option.bind (objT "Stair" "own_steps" "Stair(" ")" (e_Stair v_made)) fun x21 => Option.bind (reprD (eL stD x1)) fun x23 => Option.bind (catST ("Stair(" : Str) x23) fun x25 => Option.bind (catST x25 ((")" : Str))) fun x27 => Option.bind (orO (!decide (x21 = x27)) (Option.bind (t_Stair_steps v_made) fun x29 => Option.bind (lcM (fun (e31 : Int × Int × Int) => true) (fun (e31 : Int × Int × Int) => true) x29) fun x32 => some (!(x32.all id)))) fun x34 => Option.bind (some x34) fun c36 => ifO c36 (some false) (Option.bind (range2 (-9) 72) fun x38 => Option.bind (foldR (fun (e41 : Int) (s40 : Unit) => (Option.bind (t_StairD_callD v_made e41) fun x42 => Option.bind (reprD (eO D.int x42)) fun x44 => Option.bind (reprD (eO D.int (lkI v_carry_here e41))) fun x46 => Option.bind (orO (!decide (x44 = x46)) (Option.bind (t_StairD_containsD_i v_made e41) fun x48 => some (!decide (x48 = ((lkI v_carry_here e41).isSome))))) fun x50 => Option.bind (some x50) fun c52 => ifO c52 (some (Sum.inr false)) (Option.bind (t_StairD_callD v_made e41) fun x54 => Option.bind (reprD (eO D.int x54)) fun x56 => Option.bind (reprD (eO D.int (lkI v_carry_here e41))) fun x58 => Option.bind (some (!decide (x56 = x58))) fun c60 => ifO c60 (some (Sum.inr false)) (some (Sum.inl ()))) : Option (Unit ⊕ Bool))) x38 ()) fun z64 => match z64 with | .inr v65 => some v65 | .inl r62 => Option.bind (powT 10 29) fun x66 => Option.bind (powT 10 29) fun x68 => Option.bind (some ([D.non, (D.bl true), (D.bl false), (D.str ("1" : Str)), (D.str ("" : Str)), (e1 D.int (1)), (eL D.int ([1])), (eKI D.int ([] : List (Int × Int))), (stD (1, 1, 1)), (e_Stair v_made), (D.int x66), (D.int (-x68))])) fun x70 => Option.bind (lcO (β := Bool) (fun (e72 : D) => Option.bind (t_StairD_containsD_a v_made e72) fun x73 => some (some x73)) x70) fun x75 => some (!(x75.any id))))
theorem w_law_told_right {v_made : List (Int × Int × Int)} {v_carry_here : List (Int × Int)} {rr : Bool} (hr : t_law_told_right v_made v_carry_here = some rr) : Sp0 F_law_told_right [(e_Stair v_made), (eKI D.int v_carry_here)] (D.bl rr) := by
  refine fn_0 rfl fun A => ?_
  unfold t_law_told_right at hr
  unfold b_law_told_right
  obtain ⟨x1, h2, hr⟩ := bE hr
  refine tr_seq (tb_set (d := (eL stD x1)) (te_call0 (te_cons (d := (eKI D.int v_carry_here)) (te_var (d := (eKI D.int v_carry_here))) te_nil) (w_law_form h2))) ?_
  obtain ⟨x3, h4, hr⟩ := bE hr
  obtain ⟨x17, h18, hr⟩ := bE hr
  obtain ⟨c19, h20, hr⟩ := bE hr
  cases c19 with
  | true =>
    rw [ifO_t] at hr
    refine tr_seqR (tr_ifT (te_castS h20 (tt_orO (tt_val (b := (!decide (x3 = x1))) (te_bin (x := (eL stD x3)) (y := (eL stD x1)) (z := D.bl (!decide (x3 = x1))) (te_meth (te_var (d := (e_Stair v_made))) te_nil (w_Stair_steps h4)) (te_var (d := (eL stD x1))) (fun Ω => o_ne (EX.lst ex_st) x3 x1 (by decide) Ω))) h18 (fun _ hh => by obtain ⟨x5, h6, hh⟩ := bE hh; obtain ⟨x7, h8, hh⟩ := bE hh; obtain ⟨x15, h16, hh⟩ := bE hh; exact te_castS hh (tt_orO (tt_val (b := (!decide (x7 = (x1.length : Int)))) (te_bin (z := D.bl (!decide (x7 = (x1.length : Int)))) (te_lenT (te_var (d := (e_Stair v_made))) (w_StairD_lenD h6) h8) (te_cb (z := (D.int (x1.length : Int))) (te_cons (d := (eL stD x1)) (te_var (d := (eL stD x1))) te_nil) (fun Ω => o_lenL (e := stD) Ω)))) h16 (fun _ hh => by obtain ⟨x9, h10, hh⟩ := bE hh; obtain ⟨x11, h12, hh⟩ := bE hh; obtain ⟨x13, h14, hh⟩ := bE hh; exact te_castS hh (tt_val (b := (!decide (x11 = x13))) (te_bin (z := D.bl (!decide (x11 = x13))) (te_cb (z := (D.str x11)) (te_cons (d := (D.int x9)) (te_unO (te_var (d := (e_Stair v_made))) (w_Stair_kept h10)) te_nil) (fun Ω => o_repr h12 Ω)) (te_cb (z := (D.str x13)) (te_cons (d := (D.int (v_carry_here.length : Int))) (te_cb (z := (D.int (v_carry_here.length : Int))) (te_cons (d := (eKI D.int v_carry_here)) (te_var (d := (eKI D.int v_carry_here))) te_nil) (fun Ω => o_lenK (e := D.int) Ω)) te_nil) (fun Ω => o_repr h14 Ω))))))))) ?_)
    obtain hs := Option.some.inj hr
    subst hs
    exact tr_ret te_c
  | false =>
    rw [ifO_f] at hr
    refine tr_seq (tb_ifF (te_castS h20 (tt_orO (tt_val (b := (!decide (x3 = x1))) (te_bin (x := (eL stD x3)) (y := (eL stD x1)) (z := D.bl (!decide (x3 = x1))) (te_meth (te_var (d := (e_Stair v_made))) te_nil (w_Stair_steps h4)) (te_var (d := (eL stD x1))) (fun Ω => o_ne (EX.lst ex_st) x3 x1 (by decide) Ω))) h18 (fun _ hh => by obtain ⟨x5, h6, hh⟩ := bE hh; obtain ⟨x7, h8, hh⟩ := bE hh; obtain ⟨x15, h16, hh⟩ := bE hh; exact te_castS hh (tt_orO (tt_val (b := (!decide (x7 = (x1.length : Int)))) (te_bin (z := D.bl (!decide (x7 = (x1.length : Int)))) (te_lenT (te_var (d := (e_Stair v_made))) (w_StairD_lenD h6) h8) (te_cb (z := (D.int (x1.length : Int))) (te_cons (d := (eL stD x1)) (te_var (d := (eL stD x1))) te_nil) (fun Ω => o_lenL (e := stD) Ω)))) h16 (fun _ hh => by obtain ⟨x9, h10, hh⟩ := bE hh; obtain ⟨x11, h12, hh⟩ := bE hh; obtain ⟨x13, h14, hh⟩ := bE hh; exact te_castS hh (tt_val (b := (!decide (x11 = x13))) (te_bin (z := D.bl (!decide (x11 = x13))) (te_cb (z := (D.str x11)) (te_cons (d := (D.int x9)) (te_unO (te_var (d := (e_Stair v_made))) (w_Stair_kept h10)) te_nil) (fun Ω => o_repr h12 Ω)) (te_cb (z := (D.str x13)) (te_cons (d := (D.int (v_carry_here.length : Int))) (te_cb (z := (D.int (v_carry_here.length : Int))) (te_cons (d := (eKI D.int v_carry_here)) (te_var (d := (eKI D.int v_carry_here))) te_nil) (fun Ω => o_lenK (e := D.int) Ω)) te_nil) (fun Ω => o_repr h14 Ω))))))))) tb_skip) ?_
    obtain ⟨x21, h22, hr⟩ := bE hr
    obtain ⟨x23, h24, hr⟩ := bE hr
    obtain ⟨x25, h26, hr⟩ := bE hr
    obtain ⟨x27, h28, hr⟩ := bE hr
    obtain ⟨x34, h35, hr⟩ := bE hr
    obtain ⟨c36, h37, hr⟩ := bE hr
    cases c36 with
    | true =>
      rw [ifO_t] at hr
      refine tr_seqR (tr_ifT (te_castS h37 (tt_orO (tt_val (b := (!decide (x21 = x27))) (te_bin (z := D.bl (!decide (x21 = x27))) (te_cb (z := D.str x21) (te_cons (d := (e_Stair v_made)) (te_var (d := (e_Stair v_made))) te_nil) (fun Ω => o_repr1 h22 Ω)) (te_bin (z := D.str x27) (te_bin (z := D.str x25) te_c (te_cb (z := (D.str x23)) (te_cons (d := (eL stD x1)) (te_var (d := (eL stD x1))) te_nil) (fun Ω => o_repr h24 Ω)) (fun Ω => o_catS h26 Ω)) te_c (fun Ω => o_catS h28 Ω)))) h35 (fun _ hh => by obtain ⟨x29, h30, hh⟩ := bE hh; obtain ⟨x32, h33, hh⟩ := bE hh; exact te_castS hh (tt_not (b := (x32.all id)) (tt_val (b := (x32.all id)) (te_cb (z := (D.bl (x32.all id))) (te_cons (d := (eL D.bl x32)) (te_lcM (e := stD) (ey := D.bl) (vs := [5]) h33 (ti_lst (te_meth (te_var (d := (e_Stair v_made))) te_nil (w_Stair_steps h30))) (fun e31 => ⟨_, tgt_nm, te_c, (te_is (b := true) (te_var (d := (stD e31))))⟩)) te_nil) (fun Ω => o_all Ω))))))) ?_)
      obtain hs := Option.some.inj hr
      subst hs
      exact tr_ret te_c
    | false =>
      rw [ifO_f] at hr
      refine tr_seq (tb_ifF (te_castS h37 (tt_orO (tt_val (b := (!decide (x21 = x27))) (te_bin (z := D.bl (!decide (x21 = x27))) (te_cb (z := D.str x21) (te_cons (d := (e_Stair v_made)) (te_var (d := (e_Stair v_made))) te_nil) (fun Ω => o_repr1 h22 Ω)) (te_bin (z := D.str x27) (te_bin (z := D.str x25) te_c (te_cb (z := (D.str x23)) (te_cons (d := (eL stD x1)) (te_var (d := (eL stD x1))) te_nil) (fun Ω => o_repr h24 Ω)) (fun Ω => o_catS h26 Ω)) te_c (fun Ω => o_catS h28 Ω)))) h35 (fun _ hh => by obtain ⟨x29, h30, hh⟩ := bE hh; obtain ⟨x32, h33, hh⟩ := bE hh; exact te_castS hh (tt_not (b := (x32.all id)) (tt_val (b := (x32.all id)) (te_cb (z := (D.bl (x32.all id))) (te_cons (d := (eL D.bl x32)) (te_lcM (e := stD) (ey := D.bl) (vs := [5]) h33 (ti_lst (te_meth (te_var (d := (e_Stair v_made))) te_nil (w_Stair_steps h30))) (fun e31 => ⟨_, tgt_nm, te_c, (te_is (b := true) (te_var (d := (stD e31))))⟩)) te_nil) (fun Ω => o_all Ω))))))) tb_skip) ?_
      obtain ⟨x38, h39, hr⟩ := bE hr
      obtain ⟨z64, h63, hr⟩ := bE hr
      refine tr_forS (e := D.int) (fun (s40 : Unit) => [.pl (e_Stair v_made), .pl (eKI D.int v_carry_here), .pl (eL stD x1), .un, .un, .un, .un]) (fun (_ : Unit) => A) (fun (r : Bool) => (D.bl r)) (Sum.elim (fun (_ : Unit) => A) (fun r => A)) (fun _ => rfl) h63 (ti_r2 h39 (te_cons (d := (D.int (-9))) (te_un (z := D.int (-9)) te_c) (te_cons (d := (D.int 72)) te_c te_nil))) (by repeat (first | exact Pw.nil | apply Pw.same | apply Pw.un)) ?_ ?_
      · intro e41 s40 zz hr
        try dsimp only at hr
        refine ⟨_, tg_n, ?_⟩
        unfold b_law_told_right_for
        obtain ⟨x42, h43, hr⟩ := bE hr
        obtain ⟨x44, h45, hr⟩ := bE hr
        obtain ⟨x46, h47, hr⟩ := bE hr
        obtain ⟨x50, h51, hr⟩ := bE hr
        obtain ⟨c52, h53, hr⟩ := bE hr
        cases c52 with
        | true =>
          rw [ifO_t] at hr
          refine tb_seqV (tv_ifT (te_castS h53 (tt_orO (tt_val (b := (!decide (x44 = x46))) (te_bin (z := D.bl (!decide (x44 = x46))) (te_cb (z := (D.str x44)) (te_cons (d := (eO D.int x42)) (te_callO (te_var (d := (e_Stair v_made))) (te_var (d := (D.int e41))) (w_StairD_callD h43)) te_nil) (fun Ω => o_repr h45 Ω)) (te_cb (z := (D.str x46)) (te_cons (d := (eO D.int (lkI v_carry_here e41))) (te_getN (e := D.int) (te_var (d := (eKI D.int v_carry_here))) (te_var (d := (D.int e41)))) te_nil) (fun Ω => o_repr h47 Ω)))) h51 (fun _ hh => by obtain ⟨x48, h49, hh⟩ := bE hh; exact te_castS hh (tt_val (b := (!decide (x48 = ((lkI v_carry_here e41).isSome)))) (te_bin (x := (D.bl x48)) (y := (D.bl ((lkI v_carry_here e41).isSome))) (z := D.bl (!decide (x48 = ((lkI v_carry_here e41).isSome)))) (te_inO (b := x48) (te_var (d := (D.int e41))) (te_var (d := (e_Stair v_made))) (w_StairD_containsD_i h49)) (te_in (e := D.int) (te_var (d := (D.int e41))) (te_var (d := (eKI D.int v_carry_here)))) (fun Ω => o_ne ex_bl x48 ((lkI v_carry_here e41).isSome) (by decide) Ω)))))) ?_)
          obtain hs := Option.some.inj hr
          subst hs
          exact tv_ret te_c
        | false =>
          rw [ifO_f] at hr
          refine tb_seq (tb_ifF (te_castS h53 (tt_orO (tt_val (b := (!decide (x44 = x46))) (te_bin (z := D.bl (!decide (x44 = x46))) (te_cb (z := (D.str x44)) (te_cons (d := (eO D.int x42)) (te_callO (te_var (d := (e_Stair v_made))) (te_var (d := (D.int e41))) (w_StairD_callD h43)) te_nil) (fun Ω => o_repr h45 Ω)) (te_cb (z := (D.str x46)) (te_cons (d := (eO D.int (lkI v_carry_here e41))) (te_getN (e := D.int) (te_var (d := (eKI D.int v_carry_here))) (te_var (d := (D.int e41)))) te_nil) (fun Ω => o_repr h47 Ω)))) h51 (fun _ hh => by obtain ⟨x48, h49, hh⟩ := bE hh; exact te_castS hh (tt_val (b := (!decide (x48 = ((lkI v_carry_here e41).isSome)))) (te_bin (x := (D.bl x48)) (y := (D.bl ((lkI v_carry_here e41).isSome))) (z := D.bl (!decide (x48 = ((lkI v_carry_here e41).isSome)))) (te_inO (b := x48) (te_var (d := (D.int e41))) (te_var (d := (e_Stair v_made))) (w_StairD_containsD_i h49)) (te_in (e := D.int) (te_var (d := (D.int e41))) (te_var (d := (eKI D.int v_carry_here)))) (fun Ω => o_ne ex_bl x48 ((lkI v_carry_here e41).isSome) (by decide) Ω)))))) tb_skip) ?_
          obtain ⟨x54, h55, hr⟩ := bE hr
          obtain ⟨x56, h57, hr⟩ := bE hr
          obtain ⟨x58, h59, hr⟩ := bE hr
          obtain ⟨c60, h61, hr⟩ := bE hr
          cases c60 with
          | true =>
            rw [ifO_t] at hr
            refine tb_ifT (te_castS h61 (tt_val (b := (!decide (x56 = x58))) (te_bin (z := D.bl (!decide (x56 = x58))) (te_cb (z := (D.str x56)) (te_cons (d := (eO D.int x54)) (te_callOK (te_var (d := (e_Stair v_made))) (te_cons (d := (D.int e41)) (te_var (d := (D.int e41))) te_nil) (w_StairD_callD h55)) te_nil) (fun Ω => o_repr h57 Ω)) (te_cb (z := (D.str x58)) (te_cons (d := (eO D.int (lkI v_carry_here e41))) (te_getN (e := D.int) (te_var (d := (eKI D.int v_carry_here))) (te_var (d := (D.int e41)))) te_nil) (fun Ω => o_repr h59 Ω))))) ?_
            obtain hs := Option.some.inj hr
            subst hs
            exact tb_ret te_c
          | false =>
            rw [ifO_f] at hr
            refine tb_ifF (te_castS h61 (tt_val (b := (!decide (x56 = x58))) (te_bin (z := D.bl (!decide (x56 = x58))) (te_cb (z := (D.str x56)) (te_cons (d := (eO D.int x54)) (te_callOK (te_var (d := (e_Stair v_made))) (te_cons (d := (D.int e41)) (te_var (d := (D.int e41))) te_nil) (w_StairD_callD h55)) te_nil) (fun Ω => o_repr h57 Ω)) (te_cb (z := (D.str x58)) (te_cons (d := (eO D.int (lkI v_carry_here e41))) (te_getN (e := D.int) (te_var (d := (eKI D.int v_carry_here))) (te_var (d := (D.int e41)))) te_nil) (fun Ω => o_repr h59 Ω))))) ?_
            obtain hs := Option.some.inj hr
            subst hs
            exact tb_weak tb_skip (by repeat (first | exact Pw.nil | apply Pw.same | apply Pw.un))
      cases z64 with
      | inr v65 =>
        obtain hs := Option.some.inj hr
        subst hs
        exact ⟨rfl, rfl⟩
      | inl r62 =>
        obtain ⟨x66, h67, hr⟩ := bE hr
        obtain ⟨x68, h69, hr⟩ := bE hr
        obtain ⟨x70, h71, hr⟩ := bE hr
        refine tr_seq (tb_setE (e := (eL id)) h71 (te_lst (te_cons (d := D.non) te_c (te_cons (d := (D.bl true)) te_c (te_cons (d := (D.bl false)) te_c (te_cons (d := (D.str ("1" : Str))) te_c (te_cons (d := (D.str ("" : Str))) te_c (te_cons (d := (e1 D.int (1))) (te_tup (te_cons (d := (D.int 1)) te_c te_nil)) (te_cons (d := (eL D.int ([1]))) (te_lst (te_cons (d := (D.int 1)) te_c te_nil)) (te_cons (d := (eKI D.int ([] : List (Int × Int)))) te_c (te_cons (d := (stD (1, 1, 1))) (te_tup (te_cons (d := (D.int 1)) te_c (te_cons (d := (D.int 1)) te_c (te_cons (d := (D.int 1)) te_c te_nil)))) (te_cons (d := (e_Stair v_made)) (te_var (d := (e_Stair v_made))) (te_cons (d := (D.int x66)) (te_bin (z := D.int x66) te_c te_c (fun Ω => o_pow h67 Ω)) (te_cons (d := (D.int (-x68))) (te_un (z := D.int (-x68)) (te_bin (z := D.int x68) te_c te_c (fun Ω => o_pow h69 Ω))) te_nil)))))))))))))) ?_
        obtain ⟨x75, h76, hr⟩ := bE hr
        obtain hs := Option.some.inj hr
        subst hs
        exact tr_ret (te_not (te_cb (z := (D.bl (x75.any id))) (te_cons (d := (eL D.bl x75)) (te_lcO (e := id) (ey := D.bl) (vs := [6]) h76 (ti_lst (te_var (d := (eL id x70)))) (by intro e72 yy hh; exact ⟨_, tgt_nm, (by obtain ⟨x73, h74, hh⟩ := bE hh; obtain hs := Option.some.inj hh; subst hs; exact .inr ⟨_, rfl, te_c, (te_inO (b := x73) (te_var (d := e72)) (te_var (d := (e_Stair v_made))) (w_StairD_containsD_a h74))⟩)⟩)) te_nil) (fun Ω => o_any Ω)))
def t_law_right (q0 : Pot) : Option (Bool × Pot) :=
  b2 (t_law_steps 9 q0) fun x1 q2 => Option.bind (t_law_carry x1) fun x4 => Option.bind (reprD (eL stD x1)) fun x6 => Option.bind (t_StairD_initD_l x1) fun x8 => b2 (t_law_cut x1 q2) fun x10 q11 => Option.bind (t_StairD_initD_t x10) fun x13 => Option.bind (appT x1 (100, 100, 5)) fun x15 => Option.bind (t_law_told_right x8 x4) fun x17 => Option.bind (orO (!x17) (Option.bind (t_law_told_right x13 x4) fun x19 => some (!x19))) fun x21 => Option.bind (some x21) fun c23 => ifO c23 (some (false, q11)) (Option.bind (lenLt x8) fun x25 => Option.bind (t_StairD_eqD_o x8 x13) fun x27 => Option.bind (orO (!x27) (Option.bind (t_StairD_eqD_o x13 x8) fun x29 => Option.bind (orO (!x29) (Option.bind (t_Stair_steps x8) fun x31 => Option.bind (t_StairD_eqD_l x8 x31) fun x33 => Option.bind (orO x33 (Option.bind (t_StairD_eqD_s x8 x6) fun x35 => Option.bind (orO x35 (Option.bind (t_Stair_steps x8) fun x37 => Option.bind (t_StairD_initD_l x37) fun x39 => Option.bind (t_StairD_eqD_o x8 x39) fun x41 => some (!x41))) fun x43 => some x43)) fun x45 => some x45)) fun x47 => some x47)) fun x49 => Option.bind (some x49) fun c51 => ifO c51 (some (false, q11)) (Option.bind (range1 (x1.length : Int)) fun x53 => Option.bind (foldR (fun (e56 : Int) (s55 : Unit) => (Option.bind (L2.atI x1 e56) fun x57 => Option.bind (L2.atI x1 e56) fun x59 => Option.bind (some ([[(x57.1, x57.2.1, (x57.2.2 + 1))], [(x57.1, (x57.2.1 + 1), x57.2.2)], [((x57.1 + 1), (x57.2.1 + 1), x57.2.2)], ([] : List (Int × Int × Int)), [x59]])) fun x61 => Option.bind (foldR (fun (e64 : List (Int × Int × Int)) (s63 : Unit) => (Option.bind (t_StairD_initD_l e64) fun x65 => Option.bind (L2.atI x1 e56) fun x67 => Option.bind (t_StairD_initD_l ([x67])) fun x69 => Option.bind (t_StairD_eqD_o x65 x69) fun x71 => Option.bind (L2.atI x1 e56) fun x73 => Option.bind (some (!decide (x71 = (decide (e64 = [x73]))))) fun c75 => ifO c75 (some (Sum.inr (false, q11))) (some (Sum.inl ())) : Option (Unit ⊕ (Bool × Pot)))) x61 ()) fun z79 => match z79 with | .inr v80 => some (Sum.inr v80) | .inl r77 => Option.bind (catT (cutT x1 none (some e56)) (cutT x1 (some (e56 + 1)) none)) fun x81 => Option.bind (t_StairD_initD_l x81) fun x83 => Option.bind (t_StairD_eqD_o x83 x8) fun x85 => Option.bind (orO x85 (Option.bind (catT (cutT x1 none (some e56)) (cutT x1 (some (e56 + 1)) none)) fun x87 => Option.bind (t_law_carry x87) fun x89 => Option.bind (t_law_told_right x83 x89) fun x91 => some (!x91))) fun x93 => Option.bind (some x93) fun c95 => ifO c95 (some (Sum.inr (false, q11))) (some (Sum.inl ())) : Option (Unit ⊕ (Bool × Pot)))) x53 ()) fun z99 => match z99 with | .inr v100 => some v100 | .inl r97 => Option.bind (some ((!decide (60 = 60)) || (!decide (60 = 60)))) fun c101 => ifO c101 (some (false, q11)) (Option.bind (reprD (eL stD x1)) fun x103 => Option.bind (andO (decide (x103 = x6)) (Option.bind (t_law_told_right x8 x4) fun x105 => some x105)) fun x107 => some (x107, q11))))
theorem w_law_right {q0 q9 : Pot} {rr : Bool} {n : Nat} (hr : t_law_right  q0 = some (rr, q9)) : SpP F_law_right [.ref n] n q0 (D.bl rr) q9 := by
  refine fn_P rfl fun A hn => ?_
  unfold t_law_right at hr
  unfold b_law_right
  obtain ⟨x1, q2, h3, hr⟩ := b2E hr
  refine tr_seq (tb_set (d := (eL stD x1)) (te_callP hn (te_cons (d := (D.ref n)) (te_var (d := D.ref n)) (te_cons (d := (D.int 9)) te_c te_nil)) (w_law_steps h3))) ?_
  obtain ⟨x4, h5, hr⟩ := bE hr
  obtain ⟨x6, h7, hr⟩ := bE hr
  refine tr_seq (tb_par2 (te_cons (d := (eKI D.int x4)) (te_call0 (te_cons (d := (eL stD x1)) (te_var (d := (eL stD x1))) te_nil) (w_law_carry h5)) (te_cons (d := (D.str x6)) (te_cb (z := (D.str x6)) (te_cons (d := (eL stD x1)) (te_var (d := (eL stD x1))) te_nil) (fun Ω => o_repr h7 Ω)) te_nil))) ?_
  refine tr_seq (tb_newLs (ds := List.map stD x1) (te_var (d := (eL stD x1))) (fun _ => rfl) ((pu_L pu_st) x1)) ?_
  obtain ⟨x8, h9, hr⟩ := bE hr
  obtain ⟨x10, q11, h12, hr⟩ := b2E hr
  obtain ⟨x13, h14, hr⟩ := bE hr
  refine tr_seq (tb_par2 (te_cons (d := (e_Stair x8)) (te_makeL (i := 4) (ds0 := List.map stD x1) (w_StairD_initD_l h9) (fl_Stair x8)) (te_cons (d := (e_Stair x13)) (te_makeK (te_cons (d := (eT stD x10)) (te_cb (z := (eT stD x10)) (te_cons (d := (eL stD x10)) (te_callP hn (te_cons (d := (D.ref n)) (te_var (d := D.ref n)) (te_cons (d := (eL stD x1)) (te_var (d := (eL stD x1))) te_nil)) (w_law_cut h12)) te_nil) (fun Ω => o_tupL (e := stD) Ω)) te_nil) (w_StairD_initD_t h14)) te_nil))) ?_
  obtain ⟨x15, h16, hr⟩ := bE hr
  refine tr_seq (tb_appT (e := stD) h16 pu_st rfl (te_tup (te_cons (d := (D.int 100)) te_c (te_cons (d := (D.int 100)) te_c (te_cons (d := (D.int 5)) te_c te_nil))))) ?_
  obtain ⟨x17, h18, hr⟩ := bE hr
  obtain ⟨x21, h22, hr⟩ := bE hr
  obtain ⟨c23, h24, hr⟩ := bE hr
  cases c23 with
  | true =>
    rw [ifO_t] at hr
    refine tr_seqR (tr_ifT (te_castS h24 (tt_orO (tt_not (b := x17) (tt_val (b := x17) (te_call0 (te_cons (d := (e_Stair x8)) (te_var (d := (e_Stair x8))) (te_cons (d := (eKI D.int x4)) (te_var (d := (eKI D.int x4))) te_nil)) (w_law_told_right h18)))) h22 (fun _ hh => by obtain ⟨x19, h20, hh⟩ := bE hh; exact te_castS hh (tt_not (b := x19) (tt_val (b := x19) (te_call0 (te_cons (d := (e_Stair x13)) (te_var (d := (e_Stair x13))) (te_cons (d := (eKI D.int x4)) (te_var (d := (eKI D.int x4))) te_nil)) (w_law_told_right h20))))))) ?_)
    obtain ⟨hs, hq⟩ := Prod.mk.inj (Option.some.inj hr)
    subst hs
    subst hq
    exact tr_ret te_c
  | false =>
    rw [ifO_f] at hr
    refine tr_seq (tb_ifF (te_castS h24 (tt_orO (tt_not (b := x17) (tt_val (b := x17) (te_call0 (te_cons (d := (e_Stair x8)) (te_var (d := (e_Stair x8))) (te_cons (d := (eKI D.int x4)) (te_var (d := (eKI D.int x4))) te_nil)) (w_law_told_right h18)))) h22 (fun _ hh => by obtain ⟨x19, h20, hh⟩ := bE hh; exact te_castS hh (tt_not (b := x19) (tt_val (b := x19) (te_call0 (te_cons (d := (e_Stair x13)) (te_var (d := (e_Stair x13))) (te_cons (d := (eKI D.int x4)) (te_var (d := (eKI D.int x4))) te_nil)) (w_law_told_right h20))))))) tb_skip) ?_
    refine tr_seq (tb_exp (te_tmpClr (te_var (d := (e_Stair x8))) (r_Stair_steps x8))) ?_
    obtain ⟨x25, h26, hr⟩ := bE hr
    refine tr_seq (tb_exp (te_tmpApp (te_var (d := (e_Stair x8))) (r_Stair_steps x8) (fun _ _ => rfl) (lenLt_ok h26) ((pu_L pu_st) x8) rfl)) ?_
    obtain ⟨x27, h28, hr⟩ := bE hr
    obtain ⟨x49, h50, hr⟩ := bE hr
    obtain ⟨c51, h52, hr⟩ := bE hr
    cases c51 with
    | true =>
      rw [ifO_t] at hr
      refine tr_seqR (tr_ifT (te_castS h52 (tt_orO (tt_val (b := (!x27)) (te_ownNe (b := x27) (te_var (d := (e_Stair x8))) (te_var (d := (e_Stair x13))) (w_StairD_eqD_o h28))) h50 (fun _ hh => by obtain ⟨x29, h30, hh⟩ := bE hh; obtain ⟨x47, h48, hh⟩ := bE hh; exact te_castS hh (tt_orO (tt_not (b := x29) (tt_val (b := x29) (te_ownB (b := x29) (te_var (d := (e_Stair x13))) (te_var (d := (e_Stair x8))) (w_StairD_eqD_o h30)))) h48 (fun _ hh => by obtain ⟨x31, h32, hh⟩ := bE hh; obtain ⟨x33, h34, hh⟩ := bE hh; obtain ⟨x45, h46, hh⟩ := bE hh; exact te_castS hh (tt_orO (tt_val (b := x33) (te_ownX (b := x33) (te_var (d := (e_Stair x8))) (te_meth (te_var (d := (e_Stair x8))) te_nil (w_Stair_steps h32)) (w_StairD_eqD_l h34))) h46 (fun _ hh => by obtain ⟨x35, h36, hh⟩ := bE hh; obtain ⟨x43, h44, hh⟩ := bE hh; exact te_castS hh (tt_orO (tt_val (b := x35) (te_ownX (b := x35) (te_var (d := (e_Stair x8))) (te_var (d := (D.str x6))) (w_StairD_eqD_s h36))) h44 (fun _ hh => by obtain ⟨x37, h38, hh⟩ := bE hh; obtain ⟨x39, h40, hh⟩ := bE hh; obtain ⟨x41, h42, hh⟩ := bE hh; exact te_castS hh (tt_not (b := x41) (tt_val (b := x41) (te_ownB (b := x41) (te_var (d := (e_Stair x8))) (te_make (te_cons (d := (eL stD x37)) (te_meth (te_var (d := (e_Stair x8))) te_nil (w_Stair_steps h38)) te_nil) (w_StairD_initD_l h40)) (w_StairD_eqD_o h42))))))))))))) ?_)
      obtain ⟨hs, hq⟩ := Prod.mk.inj (Option.some.inj hr)
      subst hs
      subst hq
      exact tr_ret te_c
    | false =>
      rw [ifO_f] at hr
      refine tr_seq (tb_ifF (te_castS h52 (tt_orO (tt_val (b := (!x27)) (te_ownNe (b := x27) (te_var (d := (e_Stair x8))) (te_var (d := (e_Stair x13))) (w_StairD_eqD_o h28))) h50 (fun _ hh => by obtain ⟨x29, h30, hh⟩ := bE hh; obtain ⟨x47, h48, hh⟩ := bE hh; exact te_castS hh (tt_orO (tt_not (b := x29) (tt_val (b := x29) (te_ownB (b := x29) (te_var (d := (e_Stair x13))) (te_var (d := (e_Stair x8))) (w_StairD_eqD_o h30)))) h48 (fun _ hh => by obtain ⟨x31, h32, hh⟩ := bE hh; obtain ⟨x33, h34, hh⟩ := bE hh; obtain ⟨x45, h46, hh⟩ := bE hh; exact te_castS hh (tt_orO (tt_val (b := x33) (te_ownX (b := x33) (te_var (d := (e_Stair x8))) (te_meth (te_var (d := (e_Stair x8))) te_nil (w_Stair_steps h32)) (w_StairD_eqD_l h34))) h46 (fun _ hh => by obtain ⟨x35, h36, hh⟩ := bE hh; obtain ⟨x43, h44, hh⟩ := bE hh; exact te_castS hh (tt_orO (tt_val (b := x35) (te_ownX (b := x35) (te_var (d := (e_Stair x8))) (te_var (d := (D.str x6))) (w_StairD_eqD_s h36))) h44 (fun _ hh => by obtain ⟨x37, h38, hh⟩ := bE hh; obtain ⟨x39, h40, hh⟩ := bE hh; obtain ⟨x41, h42, hh⟩ := bE hh; exact te_castS hh (tt_not (b := x41) (tt_val (b := x41) (te_ownB (b := x41) (te_var (d := (e_Stair x8))) (te_make (te_cons (d := (eL stD x37)) (te_meth (te_var (d := (e_Stair x8))) te_nil (w_Stair_steps h38)) te_nil) (w_StairD_initD_l h40)) (w_StairD_eqD_o h42))))))))))))) tb_skip) ?_
      obtain ⟨x53, h54, hr⟩ := bE hr
      obtain ⟨z99, h98, hr⟩ := bE hr
      refine tr_forS (e := D.int) (fun (s55 : Unit) => [.pl (.ref n), .pl (eL stD x1), .pl (eKI D.int x4), .pl (D.str x6), .ow (.lst (x15.map stD)), .pl (e_Stair x8), .pl (e_Stair x13), .un, .un, .un, .un, .un, .un, .un]) (fun (s55 : Unit) => pA A n q11) (fun (r : Bool × Pot) => (D.bl r.1)) (Sum.elim (fun (s55 : Unit) => pA A n q11) (fun r => pA A n r.2)) (fun _ => rfl) h98 (ti_r1 h54 (te_cons (d := (D.int (x1.length : Int))) (te_cb (z := (D.int (x1.length : Int))) (te_cons (d := (eL stD x1)) (te_var (d := (eL stD x1))) te_nil) (fun Ω => o_lenL (e := stD) Ω)) te_nil)) (by repeat (first | exact Pw.nil | apply Pw.same | apply Pw.un)) ?_ ?_
      · intro e56 s55 zz hr
        try dsimp only at hr
        refine ⟨_, tg_n, ?_⟩
        unfold b_law_right_for
        obtain ⟨x57, h58, hr⟩ := bE hr
        refine tb_seq (tb_asg (d := (stD x57)) (te_bin (x := (eL stD x1)) (z := (stD x57)) (te_var (d := (eL stD x1))) (te_var (d := (D.int e56))) (fun Ω => o_ixL (e := stD) h58 Ω)) (tg_t (tgs_cons tg_n (tgs_cons tg_n (tgs_cons tg_n tgs_nil))))) ?_
        obtain ⟨x59, h60, hr⟩ := bE hr
        obtain ⟨x61, h62, hr⟩ := bE hr
        refine tb_seq (tb_setE (e := (eL (eL stD))) h62 (te_lst (te_cons (d := (eL stD ([(x57.1, x57.2.1, (x57.2.2 + 1))]))) (te_lst (te_cons (d := (stD (x57.1, x57.2.1, (x57.2.2 + 1)))) (te_tup (te_cons (d := (D.int x57.1)) (te_var (d := (D.int x57.1))) (te_cons (d := (D.int x57.2.1)) (te_var (d := (D.int x57.2.1))) (te_cons (d := (D.int (x57.2.2 + 1))) (te_bin (z := D.int (x57.2.2 + 1)) (te_var (d := (D.int x57.2.2))) te_c) te_nil)))) te_nil)) (te_cons (d := (eL stD ([(x57.1, (x57.2.1 + 1), x57.2.2)]))) (te_lst (te_cons (d := (stD (x57.1, (x57.2.1 + 1), x57.2.2))) (te_tup (te_cons (d := (D.int x57.1)) (te_var (d := (D.int x57.1))) (te_cons (d := (D.int (x57.2.1 + 1))) (te_bin (z := D.int (x57.2.1 + 1)) (te_var (d := (D.int x57.2.1))) te_c) (te_cons (d := (D.int x57.2.2)) (te_var (d := (D.int x57.2.2))) te_nil)))) te_nil)) (te_cons (d := (eL stD ([((x57.1 + 1), (x57.2.1 + 1), x57.2.2)]))) (te_lst (te_cons (d := (stD ((x57.1 + 1), (x57.2.1 + 1), x57.2.2))) (te_tup (te_cons (d := (D.int (x57.1 + 1))) (te_bin (z := D.int (x57.1 + 1)) (te_var (d := (D.int x57.1))) te_c) (te_cons (d := (D.int (x57.2.1 + 1))) (te_bin (z := D.int (x57.2.1 + 1)) (te_var (d := (D.int x57.2.1))) te_c) (te_cons (d := (D.int x57.2.2)) (te_var (d := (D.int x57.2.2))) te_nil)))) te_nil)) (te_cons (d := (eL stD ([] : List (Int × Int × Int)))) (te_lst te_nil) (te_cons (d := (eL stD ([x59]))) (te_lst (te_cons (d := (stD x59)) (te_bin (x := (eL stD x1)) (z := (stD x59)) (te_var (d := (eL stD x1))) (te_var (d := (D.int e56))) (fun Ω => o_ixL (e := stD) h60 Ω)) te_nil)) te_nil))))))) ?_
        obtain ⟨z79, h78, hr⟩ := bE hr
        refine tb_forS (e := (eL stD)) (fun (s63 : Unit) => [.pl (.ref n), .pl (eL stD x1), .pl (eKI D.int x4), .pl (D.str x6), .ow (.lst (x15.map stD)), .pl (e_Stair x8), .pl (e_Stair x13), .pl (D.int e56), .pl (D.int x57.1), .pl (D.int x57.2.1), .pl (D.int x57.2.2), .pl (eL (eL stD) x61), .un, .un]) (fun (s63 : Unit) => pA A n q11) (fun (r : Bool × Pot) => (D.bl r.1)) (Sum.elim (fun (s63 : Unit) => pA A n q11) (fun r => pA A n r.2)) (fun _ => rfl) h78 (ti_lst (te_var (d := (eL (eL stD) x61)))) (by repeat (first | exact Pw.nil | apply Pw.same | apply Pw.un)) ?_ ?_
        · intro e64 s63 zz hr
          try dsimp only at hr
          refine ⟨_, tg_n, ?_⟩
          unfold b_law_right_for2
          obtain ⟨x65, h66, hr⟩ := bE hr
          obtain ⟨x67, h68, hr⟩ := bE hr
          obtain ⟨x69, h70, hr⟩ := bE hr
          obtain ⟨x71, h72, hr⟩ := bE hr
          obtain ⟨x73, h74, hr⟩ := bE hr
          obtain ⟨c75, h76, hr⟩ := bE hr
          cases c75 with
          | true =>
            rw [ifO_t] at hr
            refine tb_ifT (te_castS h76 (tt_val (b := (!decide (x71 = (decide (e64 = [x73]))))) (te_bin (x := (D.bl x71)) (y := (D.bl (decide (e64 = [x73])))) (z := D.bl (!decide (x71 = (decide (e64 = [x73]))))) (te_ownB (b := x71) (te_make (te_cons (d := (eL stD e64)) (te_var (d := (eL stD e64))) te_nil) (w_StairD_initD_l h66)) (te_make (te_cons (d := (eL stD ([x67]))) (te_lst (te_cons (d := (stD x67)) (te_bin (x := (eL stD x1)) (z := (stD x67)) (te_var (d := (eL stD x1))) (te_var (d := (D.int e56))) (fun Ω => o_ixL (e := stD) h68 Ω)) te_nil)) te_nil) (w_StairD_initD_l h70)) (w_StairD_eqD_o h72)) (te_bin (x := (eL stD e64)) (y := (eL stD ([x73]))) (z := D.bl (decide (e64 = [x73]))) (te_var (d := (eL stD e64))) (te_lst (te_cons (d := (stD x73)) (te_bin (x := (eL stD x1)) (z := (stD x73)) (te_var (d := (eL stD x1))) (te_var (d := (D.int e56))) (fun Ω => o_ixL (e := stD) h74 Ω)) te_nil)) (fun Ω => o_eq (EX.lst ex_st) e64 ([x73]) (by decide) Ω)) (fun Ω => o_ne ex_bl x71 (decide (e64 = [x73])) (by decide) Ω)))) ?_
            obtain hs := Option.some.inj hr
            subst hs
            exact tb_ret te_c
          | false =>
            rw [ifO_f] at hr
            refine tb_ifF (te_castS h76 (tt_val (b := (!decide (x71 = (decide (e64 = [x73]))))) (te_bin (x := (D.bl x71)) (y := (D.bl (decide (e64 = [x73])))) (z := D.bl (!decide (x71 = (decide (e64 = [x73]))))) (te_ownB (b := x71) (te_make (te_cons (d := (eL stD e64)) (te_var (d := (eL stD e64))) te_nil) (w_StairD_initD_l h66)) (te_make (te_cons (d := (eL stD ([x67]))) (te_lst (te_cons (d := (stD x67)) (te_bin (x := (eL stD x1)) (z := (stD x67)) (te_var (d := (eL stD x1))) (te_var (d := (D.int e56))) (fun Ω => o_ixL (e := stD) h68 Ω)) te_nil)) te_nil) (w_StairD_initD_l h70)) (w_StairD_eqD_o h72)) (te_bin (x := (eL stD e64)) (y := (eL stD ([x73]))) (z := D.bl (decide (e64 = [x73]))) (te_var (d := (eL stD e64))) (te_lst (te_cons (d := (stD x73)) (te_bin (x := (eL stD x1)) (z := (stD x73)) (te_var (d := (eL stD x1))) (te_var (d := (D.int e56))) (fun Ω => o_ixL (e := stD) h74 Ω)) te_nil)) (fun Ω => o_eq (EX.lst ex_st) e64 ([x73]) (by decide) Ω)) (fun Ω => o_ne ex_bl x71 (decide (e64 = [x73])) (by decide) Ω)))) ?_
            obtain hs := Option.some.inj hr
            subst hs
            exact tb_weak tb_skip (by repeat (first | exact Pw.nil | apply Pw.same | apply Pw.un))
        cases z79 with
        | inr v80 =>
          obtain hs := Option.some.inj hr
          subst hs
          exact ⟨rfl, rfl⟩
        | inl r77 =>
          obtain ⟨x81, h82, hr⟩ := bE hr
          obtain ⟨x83, h84, hr⟩ := bE hr
          refine tb_seq (tb_set (d := (e_Stair x83)) (te_make (te_cons (d := (eL stD x81)) (te_bin (z := (eL stD x81)) (te_sl (e := stD) (xs := x1) (te_var (d := (eL stD x1))) to_no (to_pt (te_var (d := (D.int e56))))) (te_sl (e := stD) (xs := x1) (te_var (d := (eL stD x1))) (to_pt (te_bin (z := D.int (e56 + 1)) (te_var (d := (D.int e56))) te_c)) to_no) (fun Ω => o_cat h82 Ω)) te_nil) (w_StairD_initD_l h84))) ?_
          obtain ⟨x85, h86, hr⟩ := bE hr
          obtain ⟨x93, h94, hr⟩ := bE hr
          obtain ⟨c95, h96, hr⟩ := bE hr
          cases c95 with
          | true =>
            rw [ifO_t] at hr
            refine tb_ifT (te_castS h96 (tt_orO (tt_val (b := x85) (te_ownB (b := x85) (te_var (d := (e_Stair x83))) (te_var (d := (e_Stair x8))) (w_StairD_eqD_o h86))) h94 (fun _ hh => by obtain ⟨x87, h88, hh⟩ := bE hh; obtain ⟨x89, h90, hh⟩ := bE hh; obtain ⟨x91, h92, hh⟩ := bE hh; exact te_castS hh (tt_not (b := x91) (tt_val (b := x91) (te_call0 (te_cons (d := (e_Stair x83)) (te_var (d := (e_Stair x83))) (te_cons (d := (eKI D.int x89)) (te_call0 (te_cons (d := (eL stD x87)) (te_bin (z := (eL stD x87)) (te_sl (e := stD) (xs := x1) (te_var (d := (eL stD x1))) to_no (to_pt (te_var (d := (D.int e56))))) (te_sl (e := stD) (xs := x1) (te_var (d := (eL stD x1))) (to_pt (te_bin (z := D.int (e56 + 1)) (te_var (d := (D.int e56))) te_c)) to_no) (fun Ω => o_cat h88 Ω)) te_nil) (w_law_carry h90)) te_nil)) (w_law_told_right h92))))))) ?_
            obtain hs := Option.some.inj hr
            subst hs
            exact tb_ret te_c
          | false =>
            rw [ifO_f] at hr
            refine tb_ifF (te_castS h96 (tt_orO (tt_val (b := x85) (te_ownB (b := x85) (te_var (d := (e_Stair x83))) (te_var (d := (e_Stair x8))) (w_StairD_eqD_o h86))) h94 (fun _ hh => by obtain ⟨x87, h88, hh⟩ := bE hh; obtain ⟨x89, h90, hh⟩ := bE hh; obtain ⟨x91, h92, hh⟩ := bE hh; exact te_castS hh (tt_not (b := x91) (tt_val (b := x91) (te_call0 (te_cons (d := (e_Stair x83)) (te_var (d := (e_Stair x83))) (te_cons (d := (eKI D.int x89)) (te_call0 (te_cons (d := (eL stD x87)) (te_bin (z := (eL stD x87)) (te_sl (e := stD) (xs := x1) (te_var (d := (eL stD x1))) to_no (to_pt (te_var (d := (D.int e56))))) (te_sl (e := stD) (xs := x1) (te_var (d := (eL stD x1))) (to_pt (te_bin (z := D.int (e56 + 1)) (te_var (d := (D.int e56))) te_c)) to_no) (fun Ω => o_cat h88 Ω)) te_nil) (w_law_carry h90)) te_nil)) (w_law_told_right h92))))))) ?_
            obtain hs := Option.some.inj hr
            subst hs
            exact tb_weak tb_skip (by repeat (first | exact Pw.nil | apply Pw.same | apply Pw.un))
      cases z99 with
      | inr v100 =>
        obtain hs := Option.some.inj hr
        subst hs
        exact ⟨rfl, rfl⟩
      | inl r97 =>
        obtain ⟨c101, h102, hr⟩ := bE hr
        cases c101 with
        | true =>
          rw [ifO_t] at hr
          refine tr_seqR (tr_ifT (te_castS h102 (tt_or (b := (!decide (60 = 60))) (b' := (!decide (60 = 60))) (tt_val (b := (!decide (60 = 60))) (te_bin (z := D.bl (!decide (60 = 60))) te_c te_c)) (fun _ => (tt_val (b := (!decide (60 = 60))) (te_bin (z := D.bl (!decide (60 = 60))) (te_conO (te_var (d := (e_Stair x8)))) te_c))))) ?_)
          obtain ⟨hs, hq⟩ := Prod.mk.inj (Option.some.inj hr)
          subst hs
          subst hq
          exact tr_ret te_c
        | false =>
          rw [ifO_f] at hr
          refine tr_seq (tb_ifF (te_castS h102 (tt_or (b := (!decide (60 = 60))) (b' := (!decide (60 = 60))) (tt_val (b := (!decide (60 = 60))) (te_bin (z := D.bl (!decide (60 = 60))) te_c te_c)) (fun _ => (tt_val (b := (!decide (60 = 60))) (te_bin (z := D.bl (!decide (60 = 60))) (te_conO (te_var (d := (e_Stair x8)))) te_c))))) tb_skip) ?_
          obtain ⟨x103, h104, hr⟩ := bE hr
          obtain ⟨x107, h108, hr⟩ := bE hr
          obtain ⟨hs, hq⟩ := Prod.mk.inj (Option.some.inj hr)
          subst hs
          subst hq
          exact tr_ret (te_andO (te_bin (z := D.bl (decide (x103 = x6))) (te_cb (z := (D.str x103)) (te_cons (d := (eL stD x1)) (te_var (d := (eL stD x1))) te_nil) (fun Ω => o_repr h104 Ω)) (te_var (d := (D.str x6)))) h108 (fun _ hh => by obtain ⟨x105, h106, hh⟩ := bE hh; exact te_castE (e := D.bl) hh (te_call0 (te_cons (d := (e_Stair x8)) (te_var (d := (e_Stair x8))) (te_cons (d := (eKI D.int x4)) (te_var (d := (eKI D.int x4))) te_nil)) (w_law_told_right h106))))
end K11


set_option Elab.async false
set_option linter.all false
set_option maxRecDepth 100000
/-! TnPlain: reasoning about typed functions, no program in sight. -/
namespace Tn
open PySem L2 Dn
section
variable {α β σ ρ : Type}
theorem foldN_nil (f : α → σ → Option σ) (s : σ) : foldN f [] s = some s := rfl
theorem foldN_cons (f : α → σ → Option σ) (x : α) (xs : List α) (s : σ) : foldN f (x :: xs) s = (f x s).bind (foldN f xs) := rfl
/-- the step is g, as long as I holds -/
theorem foldN_fold {f : α → σ → Option σ} (g : σ → α → σ) (I : Nat → σ → Prop) : ∀ (xs : List α) (k : Nat) (s : σ), I k s → (∀ x ∈ xs, ∀ j s, j < k + xs.length → I j s → f x s = some (g s x) ∧ I (j + 1) (g s x)) → foldN f xs s = some (xs.foldl g s) ∧ I (k + xs.length) (xs.foldl g s)
  | [], k, s, h, _ => ⟨rfl, h⟩
  | x :: xs, k, s, h, hf => by
    obtain ⟨e, h1⟩ := hf x (List.mem_cons_self ..) k s (by simp) h
    obtain ⟨e2, h2⟩ := foldN_fold g I xs (k + 1) (g s x) h1 fun y hy j s hj => hf y (List.mem_cons_of_mem _ hy) j s (by rw [List.length_cons]; omega)
    rw [foldN_cons, e, Option.bind_some, e2, List.foldl_cons, List.length_cons]
    exact ⟨rfl, by rw [show k + (xs.length + 1) = k + 1 + xs.length by omega]; exact h2⟩
theorem foldN_rel {f : α → σ → Option σ} (I : Nat → σ → Prop) : ∀ (xs : List α) (k : Nat) (s : σ), I k s → (∀ x ∈ xs, ∀ j s, j < k + xs.length → I j s → ∃ s', f x s = some s' ∧ I (j + 1) s') → ∃ s', foldN f xs s = some s' ∧ I (k + xs.length) s'
  | [], k, s, h, _ => ⟨s, rfl, h⟩
  | x :: xs, k, s, h, hf => by
    obtain ⟨s1, e, h1⟩ := hf x (List.mem_cons_self ..) k s (by simp) h
    obtain ⟨s2, e2, h2⟩ := foldN_rel I xs (k + 1) s1 h1 fun y hy j s hj => hf y (List.mem_cons_of_mem _ hy) j s (by rw [List.length_cons]; omega)
    refine ⟨s2, by rw [foldN_cons, e, Option.bind_some, e2], ?_⟩
    rw [List.length_cons, show k + (xs.length + 1) = k + 1 + xs.length by omega]
    exact h2
theorem foldR_rel {f : α → σ → Option (σ ⊕ ρ)} (I : σ → Prop) : ∀ (xs : List α) (s : σ), I s → (∀ x ∈ xs, ∀ s, I s → ∃ s', f x s = some (.inl s') ∧ I s') → ∃ s', foldR f xs s = some (.inl s') ∧ I s'
  | [], s, h, _ => ⟨s, rfl, h⟩
  | x :: xs, s, h, hf => by
    obtain ⟨s1, e, h1⟩ := hf x (List.mem_cons_self ..) s h
    obtain ⟨s2, e2, h2⟩ := foldR_rel I xs s1 h1 fun y hy => hf y (List.mem_cons_of_mem _ hy)
    refine ⟨s2, ?_, h2⟩
    unfold foldR
    rw [e]
    exact e2
theorem foldR_unit {f : α → Unit → Option (Unit ⊕ ρ)} (xs : List α) (h : ∀ x ∈ xs, f x () = some (.inl ())) : foldR f xs () = some (.inl ()) := by
  obtain ⟨s', e, _⟩ := foldR_rel (fun _ => True) xs () trivial fun x hx s _ => ⟨(), h x hx, trivial⟩
  exact e
theorem lcO'_of {f : α → Option (Option β)} (g : α → Option β) : ∀ (xs : List α), (∀ x ∈ xs, f x = some (g x)) → lcO' f xs = some (xs.filterMap g)
  | [], _ => rfl
  | x :: xs, h => by
    unfold lcO'
    rw [h x (List.mem_cons_self ..)]
    dsimp only
    rw [lcO'_of g xs fun y hy => h y (List.mem_cons_of_mem _ hy)]
    dsimp only
    cases e : g x with
    | none => rw [List.filterMap_cons_none e]
    | some y => rw [List.filterMap_cons_some e]
theorem lcO_of {f : α → Option (Option β)} (g : α → Option β) {xs : List α} (hl : xs.length ≤ 100000) (h : ∀ x ∈ xs, f x = some (g x)) : lcO f xs = some (xs.filterMap g) := by
  unfold lcO
  rw [if_pos hl]
  exact lcO'_of g xs h
theorem lcO_map {f : α → Option (Option β)} (g : α → β) {xs : List α} (hl : xs.length ≤ 100000) (h : ∀ x ∈ xs, f x = some (some (g x))) : lcO f xs = some (xs.map g) := by
  rw [lcO_of (fun x => some (g x)) hl h]
  rw [show (fun x => some (g x)) = some ∘ g from rfl, List.filterMap_eq_map]
theorem lcM_of (p : α → Bool) (y : α → β) {xs : List α} (hl : xs.length ≤ 100000) : lcM p y xs = some ((xs.filter p).map y) := if_pos hl
theorem lcM_map (y : α → β) {xs : List α} (hl : xs.length ≤ 100000) : lcM (fun _ => true) y xs = some (xs.map y) := by
  rw [lcM_of _ _ hl, List.filter_eq_self.mpr fun _ _ => rfl]
/-- with draws -/
theorem lcS_rel {f : α → σ → Option (Option β × σ)} (I : σ → Prop) (R : List β → Prop) (h0 : R []) {xs : List α} (hl : xs.length ≤ 100000) {s : σ} (h : I s)
    (hf : ∀ x ∈ xs, ∀ s ys, I s → R ys → ys.length < xs.length → ∃ y s', f x s = some (some y, s') ∧ I s' ∧ R (ys ++ [y])) : ∃ ys s', lcS f xs s = some (ys, s') ∧ I s' ∧ R ys ∧ ys.length = xs.length := by
  unfold lcS
  rw [if_pos hl]
  have key : ∀ (zs : List α) (s : σ) (acc : List β), I s → R acc → acc.length + zs.length = xs.length → (∀ z ∈ zs, z ∈ xs) → ∃ ys s', lcT f zs s = some (ys, s') ∧ I s' ∧ R (acc ++ ys) ∧ ys.length = zs.length := by
    intro zs
    induction zs with
    | nil => intro s acc h1 h2 _ _; exact ⟨[], s, rfl, h1, by rw [List.append_nil]; exact h2, rfl⟩
    | cons z zs ih =>
      intro s acc h1 h2 h3 h4
      rw [List.length_cons] at h3
      obtain ⟨y, s1, e1, i1, r1⟩ := hf z (h4 z (List.mem_cons_self ..)) s acc h1 h2 (by omega)
      obtain ⟨ys, s2, e2, i2, r2, l2⟩ := ih s1 (acc ++ [y]) i1 r1 (by simp; omega) fun w hw => h4 w (List.mem_cons_of_mem _ hw)
      refine ⟨y :: ys, s2, ?_, i2, by rw [List.append_assoc] at r2; exact r2, by simp [l2]⟩
      unfold lcT
      rw [e1]
      dsimp only
      rw [e2]
  obtain ⟨ys, s', e, i, r, l⟩ := key xs s [] h h0 (by simp) fun _ z => z
  exact ⟨ys, s', e, i, r, l⟩
theorem range1_of {j : Int} (h1 : 0 ≤ j) (h2 : j < 4611686018427387904) : range1 j = some (rangeI 0 j.toNat) := if_pos ⟨by omega, h2⟩
theorem range2_of {i j : Int} (h1 : -4611686018427387904 ≤ i) (h2 : i < 4611686018427387904) (h3 : -4611686018427387904 ≤ j) (h4 : j < 4611686018427387904) : range2 i j = some (rangeI i (j - i).toNat) := if_pos ⟨h1, h2, h3, h4⟩
theorem mem_rangeI {lo : Int} {n : Nat} {m : Int} : m ∈ rangeI lo n ↔ lo ≤ m ∧ m < lo + (n : Int) := by
  unfold rangeI
  rw [List.mem_map]
  constructor
  · rintro ⟨i, hi, rfl⟩
    have := List.mem_range.mp hi
    omega
  · intro h
    exact ⟨(m - lo).toNat, List.mem_range.mpr (by omega), by omega⟩
theorem rangeI_length (lo : Int) (n : Nat) : (rangeI lo n).length = n := by unfold rangeI; simp
theorem rangeI_pairwise (lo : Int) (n : Nat) : (rangeI lo n).Pairwise (· < ·) := by
  unfold rangeI
  refine List.pairwise_map.mpr (List.pairwise_lt_range.imp fun h => ?_)
  omega
theorem appT_of {xs : List α} {a : α} (h : xs.length < 100000) : appT xs a = some (xs ++ [a]) := if_pos h
theorem extT_of {xs ys : List α} (h : xs.length + ys.length ≤ 100000) : extT xs ys = some (xs ++ ys) := if_pos h
theorem catT_of {xs ys : List α} (h : xs.length + ys.length ≤ 100000) : catT xs ys = some (xs ++ ys) := if_pos h
theorem updT_of {kvs more : List (Int × α)} (h : kvs.length + more.length ≤ 100000) : updT kvs more = some (mergeI kvs more) := if_pos h
theorem setT_last {ys : List α} {z a : α} : setT (ys ++ [z]) (-1) a = some (ys ++ [a]) := by
  unfold setT
  rw [List.length_append, List.length_singleton, ixN_last]
  simp
theorem atI_get {xs : List α} {d : Int} (h0 : 0 ≤ d) (h1 : d < xs.length) : ∃ a, L2.atI xs d = some a ∧ a ∈ xs ∧ xs[d.toNat]? = some a := by
  have hl : d.toNat < xs.length := by omega
  refine ⟨xs[d.toNat], ?_, List.getElem_mem hl, List.getElem?_eq_getElem hl⟩
  have e := Dn.atI_nat xs d.toNat
  rw [show ((d.toNat : Nat) : Int) = d by omega] at e
  rw [e]
  exact List.getElem?_eq_getElem hl
theorem andO_t (t : Option Bool) : andO true t = t := rfl
theorem andO_f (t : Option Bool) : andO false t = some false := rfl
theorem orO_t (t : Option Bool) : orO true t = some true := rfl
theorem orO_f (t : Option Bool) : orO false t = t := rfl
@[simp] theorem b2_some {γ : Type} (a : α) (c : γ) (f : α → γ → Option β) : b2 (some (a, c)) f = f a c := rfl
/-! ### all goes well, and R holds of what comes -/
def Ok {α : Type} (x : Option α) (R : α → Prop) : Prop := ∃ y, x = some y ∧ R y
theorem ok_some {R : α → Prop} {a : α} (h : R a) : Ok (some a) R := ⟨a, rfl, h⟩
theorem ok_eq {R : α → Prop} {x : Option α} {a : α} (e : x = some a) (h : R a) : Ok x R := ⟨a, e, h⟩
theorem Ok.imp {R S : α → Prop} {x : Option α} (h : Ok x R) (i : ∀ a, R a → S a) : Ok x S := let ⟨a, e, r⟩ := h; ⟨a, e, i a r⟩
theorem ok_bind {x : Option α} {f : α → Option β} {Q : α → Prop} {R : β → Prop} (h : Ok x Q) (k : ∀ a, Q a → Ok (f a) R) : Ok (x.bind f) R := by
  obtain ⟨a, rfl, q⟩ := h
  exact k a q
/-- the value is known -/
theorem ok_val {x : Option α} {f : α → Option β} {R : β → Prop} {a : α} (h : x = some a) (k : Ok (f a) R) : Ok (x.bind f) R := by
  rw [h]
  exact k
theorem ok_b2 {γ : Type} {x : Option (α × γ)} {f : α → γ → Option β} {Q : α → γ → Prop} {R : β → Prop} (h : Ok x fun z => Q z.1 z.2) (k : ∀ a c, Q a c → Ok (f a c) R) : Ok (b2 x f) R := by
  obtain ⟨⟨a, c⟩, rfl, q⟩ := h
  exact k a c q
theorem ok_foldN {f : α → σ → Option σ} {xs : List α} {s : σ} {k : σ → Option β} {R : β → Prop} (I : Nat → σ → Prop) (h0 : I 0 s) (hf : ∀ x ∈ xs, ∀ j s, j < xs.length → I j s → Ok (f x s) (I (j + 1))) (hk : ∀ s', I xs.length s' → Ok (k s') R) : Ok ((foldN f xs s).bind k) R := by
  obtain ⟨s', e, h⟩ := foldN_rel I xs 0 s h0 fun x hx j s hj hs => hf x hx j s (by omega) hs
  rw [e]
  exact hk s' (by rw [Nat.zero_add] at h; exact h)
theorem ok_foldR {f : α → σ → Option (σ ⊕ ρ)} {xs : List α} {s : σ} {k : σ ⊕ ρ → Option β} {R : β → Prop} (I : σ → Prop) (h0 : I s) (hf : ∀ x ∈ xs, ∀ s, I s → Ok (f x s) fun z => ∃ s', z = .inl s' ∧ I s') (hk : ∀ s', I s' → Ok (k (.inl s')) R) : Ok ((foldR f xs s).bind k) R := by
  obtain ⟨s', e, h⟩ := foldR_rel I xs s h0 fun x hx s hs => by
    obtain ⟨z, e, s', rfl, h⟩ := hf x hx s hs
    exact ⟨s', e, h⟩
  rw [e]
  exact hk s' h
theorem bind_foldN {f : α → σ → Option σ} {xs : List α} {s : σ} {k : σ → Option β} {r : Option β} (g : σ → α → σ) (I : Nat → σ → Prop) (h0 : I 0 s) (hf : ∀ x ∈ xs, ∀ j s, j < xs.length → I j s → f x s = some (g s x) ∧ I (j + 1) (g s x)) (hk : I xs.length (xs.foldl g s) → k (xs.foldl g s) = r) : (foldN f xs s).bind k = r := by
  obtain ⟨e, h⟩ := foldN_fold g I xs 0 s h0 fun x hx j s hj hs => hf x hx j s (by omega) hs
  rw [e]
  exact hk (by rw [Nat.zero_add] at h; exact h)
theorem foldN_val {f : α → σ → Option σ} {xs : List α} {s : σ} (g : σ → α → σ) (I : Nat → σ → Prop) (h0 : I 0 s) (hf : ∀ x ∈ xs, ∀ j s, j < xs.length → I j s → f x s = some (g s x) ∧ I (j + 1) (g s x)) : foldN f xs s = some (xs.foldl g s) :=
  (foldN_fold g I xs 0 s h0 fun x hx j s hj hs => hf x hx j s (by omega) hs).1
/-! ### dicts -/
theorem lkI_mem {kvs : List (Int × α)} (hn : kvs.Pairwise fun p q => p.1 ≠ q.1) {p : Int × α} (hp : p ∈ kvs) : lkI kvs p.1 = some p.2 := by
  unfold lkI
  induction kvs with
  | nil => cases hp
  | cons q kvs ih =>
    rw [List.pairwise_cons] at hn
    rw [List.find?_cons]
    rcases List.mem_cons.mp hp with rfl | hp
    · simp
    · have : q.1 ≠ p.1 := hn.1 p hp
      simp only [this, decide_false]
      exact ih hn.2 hp
theorem lkI_none {kvs : List (Int × α)} {k : Int} (h : ∀ p ∈ kvs, p.1 ≠ k) : lkI kvs k = none := by
  unfold lkI
  rw [List.find?_eq_none.mpr]
  · rfl
  · intro p hp
    simpa using h p hp
theorem lkI_some {kvs : List (Int × α)} {k : Int} {v : α} (h : lkI kvs k = some v) : (k, v) ∈ kvs := by
  unfold lkI at h
  cases e : kvs.find? fun kv => decide (kv.1 = k) with
  | none => rw [e] at h; cases h
  | some p =>
    rw [e] at h
    have h1 := List.mem_of_find?_eq_some e
    have h2 := List.find?_some e
    have h3 : p.1 = k := by simpa using h2
    have h4 : p.2 = v := by simpa using h
    rw [← h3, ← h4]
    exact h1
theorem putI_new {kvs : List (Int × α)} {k : Int} {v : α} (h : ∀ p ∈ kvs, p.1 ≠ k) : putI kvs k v = kvs ++ [(k, v)] := by
  unfold putI
  rw [if_neg]
  rw [List.any_eq_true]
  rintro ⟨p, hp, e⟩
  exact h p hp (by simpa using e)
/-- new keys alone -/
theorem mergeI_new : ∀ (more kvs : List (Int × α)), more.Pairwise (fun p q => p.1 ≠ q.1) → (∀ p ∈ kvs, ∀ q ∈ more, p.1 ≠ q.1) → mergeI kvs more = kvs ++ more
  | [], kvs, _, _ => by unfold mergeI; simp
  | q :: more, kvs, h1, h2 => by
    rw [List.pairwise_cons] at h1
    have e : mergeI kvs (q :: more) = mergeI (putI kvs q.1 q.2) more := rfl
    rw [e, putI_new fun p hp => h2 p hp q (List.mem_cons_self ..), mergeI_new more _ h1.2 fun p hp r hr => ?_]
    · simp
    · rcases List.mem_append.mp hp with hp | hp
      · exact h2 p hp r (List.mem_cons_of_mem _ hr)
      · rw [List.mem_singleton.mp hp]
        exact h1.1 r hr
end
end Tn


set_option Elab.async false
set_option linter.all false
/-! StMath: steps, units, the one form; no program in sight. -/
namespace Stairs
abbrev Stp := Int × Int × Int
def push (acc : List Stp) (s : Stp) : List Stp := match acc.getLast? with
  | some z => if z.1 + z.2.2 = s.1 ∧ z.2.1 + z.2.2 = s.2.1 then acc.dropLast ++ [(z.1, z.2.1, z.2.2 + s.2.2)] else acc ++ [s]
  | none => [s]
theorem push_nil (s : Stp) : push [] s = [s] := rfl
theorem push_snoc (ys : List Stp) (z s : Stp) : push (ys ++ [z]) s = if z.1 + z.2.2 = s.1 ∧ z.2.1 + z.2.2 = s.2.1 then ys ++ [(z.1, z.2.1, z.2.2 + s.2.2)] else ys ++ [z] ++ [s] := by
  unfold push
  simp
theorem snoc_or {α : Type} (xs : List α) : xs = [] ∨ ∃ ys z, xs = ys ++ [z] := by
  rcases List.eq_nil_or_concat xs with h | ⟨ys, z, h⟩
  · exact .inl h
  · exact .inr ⟨ys, z, by rw [h]; simp⟩
def oneForm (xs : List Stp) : List Stp := xs.foldl push []
def unitsOf (s : Stp) : List (Int × Int) := (List.range s.2.2.toNat).map fun (i : Nat) => (s.1 + (i : Int), s.2.1 + (i : Int))
def U (xs : List Stp) : List (Int × Int) := xs.flatMap unitsOf
def u1 (p : Int × Int) : Stp := (p.1, p.2, 1)
def Pos1 (xs : List Stp) : Prop := ∀ s ∈ xs, 1 ≤ s.2.2
def Rise (ps : List (Int × Int)) : Prop := ps.Pairwise fun p q => p.1 < q.1 ∧ p.2 < q.2
theorem U_nil : U [] = [] := rfl
theorem U_cons (s : Stp) (xs : List Stp) : U (s :: xs) = unitsOf s ++ U xs := by unfold U; simp
theorem U_append (xs ys : List Stp) : U (xs ++ ys) = U xs ++ U ys := by unfold U; simp
theorem mem_units {s : Stp} {p : Int × Int} : p ∈ unitsOf s ↔ s.1 ≤ p.1 ∧ p.1 < s.1 + s.2.2 ∧ p.2 - p.1 = s.2.1 - s.1 := by
  unfold unitsOf
  rw [List.mem_map]
  obtain ⟨e, n, l⟩ := s
  obtain ⟨a, b⟩ := p
  constructor
  · rintro ⟨i, hi, h⟩
    rw [List.mem_range] at hi
    simp only [Prod.mk.injEq] at h
    dsimp only at *
    omega
  · rintro ⟨h1, h2, h3⟩
    dsimp only at *
    refine ⟨(a - e).toNat, List.mem_range.mpr (by omega), ?_⟩
    simp only [Prod.mk.injEq]
    omega
theorem units_add {e n l k : Int} (hl : 0 ≤ l) (hk : 0 ≤ k) : unitsOf (e, n, l + k) = unitsOf (e, n, l) ++ unitsOf (e + l, n + l, k) := by
  unfold unitsOf
  dsimp only
  rw [show (l + k).toNat = l.toNat + k.toNat by omega, List.range_add, List.map_append, List.map_map]
  congr 1
  refine List.map_congr_left fun i _ => ?_
  simp only [Function.comp_apply, Prod.mk.injEq]
  omega
theorem units_one {e n : Int} : unitsOf (e, n, 1) = [(e, n)] := by simp [unitsOf]
theorem push_push (acc : List Stp) (e n l k : Int) : push (push acc (e, n, l)) (e + l, n + l, k) = push acc (e, n, l + k) := by
  rcases snoc_or acc with rfl | ⟨ys, z, rfl⟩
  · rw [push_nil, push_nil]
    rw [show [(e, n, l)] = ([] : List Stp) ++ [(e, n, l)] from rfl, push_snoc]
    simp
  · rw [push_snoc, push_snoc]
    dsimp only
    by_cases h : z.1 + z.2.2 = e ∧ z.2.1 + z.2.2 = n
    · rw [if_pos h, if_pos h, push_snoc]
      dsimp only
      rw [if_pos (by omega)]
      simp
      omega
    · rw [if_neg h, if_neg h, push_snoc]
      simp
theorem fold_units (e n : Int) : ∀ (k : Nat) (acc : List Stp), ((unitsOf (e, n, (k : Int) + 1)).map u1).foldl push acc = push acc (e, n, (k : Int) + 1)
  | 0, acc => by
    rw [show ((0 : Nat) : Int) + 1 = 1 from rfl, units_one]
    rfl
  | k + 1, acc => by
    rw [show ((k + 1 : Nat) : Int) + 1 = ((k : Int) + 1) + 1 by omega, units_add (by omega) (by omega), units_one, List.map_append, List.foldl_append, fold_units e n k acc]
    exact push_push acc e n _ 1
theorem form_units : ∀ (xs : List Stp) (acc : List Stp), Pos1 xs → ((U xs).map u1).foldl push acc = xs.foldl push acc
  | [], acc, _ => rfl
  | (e, n, l) :: xs, acc, h => by
    rw [U_cons, List.map_append, List.foldl_append]
    have h1 : 1 ≤ l := h (e, n, l) (by simp)
    have h2 := fold_units e n (l - 1).toNat acc
    rw [show (((l - 1).toNat : Nat) : Int) + 1 = l by omega] at h2
    rw [h2, form_units xs _ fun s hs => h s (by simp [hs])]
    rfl
theorem oneForm_units {xs : List Stp} (h : Pos1 xs) : oneForm ((U xs).map u1) = oneForm xs := form_units xs [] h
theorem pos_push {acc : List Stp} {s : Stp} (h : Pos1 acc) (hs : 1 ≤ s.2.2) : Pos1 (push acc s) := by
  rcases snoc_or acc with rfl | ⟨ys, z, rfl⟩
  · intro t ht
    rw [push_nil, List.mem_singleton] at ht
    rw [ht]; exact hs
  · have hz : 1 ≤ z.2.2 := h z (by simp)
    intro t ht
    rw [push_snoc] at ht
    split at ht
    · rcases List.mem_append.mp ht with ht | ht
      · exact h t (by simp [ht])
      · rw [List.mem_singleton] at ht
        rw [ht]
        dsimp only
        omega
    · rcases List.mem_append.mp ht with ht | ht
      · exact h t ht
      · rw [List.mem_singleton] at ht
        rw [ht]; exact hs
theorem U_push {acc : List Stp} {s : Stp} (h : Pos1 acc) (hs : 1 ≤ s.2.2) : U (push acc s) = U acc ++ unitsOf s := by
  rcases snoc_or acc with rfl | ⟨ys, z, rfl⟩
  · rw [push_nil, U_cons, U_nil]; simp
  · have hz : 1 ≤ z.2.2 := h z (by simp)
    rw [push_snoc]
    obtain ⟨a, b, c⟩ := z
    obtain ⟨e, n, l⟩ := s
    dsimp only at *
    split
    · rename_i q
      rw [U_append, U_append, U_cons, U_cons, U_nil, units_add (by omega) (by omega), q.1, q.2]
      simp
    · rw [U_append, U_cons, U_nil]
      simp
theorem fold_push : ∀ (xs acc : List Stp), Pos1 xs → Pos1 acc → Pos1 (xs.foldl push acc) ∧ U (xs.foldl push acc) = U acc ++ U xs
  | [], acc, _, h => ⟨h, by rw [U_nil]; simp⟩
  | s :: xs, acc, h1, h2 => by
    have hs := h1 s (by simp)
    obtain ⟨a, b⟩ := fold_push xs (push acc s) (fun t ht => h1 t (by simp [ht])) (pos_push h2 hs)
    refine ⟨a, ?_⟩
    rw [List.foldl_cons, b, U_push h2 hs, U_cons]
    simp
theorem pos_nil : Pos1 [] := fun _ h => by cases h
theorem pos_oneForm {xs : List Stp} (h : Pos1 xs) : Pos1 (oneForm xs) := (fold_push xs [] h pos_nil).1
theorem U_oneForm {xs : List Stp} (h : Pos1 xs) : U (oneForm xs) = U xs := by
  have := (fold_push xs [] h pos_nil).2
  rw [U_nil, List.nil_append] at this
  exact this
/-- the one form is told by the units -/
theorem oneForm_of_U {xs ys : List Stp} (hx : Pos1 xs) (hy : Pos1 ys) (h : U xs = U ys) : oneForm xs = oneForm ys := by
  rw [← oneForm_units hx, ← oneForm_units hy, h]
theorem oneForm_oneForm {xs : List Stp} (h : Pos1 xs) : oneForm (oneForm xs) = oneForm xs := oneForm_of_U (pos_oneForm h) h (U_oneForm h)
theorem push_len (acc : List Stp) (s : Stp) : (push acc s).length ≤ acc.length + 1 := by
  rcases snoc_or acc with rfl | ⟨ys, z, rfl⟩
  · simp [push_nil]
  · rw [push_snoc]
    split <;> simp
theorem fold_len : ∀ (xs acc : List Stp), (xs.foldl push acc).length ≤ acc.length + xs.length
  | [], acc => by simp
  | s :: xs, acc => by
    have h1 := fold_len xs (push acc s)
    have h2 := push_len acc s
    rw [List.foldl_cons, List.length_cons]
    omega
theorem oneForm_len (xs : List Stp) : (oneForm xs).length ≤ xs.length := by
  have := fold_len xs []
  simpa [oneForm] using this
theorem len_U : ∀ {xs : List Stp}, Pos1 xs → xs.length ≤ (U xs).length
  | [], _ => by simp
  | s :: xs, h => by
    have h1 := h s (by simp)
    have h2 := len_U (xs := xs) fun t ht => h t (by simp [ht])
    rw [U_cons, List.length_append, List.length_cons]
    have h3 : 1 ≤ (unitsOf s).length := by
      unfold unitsOf
      rw [List.length_map, List.length_range]
      omega
    omega
/-! ### sorted lists -/
theorem sorted_ext : ∀ {xs ys : List (Int × Int)}, xs.Pairwise (fun p q => p.1 < q.1) → ys.Pairwise (fun p q => p.1 < q.1) → (∀ p, p ∈ xs ↔ p ∈ ys) → xs = ys
  | [], [], _, _, _ => rfl
  | [], y :: ys, _, _, h => absurd ((h y).mpr (by simp)) (by simp)
  | x :: xs, [], _, _, h => absurd ((h x).mp (by simp)) (by simp)
  | x :: xs, y :: ys, hx, hy, h => by
    rw [List.pairwise_cons] at hx hy
    have e : x = y := by
      rcases List.mem_cons.mp ((h x).mp (by simp)) with e | m1
      · exact e
      · rcases List.mem_cons.mp ((h y).mpr (by simp)) with e | m2
        · exact e.symm
        · have a := hy.1 x m1
          have b := hx.1 y m2
          omega
    subst e
    rw [sorted_ext hx.2 hy.2 fun p => ?_]
    constructor
    · intro hp
      rcases List.mem_cons.mp ((h p).mp (by simp [hp])) with e | m
      · subst e
        have := hx.1 p hp
        omega
      · exact m
    · intro hp
      rcases List.mem_cons.mp ((h p).mpr (by simp [hp])) with e | m
      · subst e
        have := hy.1 p hp
        omega
      · exact m
theorem Rise.fst {ps : List (Int × Int)} (h : Rise ps) : ps.Pairwise (fun p q => p.1 < q.1) := List.Pairwise.imp (fun h => h.1) h
theorem rise_units (s : Stp) : Rise (unitsOf s) := by
  unfold Rise unitsOf
  rw [List.pairwise_map]
  refine List.Pairwise.imp ?_ (List.pairwise_lt_range (n := s.2.2.toNat))
  intro a b hab
  dsimp only
  omega
/-! ### cut at both ends -/
def clip (s : Stp) (a b : Int) : List Stp := if max s.1 a < min (s.1 + s.2.2) b then [(max s.1 a, s.2.1 + max s.1 a - s.1, min (s.1 + s.2.2) b - max s.1 a)] else []
def inR (a b : Int) (p : Int × Int) : Bool := decide (a ≤ p.1 ∧ p.1 < b)
theorem pos_clip (s : Stp) (a b : Int) : Pos1 (clip s a b) := by
  intro t ht
  unfold clip at ht
  split at ht
  · rw [List.mem_singleton] at ht
    rw [ht]
    dsimp only
    omega
  · cases ht
theorem U_clip (s : Stp) (a b : Int) : U (clip s a b) = (unitsOf s).filter (inR a b) := by
  refine sorted_ext ?_ (List.Pairwise.filter _ (rise_units s).fst) fun p => ?_
  · unfold clip
    split
    · rw [U_cons, U_nil, List.append_nil]
      exact (rise_units _).fst
    · exact List.Pairwise.nil
  · rw [List.mem_filter, mem_units]
    unfold clip inR
    obtain ⟨e, n, l⟩ := s
    obtain ⟨x, y⟩ := p
    dsimp only
    rw [decide_eq_true_iff]
    split
    · rw [U_cons, U_nil, List.append_nil, mem_units]
      dsimp only
      omega
    · rw [U_nil]
      simp only [List.not_mem_nil, false_iff]
      omega
def cutS (xs : List Stp) (a b : Int) : List Stp := xs.flatMap fun s => clip s a b
theorem pos_cut (xs : List Stp) (a b : Int) : Pos1 (cutS xs a b) := fun t ht => by
  obtain ⟨s, _, h⟩ := List.mem_flatMap.mp ht
  exact pos_clip s a b t h
theorem U_cut (a b : Int) : ∀ xs : List Stp, U (cutS xs a b) = (U xs).filter (inR a b)
  | [] => rfl
  | s :: xs => by
    have ih := U_cut a b xs
    unfold cutS at ih ⊢
    rw [List.flatMap_cons, U_append, ih, U_clip, U_cons, List.filter_append]
def lim (xs : List Stp) (a b : Int) : List Stp := oneForm (cutS xs a b)
theorem U_lim (xs : List Stp) (a b : Int) : U (lim xs a b) = (U xs).filter (inR a b) := by
  unfold lim
  rw [U_oneForm (pos_cut xs a b), U_cut]
theorem pos_lim (xs : List Stp) (a b : Int) : Pos1 (lim xs a b) := pos_oneForm (pos_cut xs a b)
theorem clip_len (s : Stp) (a b : Int) : (clip s a b).length ≤ 1 := by unfold clip; split <;> simp
theorem cut_len (a b : Int) : ∀ xs : List Stp, (cutS xs a b).length ≤ xs.length
  | [] => by simp [cutS]
  | s :: xs => by
    have h1 := cut_len a b xs
    have h2 := clip_len s a b
    unfold cutS at h1 ⊢
    rw [List.flatMap_cons, List.length_append, List.length_cons]
    omega
/-! ### a stair's steps rise -/
def goesUp (a b : Stp) : Bool := decide (a.1 + a.2.2 ≤ b.1) && decide (a.2.1 + a.2.2 ≤ b.2.1)
def Steps : List Stp → Prop
  | [] => True
  | [s] => 1 ≤ s.2.2
  | s :: t :: r => 1 ≤ s.2.2 ∧ goesUp s t = true ∧ Steps (t :: r)
theorem steps_of : ∀ {xs : List Stp}, Pos1 xs → Rise (U xs) → Steps xs
  | [], _, _ => trivial
  | [s], h, _ => h s (by simp)
  | s :: t :: r, h, hr => by
    have hs := h s (by simp)
    have ht := h t (by simp)
    rw [U_cons] at hr
    unfold Rise at hr
    rw [List.pairwise_append] at hr
    refine ⟨hs, ?_, steps_of (fun x hx => h x (by simp at hx ⊢; exact .inr hx)) hr.2.1⟩
    have m1 : (s.1 + s.2.2 - 1, s.2.1 + s.2.2 - 1) ∈ unitsOf s := mem_units.mpr ⟨by dsimp only; omega, by dsimp only; omega, by dsimp only; omega⟩
    have m2 : (t.1, t.2.1) ∈ U (t :: r) := by
      rw [U_cons]
      exact List.mem_append_left _ (mem_units.mpr ⟨by dsimp only; omega, by dsimp only; omega, rfl⟩)
    have q := hr.2.2 _ m1 _ m2
    dsimp only at q
    unfold goesUp
    simp only [Bool.and_eq_true, decide_eq_true_eq]
    omega
/-! ### ranges -/
abbrev Pr := Int × Int
def pushR (acc : List Pr) (m : Int) : List Pr := match acc.getLast? with
  | some z => if z.2 = m then acc.dropLast ++ [(z.1, m + 1)] else acc ++ [(m, m + 1)]
  | none => [(m, m + 1)]
def pushG (acc : List Pr) (n e : Int) : List Pr := match acc.getLast? with
  | some z => if z.2 = n then acc.dropLast ++ [(z.1, e)] else acc ++ [(n, e)]
  | none => [(n, e)]
def pushJ (acc : List Pr) (p : Pr) : List Pr := match acc.getLast? with
  | some z => if p.1 ≤ z.2 then acc.dropLast ++ [(z.1, max z.2 p.2)] else acc ++ [p]
  | none => [p]
theorem pushR_nil (m : Int) : pushR [] m = [(m, m + 1)] := rfl
theorem pushR_snoc (ys : List Pr) (z : Pr) (m : Int) : pushR (ys ++ [z]) m = if z.2 = m then ys ++ [(z.1, m + 1)] else ys ++ [z] ++ [(m, m + 1)] := by
  unfold pushR
  simp
theorem pushG_nil (n e : Int) : pushG [] n e = [(n, e)] := rfl
theorem pushG_snoc (ys : List Pr) (z : Pr) (n e : Int) : pushG (ys ++ [z]) n e = if z.2 = n then ys ++ [(z.1, e)] else ys ++ [z] ++ [(n, e)] := by
  unfold pushG
  simp
theorem pushJ_nil (p : Pr) : pushJ [] p = [p] := rfl
theorem pushJ_snoc (ys : List Pr) (z p : Pr) : pushJ (ys ++ [z]) p = if p.1 ≤ z.2 then ys ++ [(z.1, max z.2 p.2)] else ys ++ [z] ++ [p] := by
  unfold pushJ
  simp
/-- the last range ends at m or below -/
def EndLe (acc : List Pr) (m : Int) : Prop := ∀ z, acc.getLast? = some z → z.2 ≤ m
theorem endLe_nil (m : Int) : EndLe [] m := fun z h => by cases h
theorem endLe_snoc {ys : List Pr} {z : Pr} {m : Int} : EndLe (ys ++ [z]) m ↔ z.2 ≤ m := by
  unfold EndLe
  simp
theorem endLe_pushG (acc : List Pr) (n e m : Int) : EndLe (pushG acc n e) m ↔ e ≤ m := by
  rcases snoc_or acc with rfl | ⟨ys, z, rfl⟩
  · rw [pushG_nil, show [(n, e)] = ([] : List Pr) ++ [(n, e)] from rfl, endLe_snoc]
  · rw [pushG_snoc]
    split
    · rw [endLe_snoc]
    · rw [endLe_snoc]
theorem pushJ_eq {acc : List Pr} {n e : Int} (h : EndLe acc n) (he : n ≤ e) : pushJ acc (n, e) = pushG acc n e := by
  rcases snoc_or acc with rfl | ⟨ys, z, rfl⟩
  · rfl
  · rw [endLe_snoc] at h
    rw [pushJ_snoc, pushG_snoc]
    dsimp only
    by_cases hz : z.2 = n
    · rw [if_pos (by omega), if_pos hz, show max z.2 e = e by omega]
    · rw [if_neg (by omega), if_neg hz]
def runI (lo : Int) (n : Nat) : List Int := (List.range n).map fun (i : Nat) => lo + (i : Int)
theorem runI_succ (lo : Int) (n : Nat) : runI lo (n + 1) = runI lo n ++ [lo + (n : Int)] := by
  unfold runI
  rw [List.range_succ, List.map_append]
  rfl
theorem runI_add (lo : Int) (n m : Nat) : runI lo (n + m) = runI lo n ++ runI (lo + (n : Int)) m := by
  unfold runI
  rw [List.range_add, List.map_append, List.map_map]
  congr 1
  refine List.map_congr_left fun i _ => ?_
  simp only [Function.comp_apply]
  omega
theorem mem_runI {lo : Int} {n : Nat} {m : Int} : m ∈ runI lo n ↔ lo ≤ m ∧ m < lo + (n : Int) := by
  unfold runI
  rw [List.mem_map]
  constructor
  · rintro ⟨i, hi, h⟩
    rw [List.mem_range] at hi
    omega
  · rintro ⟨h1, h2⟩
    exact ⟨(m - lo).toNat, List.mem_range.mpr (by omega), by omega⟩
theorem fold_run (lo : Int) : ∀ (n : Nat) (acc : List Pr), (runI lo (n + 1)).foldl pushR acc = pushG acc lo (lo + (n : Int) + 1)
  | 0, acc => by
    rcases snoc_or acc with rfl | ⟨ys, z, rfl⟩
    · simp [runI, pushR, pushG]
    · simp [runI, pushR, pushG]
  | n + 1, acc => by
    rw [runI_succ, List.foldl_append, fold_run lo n acc]
    rcases snoc_or acc with rfl | ⟨ys, z, rfl⟩
    · rw [pushG_nil, pushG_nil]
      simp [pushR]
      omega
    · rw [pushG_snoc, pushG_snoc]
      split
      · rw [List.foldl_cons, List.foldl_nil, pushR_snoc, if_pos (by dsimp only; omega)]
        try simp
        try omega
      · rw [List.foldl_cons, List.foldl_nil, pushR_snoc, if_pos (by dsimp only; omega)]
        try simp
        try omega
theorem units_snd (s : Stp) : (unitsOf s).map (·.2) = runI s.2.1 s.2.2.toNat := by
  unfold unitsOf runI
  rw [List.map_map]
  rfl
theorem units_fst (s : Stp) : (unitsOf s).map (·.1) = runI s.1 s.2.2.toNat := by
  unfold unitsOf runI
  rw [List.map_map]
  rfl
/-- the ranges that a rising stair carries to -/
theorem joined_eq : ∀ (xs : List Stp) (acc : List Pr), Pos1 xs → Rise (U xs) → (∀ p ∈ U xs, EndLe acc p.2) → (xs.map fun s => (s.2.1, s.2.1 + s.2.2)).foldl pushJ acc = ((U xs).map (·.2)).foldl pushR acc
  | [], acc, _, _, _ => rfl
  | s :: xs, acc, h, hr, hE => by
    have hs := h s (by simp)
    rw [U_cons] at hr hE ⊢
    unfold Rise at hr
    rw [List.pairwise_append] at hr
    have m1 : (s.1, s.2.1) ∈ unitsOf s := mem_units.mpr ⟨by dsimp only; omega, by dsimp only; omega, rfl⟩
    have m2 : (s.1 + s.2.2 - 1, s.2.1 + s.2.2 - 1) ∈ unitsOf s := mem_units.mpr ⟨by dsimp only; omega, by dsimp only; omega, by dsimp only; omega⟩
    have e1 := hE _ (List.mem_append_left _ m1)
    dsimp only at e1
    rw [List.map_cons, List.foldl_cons, pushJ_eq e1 (by omega), List.map_append, List.foldl_append, units_snd]
    have e2 := fold_run s.2.1 (s.2.2 - 1).toNat acc
    rw [show (s.2.2 - 1).toNat + 1 = s.2.2.toNat by omega, show s.2.1 + (((s.2.2 - 1).toNat : Nat) : Int) + 1 = s.2.1 + s.2.2 by omega] at e2
    rw [e2]
    refine joined_eq xs _ (fun t ht => h t (by simp [ht])) hr.2.1 fun p hp => ?_
    rw [endLe_pushG]
    have q := hr.2.2 _ m2 p hp
    dsimp only at q
    omega
/-- the gaps -/
def gapS (st : List Pr × Int) (s : Stp) : List Pr × Int := (if st.2 < s.1 then st.1 ++ [(st.2, s.1)] else st.1, s.1 + s.2.2)
def gapE (st : List Pr × Int) (b : Int) : List Pr := st.1 ++ if st.2 < b then [(st.2, b)] else []
def EndLt (acc : List Pr) (m : Int) : Prop := ∀ z, acc.getLast? = some z → z.2 < m
theorem pushG_lt {acc : List Pr} {n e : Int} (h : EndLt acc n) : pushG acc n e = acc ++ [(n, e)] := by
  rcases snoc_or acc with rfl | ⟨ys, z, rfl⟩
  · rfl
  · have : z.2 < n := h z (by simp)
    rw [pushG_snoc, if_neg (by omega)]
theorem fold_gap {acc : List Pr} {lo hi : Int} (h : EndLt acc lo) (hh : lo ≤ hi) : (runI lo (hi - lo).toNat).foldl pushR acc = if lo < hi then acc ++ [(lo, hi)] else acc := by
  by_cases e : lo < hi
  · rw [if_pos e]
    have q := fold_run lo (hi - lo - 1).toNat acc
    rw [show (hi - lo - 1).toNat + 1 = (hi - lo).toNat by omega, show lo + (((hi - lo - 1).toNat : Nat) : Int) + 1 = hi by omega] at q
    rw [q, pushG_lt h]
  · rw [if_neg e, show (hi - lo).toNat = 0 by omega]
    rfl
theorem gaps_eq (hi : Int) : ∀ (xs : List Stp) (acc : List Pr) (here : Int), Pos1 xs → Rise (U xs) → (∀ p ∈ U xs, here ≤ p.1 ∧ p.1 < hi) → here ≤ hi → EndLt acc here →
    ((runI here (hi - here).toNat).filter fun m => decide (m ∉ (U xs).map (·.1))).foldl pushR acc = gapE (xs.foldl gapS (acc, here)) hi
  | [], acc, here, _, _, _, hh, hE => by
    rw [U_nil]
    rw [List.filter_eq_self.mpr (fun m _ => by simp), List.foldl_nil, fold_gap hE hh]
    unfold gapE
    dsimp only
    split <;> simp
  | s :: xs, acc, here, h, hr, hI, hh, hE => by
    have hs := h s (by simp)
    rw [U_cons] at hr hI ⊢
    unfold Rise at hr
    rw [List.pairwise_append] at hr
    have m1 : (s.1, s.2.1) ∈ unitsOf s := mem_units.mpr ⟨by dsimp only; omega, by dsimp only; omega, rfl⟩
    have m2 : (s.1 + s.2.2 - 1, s.2.1 + s.2.2 - 1) ∈ unitsOf s := mem_units.mpr ⟨by dsimp only; omega, by dsimp only; omega, by dsimp only; omega⟩
    have i1 := hI _ (List.mem_append_left _ m1)
    have i2 := hI _ (List.mem_append_left _ m2)
    dsimp only at i1 i2
    rw [show (hi - here).toNat = (s.1 - here).toNat + (s.2.2.toNat + (hi - (s.1 + s.2.2)).toNat) by omega, runI_add, runI_add, List.filter_append, List.filter_append]
    rw [show here + ((s.1 - here).toNat : Int) = s.1 by omega, show s.1 + (s.2.2.toNat : Int) = s.1 + s.2.2 by omega]
    have f1 : ((runI here (s.1 - here).toNat).filter fun m => decide (m ∉ (unitsOf s ++ U xs).map (·.1))) = runI here (s.1 - here).toNat := by
      rw [List.filter_eq_self]
      intro m hm
      rw [mem_runI] at hm
      rw [decide_eq_true_iff, List.mem_map]
      rintro ⟨p, hp, rfl⟩
      rcases List.mem_append.mp hp with hp | hp
      · rw [mem_units] at hp
        omega
      · have := (hr.2.2 _ m1 p hp).1
        dsimp only at this
        omega
    have f2 : ((runI s.1 s.2.2.toNat).filter fun m => decide (m ∉ (unitsOf s ++ U xs).map (·.1))) = [] := by
      rw [List.filter_eq_nil_iff]
      intro m hm
      rw [decide_eq_true_iff, Classical.not_not, List.map_append]
      refine List.mem_append_left _ ?_
      rw [units_fst]
      exact hm
    have f3 : ((runI (s.1 + s.2.2) (hi - (s.1 + s.2.2)).toNat).filter fun m => decide (m ∉ (unitsOf s ++ U xs).map (·.1))) = ((runI (s.1 + s.2.2) (hi - (s.1 + s.2.2)).toNat).filter fun m => decide (m ∉ (U xs).map (·.1))) := by
      refine List.filter_congr fun m hm => ?_
      rw [mem_runI] at hm
      rw [decide_eq_decide, List.map_append, List.mem_append, units_fst, mem_runI]
      constructor
      · exact fun h1 h2 => h1 (.inr h2)
      · rintro h1 (h2 | h2)
        · omega
        · exact h1 h2
    rw [f1, f2, f3, List.nil_append, List.foldl_append, fold_gap hE i1.1, List.foldl_cons]
    have e3 : gapS (acc, here) s = (if here < s.1 then acc ++ [(here, s.1)] else acc, s.1 + s.2.2) := rfl
    rw [e3]
    refine gaps_eq hi xs _ _ (fun t ht => h t (by simp [ht])) hr.2.1 (fun p hp => ⟨?_, (hI p (List.mem_append_right _ hp)).2⟩) (by omega) fun z hz => ?_
    · have := (hr.2.2 _ m2 p hp).1
      dsimp only at this
      omega
    · split at hz
      · simp at hz
        rw [← hz]
        dsimp only
        omega
      · have := hE z hz
        omega
end Stairs


set_option linter.all false
/-! StMore: the mathematics of back, then, both. -/
namespace Stairs
def swp (s : Stp) : Stp := (s.2.1, s.1, s.2.2)
def sw (p : Int × Int) : Int × Int := (p.2, p.1)
theorem foldl_flat {α β : Type} (g : α → List β) : ∀ (xs : List α) (acc : List β), xs.foldl (fun acc t => acc ++ g t) acc = acc ++ xs.flatMap g
  | [], acc => by simp
  | x :: xs, acc => by rw [List.foldl_cons, foldl_flat g xs]; simp
theorem foldl_clip (s : List Stp) (a b : Int) : s.foldl (fun acc t => acc ++ clip t a b) [] = cutS s a b := by
  rw [foldl_flat]
  rfl
theorem units_swp (s : Stp) : unitsOf (swp s) = (unitsOf s).map sw := by
  unfold unitsOf swp sw
  rw [List.map_map]
  rfl
theorem U_swp : ∀ xs : List Stp, U (xs.map swp) = (U xs).map sw
  | [] => rfl
  | s :: xs => by rw [List.map_cons, U_cons, U_cons, units_swp, U_swp xs, List.map_append]
theorem pos_swp {xs : List Stp} (h : Pos1 xs) : Pos1 (xs.map swp) := fun s hs => by
  obtain ⟨t, ht, rfl⟩ := List.mem_map.mp hs
  exact h t ht
theorem rise_sw {ps : List (Int × Int)} (h : Rise ps) : Rise (ps.map sw) := List.pairwise_map.mpr (h.imp fun h => ⟨h.2, h.1⟩)
theorem U_flat {α : Type} (g : α → List Stp) : ∀ xs : List α, U (xs.flatMap g) = xs.flatMap fun x => U (g x)
  | [] => rfl
  | x :: xs => by rw [List.flatMap_cons, U_append, U_flat g xs, List.flatMap_cons]
theorem U_eq (xs : List Stp) : U xs = xs.flatMap unitsOf := rfl
theorem mem_U {xs : List Stp} {p : Int × Int} : p ∈ U xs ↔ ∃ s ∈ xs, p ∈ unitsOf s := by
  unfold U
  rw [List.mem_flatMap]
theorem pos_flat {α : Type} {g : α → List Stp} (h : ∀ x, Pos1 (g x)) (xs : List α) : Pos1 (xs.flatMap g) := fun s hs => by
  obtain ⟨x, _, h2⟩ := List.mem_flatMap.mp hs
  exact h x s h2
theorem filter_rise {ps : List (Int × Int)} (h : Rise ps) (f : Int × Int → Bool) : Rise (ps.filter f) := List.Pairwise.filter _ h
theorem rise_of_sub {xs ys : List Stp} (h : Rise (U (xs ++ ys))) : Rise (U xs) ∧ Rise (U ys) := by
  rw [U_append] at h
  exact ⟨(List.pairwise_append.mp h).1, (List.pairwise_append.mp h).2.1⟩
/-! ### both -/
def both1 (s t : Stp) : List Stp := if t.2.1 - t.1 = s.2.1 - s.1 then clip t s.1 (s.1 + s.2.2) else []
def bothS (S T : List Stp) : List Stp := S.flatMap fun s => T.flatMap fun t => both1 s t
theorem pos_both1 (s t : Stp) : Pos1 (both1 s t) := by
  unfold both1
  split
  · exact pos_clip _ _ _
  · exact pos_nil
theorem U_both1 (s t : Stp) : U (both1 s t) = (unitsOf t).filter fun p => decide (p ∈ unitsOf s) := by
  unfold both1
  split
  · rename_i h
    rw [U_clip]
    refine List.filter_congr fun p hp => ?_
    have h1 := mem_units.mp hp
    unfold inR
    rw [decide_eq_decide, mem_units]
    omega
  · rename_i h
    rw [U_nil]
    symm
    rw [List.filter_eq_nil_iff]
    intro p hp
    have h1 := mem_units.mp hp
    rw [decide_eq_true_iff, mem_units]
    omega
theorem filter_flat {α β : Type} (f : β → Bool) (g : α → List β) : ∀ xs : List α, (xs.flatMap g).filter f = xs.flatMap fun x => (g x).filter f
  | [] => rfl
  | x :: xs => by rw [List.flatMap_cons, List.filter_append, filter_flat f g xs, List.flatMap_cons]
theorem U_bothS1 (s : Stp) (T : List Stp) : U (T.flatMap fun t => both1 s t) = (U T).filter fun p => decide (p ∈ unitsOf s) := by
  rw [U_flat, U_eq T, filter_flat]
  congr 1
  funext t
  exact U_both1 s t
theorem filter_swap {ps qs : List (Int × Int)} (hp : Rise ps) (hq : Rise qs) : (qs.filter fun p => decide (p ∈ ps)) = ps.filter fun p => decide (p ∈ qs) := by
  refine sorted_ext (filter_rise hq _).fst (filter_rise hp _).fst fun p => ?_
  simp only [List.mem_filter, decide_eq_true_eq]
  exact ⟨fun h => ⟨h.2, h.1⟩, fun h => ⟨h.2, h.1⟩⟩
theorem U_both {S T : List Stp} (hT : Rise (U T)) : U (bothS S T) = (U S).filter fun p => decide (p ∈ U T) := by
  unfold bothS
  rw [U_flat, U_eq S, filter_flat]
  congr 1
  funext s
  rw [U_bothS1, filter_swap (rise_units s) hT]
theorem pos_both (S T : List Stp) : Pos1 (bothS S T) := pos_flat (fun s => pos_flat (fun t => pos_both1 s t) T) S
theorem both1_len (s t : Stp) : (both1 s t).length ≤ 1 := by
  unfold both1
  split
  · exact clip_len _ _ _
  · simp
theorem flat_len {α β : Type} {g : α → List β} {k : Nat} : ∀ {xs : List α}, (∀ x ∈ xs, (g x).length ≤ k) → (xs.flatMap g).length ≤ xs.length * k
  | [], _ => by simp
  | x :: xs, h => by
    have h1 := h x (List.mem_cons_self ..)
    have h2 := flat_len (g := g) (xs := xs) fun y hy => h y (List.mem_cons_of_mem _ hy)
    rw [List.flatMap_cons, List.length_append, List.length_cons, Nat.add_mul]
    omega
theorem both_len (S T : List Stp) : (bothS S T).length ≤ S.length * T.length := by
  unfold bothS
  refine flat_len fun s _ => ?_
  have := flat_len (g := fun t => both1 s t) (k := 1) (xs := T) fun t _ => both1_len s t
  omega
/-! ### then -/
def then1 (s t : Stp) : List Stp := (clip t s.2.1 (s.2.1 + s.2.2)).map fun c => (s.1 + c.1 - s.2.1, c.2.1, c.2.2)
def thenS (S T : List Stp) : List Stp := S.flatMap fun s => T.flatMap fun t => then1 s t
/-- pairs put together -/
def thenU (ps qs : List (Int × Int)) : List (Int × Int) := ps.filterMap fun p => (qs.find? fun q => decide (q.1 = p.2)).map fun q => (p.1, q.2)
/-! ### stairs: what is known of one in one form -/
structure Stair (S : List Stp) (ps : List (Int × Int)) : Prop where
  u : U S = ps
  pos : Pos1 S
  rise : Rise ps
  one : oneForm S = S
theorem stair_rows {rows : List Stp} (hp : Pos1 rows) (hr : Rise (U rows)) : Stair (oneForm rows) (U rows) := ⟨U_oneForm hp, pos_oneForm hp, hr, oneForm_oneForm hp⟩
theorem Stair.form {S : List Stp} {ps : List (Int × Int)} (h : Stair S ps) : oneForm (ps.map u1) = S := by rw [← h.u, oneForm_units h.pos, h.one]
theorem Stair.eq {S T : List Stp} {ps qs : List (Int × Int)} (h : Stair S ps) (k : Stair T qs) : S = T ↔ ps = qs := by
  constructor
  · rintro rfl
    rw [← h.u, k.u]
  · rintro rfl
    rw [← h.form, ← k.form]
theorem Stair.both {S T : List Stp} {ps qs : List (Int × Int)} (h : Stair S ps) (k : Stair T qs) : Stair (oneForm (bothS S T)) (ps.filter fun p => decide (p ∈ qs)) := by
  have hT : Rise (U T) := by rw [k.u]; exact k.rise
  refine ⟨?_, pos_oneForm (pos_both S T), filter_rise h.rise _, oneForm_oneForm (pos_both S T)⟩
  rw [U_oneForm (pos_both S T), U_both hT, h.u, k.u]
theorem Stair.back {S : List Stp} {ps : List (Int × Int)} (h : Stair S ps) : Stair (oneForm (S.map swp)) (ps.map sw) := by
  have hp := pos_swp h.pos
  refine ⟨by rw [U_oneForm hp, U_swp, h.u], pos_oneForm hp, rise_sw h.rise, oneForm_oneForm hp⟩
theorem Stair.lim {S : List Stp} {ps : List (Int × Int)} (h : Stair S ps) (a b : Int) : Stair (Stairs.lim S a b) (ps.filter (inR a b)) :=
  ⟨by rw [U_lim, h.u], pos_lim S a b, filter_rise h.rise _, oneForm_oneForm (pos_cut S a b)⟩
theorem Stair.len {S : List Stp} {ps : List (Int × Int)} (h : Stair S ps) : S.length ≤ ps.length := by rw [← h.u]; exact len_U h.pos
theorem Rise.snd {ps : List (Int × Int)} (h : Rise ps) : ps.Pairwise (fun p q => p.2 < q.2) := List.Pairwise.imp (fun h => h.2) h
theorem rise_fst_inj {ps : List (Int × Int)} (h : Rise ps) {p q : Int × Int} (hp : p ∈ ps) (hq : q ∈ ps) (e : p.1 = q.1) : p = q := by
  induction ps with
  | nil => cases hp
  | cons r ps ih =>
    have h' := List.pairwise_cons.mp h
    rcases List.mem_cons.mp hp with e1 | h1 <;> rcases List.mem_cons.mp hq with e2 | h2
    · rw [e1, e2]
    · have := (h'.1 q h2).1; rw [e1] at e; omega
    · have := (h'.1 p h1).1; rw [e2] at e; omega
    · exact ih h'.2 h1 h2
/-! ### gaps -/
theorem head_pushR : ∀ (ms : List Int) (acc : List Pr), acc ≠ [] → (ms.foldl pushR acc).head?.map (·.1) = acc.head?.map (·.1)
  | [], acc, _ => rfl
  | m :: ms, acc, h => by
    have h1 : pushR acc m ≠ [] ∧ (pushR acc m).head?.map (·.1) = acc.head?.map (·.1) := by
      rcases snoc_or acc with rfl | ⟨ys, z, rfl⟩
      · exact (h rfl).elim
      · rw [pushR_snoc]
        split
        · cases ys <;> simp
        · cases ys <;> simp
    rw [List.foldl_cons, head_pushR ms _ h1.1, h1.2]
theorem head_runs (ms : List Int) : (ms.foldl pushR []).head?.map (·.1) = ms.head? := by
  cases ms with
  | nil => rfl
  | cons m ms =>
    rw [List.foldl_cons, pushR_nil, head_pushR ms _ (by simp)]
    rfl
end Stairs


set_option Elab.async false
set_option linter.all false
set_option maxRecDepth 100000
set_option maxHeartbeats 1000000
/-! what the typed functions of stairs come to -/
namespace K11
open PySem PySem.Spec PyProof.Rows L2 Dn Tn Stairs
theorem p_is_integer (i : Int) : t_is_integer i = some true := rfl
theorem p_is_list_l (xs : List Stp) : t_is_list_l xs = some true := rfl
theorem p_is_list_t (xs : List Stp) : t_is_list_t xs = some true := rfl
theorem p_does_rise (a b : Stp) : t_does_rise a b = some (goesUp a b) := by
  unfold t_does_rise goesUp
  rfl
theorem p_is_step {s : Stp} (h : 1 ≤ s.2.2) : t_is_step s = some true := by
  unfold t_is_step
  rw [lcO_map (fun _ => true) (by simp) (fun x _ => by simp [p_is_integer])]
  simp [orO_f, ifO_f, h]
theorem p_does_go_on (a : Stp) (e n : Int) : t_does_go_on a e n = some (decide (a.1 + a.2.2 = e) && decide (a.2.1 + a.2.2 = n)) := by
  unfold t_does_go_on
  rfl
theorem p_one_form_l {xs : List Stp} (h : xs.length ≤ 50000) : t_one_form_l xs = some (oneForm xs) := by
  unfold t_one_form_l
  refine bind_foldN push (fun k s => s.length ≤ k) (by simp) (fun x hx j s hj hs => ?_) fun _ => rfl
  · refine ⟨?_, Nat.le_trans (push_len s x) (by omega)⟩
    rcases snoc_or s with rfl | ⟨ys, z, rfl⟩
    · simp [andO_f, ifO_f, appT_of, push_nil]
    · have hl : ys.length + 1 < 100000 := by simp at hs; omega
      rw [push_snoc]
      by_cases h1 : z.1 + z.2.2 = x.1 <;> by_cases h2 : z.2.1 + z.2.2 = x.2.1 <;> simp [andO_t, p_does_go_on, h1, h2, ifO_t, ifO_f, setT_last, appT, hl]
theorem p_one_form_t {xs : List Stp} (h : xs.length ≤ 50000) : t_one_form_t xs = some (oneForm xs) := by
  unfold t_one_form_t
  refine bind_foldN push (fun k s => s.length ≤ k) (by simp) (fun x hx j s hj hs => ?_) fun _ => rfl
  · refine ⟨?_, Nat.le_trans (push_len s x) (by omega)⟩
    rcases snoc_or s with rfl | ⟨ys, z, rfl⟩
    · simp [andO_f, ifO_f, appT_of, push_nil]
    · have hl : ys.length + 1 < 100000 := by simp at hs; omega
      rw [push_snoc]
      by_cases h1 : z.1 + z.2.2 = x.1 <;> by_cases h2 : z.2.1 + z.2.2 = x.2.1 <;> simp [andO_t, p_does_go_on, h1, h2, ifO_t, ifO_f, setT_last, appT, hl]
theorem steps_at : ∀ {ys : List Stp}, Steps ys → (∀ (i : Nat) (s : Stp), ys[i]? = some s → 1 ≤ s.2.2) ∧ (∀ (i : Nat) (p s : Stp), ys[i]? = some p → ys[i + 1]? = some s → goesUp p s = true)
  | [], _ => ⟨fun i s h => by simp at h, fun i p s h => by simp at h⟩
  | [x], h => ⟨fun i s e => by
      cases i with
      | zero => simp at e; rw [← e]; exact h
      | succ i => simp at e, fun i p s e1 e2 => by simp at e2⟩
  | x :: y :: r, h => by
    obtain ⟨h1, h2, h3⟩ := h
    obtain ⟨a, b⟩ := steps_at (ys := y :: r) h3
    refine ⟨fun i s e => ?_, fun i p s e1 e2 => ?_⟩
    · cases i with
      | zero => simp at e; rw [← e]; exact h1
      | succ i => exact a i s (by simpa using e)
    · cases i with
      | zero => simp at e1 e2; rw [← e1, ← e2]; exact h2
      | succ i => exact b i p s (by simpa using e1) (by simpa using e2)
theorem mem_enumT {α : Type} : ∀ (xs : List α) (k : Nat) (p : Int × α), p ∈ enumT k xs → ∃ i : Nat, xs[i]? = some p.2 ∧ p.1 = ((k + i : Nat) : Int)
  | [], k, p, h => by cases h
  | x :: xs, k, p, h => by
    unfold enumT at h
    rcases List.mem_cons.mp h with rfl | h
    · exact ⟨0, rfl, rfl⟩
    · obtain ⟨i, h1, h2⟩ := mem_enumT xs (k + 1) p h
      exact ⟨i + 1, by simpa using h1, by rw [h2]; congr 1; omega⟩
theorem p_want_steps_l {ys : List Stp} (h : Steps ys) : t_want_steps_l ys = some () := by
  obtain ⟨h1, h2⟩ := steps_at h
  unfold t_want_steps_l
  rw [p_is_list_l, Option.bind_some, Option.bind_some, show (!true) = false from rfl, ifO_f]
  refine bind_foldN (fun _ _ => ()) (fun _ _ => True) trivial (fun p hp j s _ _ => ?_) fun _ => rfl
  · refine ⟨?_, trivial⟩
    obtain ⟨i, e1, e2⟩ := mem_enumT ys 0 p hp
    obtain ⟨pi, ps⟩ := p
    dsimp only at e1 e2
    subst e2
    cases i with
    | zero => simp [p_is_step (h1 0 ps e1), orO_f, andO_f, ifO_f]
    | succ i =>
      have hlt : i < ys.length := by
        have := (List.getElem?_eq_some_iff.mp e1).1
        omega
      have hq : ys[i]? = some ys[i] := List.getElem?_eq_getElem hlt
      have hr : t_does_rise ys[i] ps = some true := by rw [p_does_rise, h2 i _ ps hq e1]
      have e0 : (0 : Int) < (i : Int) + 1 := by omega
      simp [p_is_step (h1 _ ps e1), orO_f, e0, andO_t, hlt, hr, ifO_f]
theorem p_want_steps_t {ys : List Stp} (h : Steps ys) : t_want_steps_t ys = some () := by
  obtain ⟨h1, h2⟩ := steps_at h
  unfold t_want_steps_t
  rw [p_is_list_t, Option.bind_some, Option.bind_some, show (!true) = false from rfl, ifO_f]
  refine bind_foldN (fun _ _ => ()) (fun _ _ => True) trivial (fun p hp j s _ _ => ?_) fun _ => rfl
  · refine ⟨?_, trivial⟩
    obtain ⟨i, e1, e2⟩ := mem_enumT ys 0 p hp
    obtain ⟨pi, ps⟩ := p
    dsimp only at e1 e2
    subst e2
    cases i with
    | zero => simp [p_is_step (h1 0 ps e1), orO_f, andO_f, ifO_f]
    | succ i =>
      have hlt : i < ys.length := by
        have := (List.getElem?_eq_some_iff.mp e1).1
        omega
      have hq : ys[i]? = some ys[i] := List.getElem?_eq_getElem hlt
      have hr : t_does_rise ys[i] ps = some true := by rw [p_does_rise, h2 i _ ps hq e1]
      have e0 : (0 : Int) < (i : Int) + 1 := by omega
      simp [p_is_step (h1 _ ps e1), orO_f, e0, andO_t, hlt, hr, ifO_f]
theorem p_init {ys : List Stp} (h : Steps ys) (hl : ys.length ≤ 60) : t_StairD_initD_l ys = some (oneForm ys) := by
  unfold t_StairD_initD_l
  have : ¬ (60 : Int) < (ys.length : Int) := by omega
  simp [p_want_steps_l h, this, ifO_f, p_one_form_l (xs := ys) (by omega)]
theorem p_initT {ys : List Stp} (h : Steps ys) (hl : ys.length ≤ 60) : t_StairD_initD_t ys = some (oneForm ys) := by
  unfold t_StairD_initD_t
  have : ¬ (60 : Int) < (ys.length : Int) := by omega
  simp [p_want_steps_t h, this, ifO_f, p_one_form_t (xs := ys) (by omega)]
theorem p_steps (s : List Stp) : t_Stair_steps s = some s := rfl
theorem p_eq (s t : List Stp) : t_StairD_eqD_o s t = some (decide (s = t)) := rfl
end K11


set_option Elab.async false
set_option linter.all false
set_option maxRecDepth 100000
/-! StThen: one stair, then another one. -/
namespace Stairs
theorem rise_mono {ps : List (Int × Int)} (h : Rise ps) {p q : Int × Int} (hp : p ∈ ps) (hq : q ∈ ps) (e : p.1 < q.1) : p.2 < q.2 := by
  induction ps with
  | nil => cases hp
  | cons r ps ih =>
    have h' := List.pairwise_cons.mp h
    rcases List.mem_cons.mp hp with e1 | h1 <;> rcases List.mem_cons.mp hq with e2 | h2
    · rw [e1, e2] at e; omega
    · rw [e1]; exact (h'.1 q h2).2
    · have := (h'.1 p h1).1; rw [e2] at e; omega
    · exact ih h'.2 h1 h2
theorem pos_then1 (s t : Stp) : Pos1 (then1 s t) := fun c hc => by
  unfold then1 at hc
  obtain ⟨d, hd, rfl⟩ := List.mem_map.mp hc
  exact pos_clip _ _ _ d hd
theorem mem_then1 {s t : Stp} {p : Int × Int} : p ∈ U (then1 s t) ↔ ∃ y, (p.1, y) ∈ unitsOf s ∧ (y, p.2) ∈ unitsOf t := by
  unfold then1 clip
  obtain ⟨a, b⟩ := p
  split
  · rw [List.map_cons, List.map_nil, U_cons, U_nil, List.append_nil, mem_units]
    dsimp only
    constructor
    · intro h
      refine ⟨a + s.2.1 - s.1, mem_units.mpr ?_, mem_units.mpr ?_⟩ <;> dsimp only <;> omega
    · rintro ⟨y, h1, h2⟩
      have h1 := mem_units.mp h1
      have h2 := mem_units.mp h2
      dsimp only at h1 h2
      omega
  · rw [List.map_nil, U_nil]
    constructor
    · intro h; cases h
    · rintro ⟨y, h1, h2⟩
      have h1 := mem_units.mp h1
      have h2 := mem_units.mp h2
      dsimp only at h1 h2
      omega
theorem mem_thenT {s : Stp} {T : List Stp} {p : Int × Int} : p ∈ U (T.flatMap fun t => then1 s t) ↔ ∃ y, (p.1, y) ∈ unitsOf s ∧ (y, p.2) ∈ U T := by
  rw [U_flat, List.mem_flatMap]
  constructor
  · rintro ⟨t, ht, h⟩
    obtain ⟨y, h1, h2⟩ := mem_then1.mp h
    exact ⟨y, h1, mem_U.mpr ⟨t, ht, h2⟩⟩
  · rintro ⟨y, h1, h2⟩
    obtain ⟨t, ht, h2⟩ := mem_U.mp h2
    exact ⟨t, ht, mem_then1.mpr ⟨y, h1, h2⟩⟩
theorem mem_thenS {S T : List Stp} {p : Int × Int} : p ∈ U (thenS S T) ↔ ∃ y, (p.1, y) ∈ U S ∧ (y, p.2) ∈ U T := by
  unfold thenS
  rw [U_flat, List.mem_flatMap]
  constructor
  · rintro ⟨s, hs, h⟩
    obtain ⟨y, h1, h2⟩ := mem_thenT.mp h
    exact ⟨y, mem_U.mpr ⟨s, hs, h1⟩, h2⟩
  · rintro ⟨y, h1, h2⟩
    obtain ⟨s, hs, h1⟩ := mem_U.mp h1
    exact ⟨s, hs, mem_thenT.mpr ⟨y, h1, h2⟩⟩
theorem rise_then1 (s t : Stp) : Rise (U (then1 s t)) := by
  unfold then1 clip
  split
  · rw [List.map_cons, List.map_nil, U_cons, U_nil, List.append_nil]
    exact rise_units _
  · rw [List.map_nil, U_nil]
    exact List.Pairwise.nil
theorem rise_thenT (s : Stp) : ∀ {T : List Stp}, Rise (U T) → Rise (U (T.flatMap fun t => then1 s t))
  | [], _ => by rw [List.flatMap_nil, U_nil]; exact List.Pairwise.nil
  | t :: T, h => by
    rw [U_cons] at h
    have h' := List.pairwise_append.mp h
    rw [List.flatMap_cons, U_append]
    refine List.pairwise_append.mpr ⟨rise_then1 s t, rise_thenT s h'.2.1, fun p hp q hq => ?_⟩
    obtain ⟨y, h1, h2⟩ := mem_then1.mp hp
    obtain ⟨z, h3, h4⟩ := mem_thenT.mp hq
    have := h'.2.2 _ h2 _ h4
    have h1 := mem_units.mp h1
    have h3 := mem_units.mp h3
    dsimp only at this h1 h3
    omega
theorem rise_thenS {T : List Stp} (hT : Rise (U T)) : ∀ {S : List Stp}, Rise (U S) → Rise (U (thenS S T))
  | [], _ => by unfold thenS; rw [List.flatMap_nil, U_nil]; exact List.Pairwise.nil
  | s :: S, h => by
    rw [U_cons] at h
    have h' := List.pairwise_append.mp h
    have ih := rise_thenS hT h'.2.1
    unfold thenS at ih ⊢
    rw [List.flatMap_cons, U_append]
    refine List.pairwise_append.mpr ⟨rise_thenT s hT, ih, fun p hp q hq => ?_⟩
    obtain ⟨y, h1, h2⟩ := mem_thenT.mp hp
    obtain ⟨z, h3, h4⟩ := mem_thenS.mp hq
    have := h'.2.2 _ h1 _ h3
    have h5 := rise_mono hT h2 h4 this.2
    exact ⟨this.1, h5⟩
theorem pos_then (S T : List Stp) : Pos1 (thenS S T) := pos_flat (fun s => pos_flat (fun t => pos_then1 s t) T) S
theorem then1_len (s t : Stp) : (then1 s t).length ≤ 1 := by
  unfold then1
  rw [List.length_map]
  exact clip_len _ _ _
theorem then_len (S T : List Stp) : (thenS S T).length ≤ S.length * T.length := by
  unfold thenS
  refine flat_len fun s _ => ?_
  have := flat_len (g := fun t => then1 s t) (k := 1) (xs := T) fun t _ => then1_len s t
  omega
theorem find_key {qs : List (Int × Int)} (h : Rise qs) {m : Int} {q : Int × Int} : qs.find? (fun q => decide (q.1 = m)) = some q ↔ q ∈ qs ∧ q.1 = m := by
  constructor
  · intro e
    have := List.find?_some e
    exact ⟨List.mem_of_find?_eq_some e, by simpa using this⟩
  · rintro ⟨h1, h2⟩
    cases e : qs.find? (fun q => decide (q.1 = m)) with
    | none =>
      have := List.find?_eq_none.mp e q h1
      simp [h2] at this
    | some r =>
      have h3 := List.mem_of_find?_eq_some e
      have h4 := List.find?_some e
      have h4 : r.1 = m := by simpa using h4
      rw [rise_fst_inj h h3 h1 (by omega)]
theorem mem_thenU {ps qs : List (Int × Int)} (hq : Rise qs) {p : Int × Int} : p ∈ thenU ps qs ↔ ∃ y, (p.1, y) ∈ ps ∧ (y, p.2) ∈ qs := by
  unfold thenU
  rw [List.mem_filterMap]
  constructor
  · rintro ⟨r, hr, e⟩
    obtain ⟨q, e1, e2⟩ := Option.map_eq_some_iff.mp e
    obtain ⟨h1, h2⟩ := (find_key hq).mp e1
    subst e2
    exact ⟨r.2, hr, by rw [← h2]; exact h1⟩
  · rintro ⟨y, h1, h2⟩
    exact ⟨_, h1, by rw [(find_key hq).mpr ⟨h2, rfl⟩]; rfl⟩
theorem rise_thenU {ps qs : List (Int × Int)} (hp : Rise ps) (hq : Rise qs) : Rise (thenU ps qs) := by
  unfold thenU
  refine List.Pairwise.filterMap _ (fun a a' ha b hb b' hb' => ?_) hp
  obtain ⟨q, e1, e2⟩ := Option.map_eq_some_iff.mp hb
  obtain ⟨q', e1', e2'⟩ := Option.map_eq_some_iff.mp hb'
  obtain ⟨h1, h2⟩ := (find_key hq).mp e1
  obtain ⟨h1', h2'⟩ := (find_key hq).mp e1'
  subst e2 e2'
  have h5 := rise_mono hq h1 h1' (by rw [h2, h2']; exact ha.2)
  exact ⟨ha.1, h5⟩
theorem U_then {S T : List Stp} (hS : Rise (U S)) (hT : Rise (U T)) : U (thenS S T) = thenU (U S) (U T) := by
  refine sorted_ext (rise_thenS hT hS).fst (rise_thenU hS hT).fst fun p => ?_
  rw [mem_thenS, mem_thenU hT]
theorem Stair.thn {S T : List Stp} {ps qs : List (Int × Int)} (h : Stair S ps) (k : Stair T qs) : Stair (oneForm (thenS S T)) (thenU ps qs) := by
  have hS : Rise (U S) := by rw [h.u]; exact h.rise
  have hT : Rise (U T) := by rw [k.u]; exact k.rise
  refine ⟨?_, pos_oneForm (pos_then S T), rise_thenU h.rise k.rise, oneForm_oneForm (pos_then S T)⟩
  rw [U_oneForm (pos_then S T), U_then hS hT, h.u, k.u]
theorem rise_ext {ps qs : List (Int × Int)} (hp : Rise ps) (hq : Rise qs) (h : ∀ p, p ∈ ps ↔ p ∈ qs) : ps = qs := sorted_ext hp.fst hq.fst h
theorem mem_sw {ps : List (Int × Int)} {p : Int × Int} : p ∈ ps.map sw ↔ (p.2, p.1) ∈ ps := by
  rw [List.mem_map]
  constructor
  · rintro ⟨q, hq, rfl⟩; exact hq
  · intro h; exact ⟨_, h, rfl⟩
/-- back of two put together -/
theorem then_sw {ps qs : List (Int × Int)} (hp : Rise ps) (hq : Rise qs) : (thenU ps qs).map sw = thenU (qs.map sw) (ps.map sw) := by
  refine rise_ext (rise_sw (rise_thenU hp hq)) (rise_thenU (rise_sw hq) (rise_sw hp)) fun p => ?_
  rw [mem_sw, mem_thenU hq, mem_thenU (rise_sw hp)]
  constructor
  · rintro ⟨y, h1, h2⟩; exact ⟨y, mem_sw.mpr h2, mem_sw.mpr h1⟩
  · rintro ⟨y, h1, h2⟩; exact ⟨y, mem_sw.mp h2, mem_sw.mp h1⟩
theorem then_assoc {ps qs rs : List (Int × Int)} (hp : Rise ps) (hq : Rise qs) (hr : Rise rs) : thenU (thenU ps qs) rs = thenU ps (thenU qs rs) := by
  refine rise_ext (rise_thenU (rise_thenU hp hq) hr) (rise_thenU hp (rise_thenU hq hr)) fun p => ?_
  rw [mem_thenU hr, mem_thenU (rise_thenU hq hr)]
  constructor
  · rintro ⟨y, h1, h2⟩
    obtain ⟨z, h3, h4⟩ := (mem_thenU hq).mp h1
    exact ⟨z, h3, (mem_thenU hr).mpr ⟨y, h4, h2⟩⟩
  · rintro ⟨y, h1, h2⟩
    obtain ⟨z, h3, h4⟩ := (mem_thenU hr).mp h2
    exact ⟨z, (mem_thenU hq).mpr ⟨y, h1, h3⟩, h4⟩
/-- a stair and then its back stay on the kept marks -/
theorem then_back {ps : List (Int × Int)} (hp : Rise ps) : thenU ps (ps.map sw) = ps.map fun p => (p.1, p.1) := by
  have h2 : Rise (ps.map fun p => (p.1, p.1)) := List.pairwise_map.mpr (hp.imp fun h => ⟨h.1, h.1⟩)
  refine rise_ext (rise_thenU hp (rise_sw hp)) h2 fun p => ?_
  rw [mem_thenU (rise_sw hp), List.mem_map]
  constructor
  · rintro ⟨y, h1, h3⟩
    have h3 := mem_sw.mp h3
    have h4 : (y, p.1) ∈ ps.map sw := mem_sw.mpr h1
    have h5 : (y, p.2) ∈ ps.map sw := mem_sw.mpr h3
    have := rise_fst_inj (rise_sw hp) h4 h5 rfl
    exact ⟨_, h1, Prod.ext rfl (congrArg (·.2) this)⟩
  · rintro ⟨q, hq, rfl⟩
    exact ⟨q.2, hq, mem_sw.mpr hq⟩
end Stairs


set_option Elab.async false
set_option linter.all false
set_option maxRecDepth 100000
/-! TnRepr: what can be shown. -/
namespace Tn
open PySem PySem.Spec PyProof.Rows L2 Dn
theorem str_app_len (a b : Str) : (a ++ b).length = a.length + b.length := by
  show (Str.append a b).length = _
  first | exact Str.length_append a b | simp [Str.length, Str.append]
theorem textFrom_le : ∀ (ts : List Str) (k : Nat) (acc : Str), (textFrom k acc ts).length ≤ acc.length + (ts.map fun t => t.length + 2).sum
  | [], k, acc => by show acc.length ≤ _; simp
  | t :: r, k, acc => by
    have h := textFrom_le r (k + 1) (acc ++ (if k > 0 then ", " else "" : String) ++ t)
    have e : (textFrom k acc (t :: r)) = textFrom (k + 1) (acc ++ (if k > 0 then ", " else "" : String) ++ t) r := rfl
    rw [e]
    rw [str_app_len, str_app_len] at h
    have h2 : (Str.ofString (if k > 0 then ", " else "" : String)).length ≤ 2 := by split <;> decide
    rw [List.map_cons, List.sum_cons]
    omega
structure RP (p : PyData) (n k : Nat) : Prop where
  sh : p.showable = true
  nd : p.hasDict = false
  dp : p.depth ≤ k
  ln : p.shown.length ≤ n
def Shw (d : D) (n k : Nat) : Prop := ∃ p, toPg (fun _ => none) d = some p ∧ RP p n k
theorem Shw.text {d : D} {n k : Nat} (h : Shw d n k) (hn : n ≤ 100000 := by decide) (hk : k ≤ 60 := by decide) : ∃ t, reprD d = some t := by
  obtain ⟨p, e, r⟩ := h
  refine ⟨p.shown, ?_⟩
  unfold reprD
  rw [e]
  dsimp only
  rw [if_pos]
  unfold okRep
  have h1 := r.dp
  have h2 := r.ln
  simp [r.sh, r.nd]
  omega
theorem Shw.up {d : D} {n k n' k' : Nat} (h : Shw d n k) (hn : n ≤ n') (hk : k ≤ k') : Shw d n' k' := by
  obtain ⟨p, e, r⟩ := h
  exact ⟨p, e, r.sh, r.nd, Nat.le_trans r.dp hk, Nat.le_trans r.ln hn⟩
theorem shw_non : Shw .non 4 0 := ⟨.none, rfl, rfl, rfl, by simp [PyData.depth], by decide⟩
theorem shw_bl (b : Bool) : Shw (.bl b) 5 0 := ⟨.bool b, rfl, rfl, rfl, by simp [PyData.depth], by cases b <;> decide⟩
theorem shw_int {i : Int} (h : i.natAbs.log2 < 1920) : Shw (.int i) 1921 0 := ⟨.int i, rfl, decide_eq_true h, rfl, by simp [PyData.depth], int_text_len_1921 h⟩
theorem shw_intS {i : Int} (k : Nat) (hk : 0 < k) (h : i.natAbs < 10 ^ k) (h2 : i.natAbs.log2 < 1920) : Shw (.int i) (k + 1) 0 := ⟨.int i, rfl, decide_eq_true h2, rfl, by simp [PyData.depth], by
  have := int_text_length_le10 hk h
  show (Str.ofString (toString i)).length ≤ k + 1
  rw [PySem.ofString_length]
  exact this⟩
theorem sum_le {α : Type} {g : α → Nat} {n : Nat} : ∀ {xs : List α}, (∀ x ∈ xs, g x ≤ n) → (xs.map g).sum ≤ xs.length * n
  | [], _ => by simp
  | x :: xs, h => by
    have h1 := h x (List.mem_cons_self ..)
    have h2 := sum_le (g := g) (xs := xs) fun y hy => h y (List.mem_cons_of_mem _ hy)
    rw [List.map_cons, List.sum_cons, List.length_cons, Nat.add_mul]
    omega
theorem shownAll_map : ∀ ps : List PyData, PyData.shownAll ps = ps.map PyData.shown
  | [] => rfl
  | p :: ps => by unfold PyData.shownAll; rw [shownAll_map ps]; rfl
theorem rp_all {ps : List PyData} {n k : Nat} (h : ∀ p ∈ ps, RP p n k) : PyData.showableAll ps = true ∧ PyData.hasDictAll ps = false ∧ PyData.depthAll ps ≤ k := by
  induction ps with
  | nil => exact ⟨rfl, rfl, Nat.zero_le _⟩
  | cons p ps ih =>
    obtain ⟨h1, h2, h3⟩ := ih fun q hq => h q (List.mem_cons_of_mem _ hq)
    have h0 := h p (List.mem_cons_self ..)
    refine ⟨?_, ?_, ?_⟩
    · unfold PyData.showableAll; rw [h0.sh, h1]; rfl
    · unfold PyData.hasDictAll; rw [h0.nd, h2]; rfl
    · unfold PyData.depthAll; exact Nat.max_le.mpr ⟨h0.dp, h3⟩
theorem rp_list {ps : List PyData} {n k : Nat} (h : ∀ p ∈ ps, RP p n k) : RP (.list ps) (2 + ps.length * (n + 2)) (k + 1) := by
  obtain ⟨h1, h2, h3⟩ := rp_all h
  refine ⟨h1, h2, by unfold PyData.depth; omega, ?_⟩
  show (listText (PyData.shownAll ps)).length ≤ _
  rw [shownAll_map]
  unfold listText
  rw [str_app_len]
  have e := textFrom_le (ps.map PyData.shown) 0 "["
  rw [List.map_map] at e
  have e2 := sum_le (g := (fun t : Str => t.length + 2) ∘ PyData.shown) (n := n + 2) (xs := ps) fun p hp => by
    have := (h p hp).ln
    show p.shown.length + 2 ≤ n + 2
    omega
  have z1 : (Str.ofString "[").length = 1 := by decide
  have z2 : (Str.ofString "]").length = 1 := by decide
  omega
theorem piled_sum : ∀ ts : List Str, piled ts = (ts.map fun t => t.length + 2).sum
  | [] => rfl
  | t :: ts => by
    rw [List.map_cons, List.sum_cons, ← piled_sum ts]
    first | rfl | simp [piled] | (unfold piled; omega)
theorem rp_tuple {ps : List PyData} {n k : Nat} (h : ∀ p ∈ ps, RP p n k) : RP (.tuple ps) (3 + ps.length * (n + 2)) (k + 1) := by
  obtain ⟨h1, h2, h3⟩ := rp_all h
  refine ⟨h1, h2, by unfold PyData.depth; omega, ?_⟩
  show (tupleText (PyData.shownAll ps)).length ≤ _
  rw [shownAll_map]
  unfold tupleText
  rw [str_app_len, str_app_len]
  have e2 := sum_le (g := (fun t : Str => t.length + 2) ∘ PyData.shown) (n := n + 2) (xs := ps) fun p hp => by
    have := (h p hp).ln
    show p.shown.length + 2 ≤ n + 2
    omega
  have z1 : (Str.ofString "(").length = 1 := by decide
  have z2 : (Str.ofString (if (ps.map PyData.shown).length == 1 then ",)" else ")" : String)).length ≤ 2 := by split <;> decide
  have z3 : (Str.join ", " (ps.map PyData.shown)).length ≤ ps.length * (n + 2) := by
    cases ps with
    | nil => exact Nat.le_trans (by decide : (Str.join ", " ([] : List Str)).length ≤ 0) (Nat.zero_le _)
    | cons p ps =>
      have z := join_length_add ((p :: ps).map PyData.shown) (by simp)
      rw [piled_sum, List.map_map] at z
      omega
  omega
variable {α β γ : Type} {e : α → D}
theorem shw_L {xs : List α} {n k : Nat} (h : ∀ x ∈ xs, Shw (e x) n k) : Shw (eL e xs) (2 + xs.length * (n + 2)) (k + 1) := by
  have key : ∀ ys : List α, (∀ x ∈ ys, Shw (e x) n k) → ∃ ps, toPLg (fun _ => none) (ys.map e) = some ps ∧ ps.length = ys.length ∧ ∀ p ∈ ps, RP p n k := by
    intro ys
    induction ys with
    | nil => intro _; exact ⟨[], rfl, rfl, fun p hp => by cases hp⟩
    | cons y ys ih =>
      intro h
      obtain ⟨ps, e1, l1, r1⟩ := ih fun x hx => h x (List.mem_cons_of_mem _ hx)
      obtain ⟨p, e2, r2⟩ := h y (List.mem_cons_self ..)
      refine ⟨p :: ps, ?_, by simp [l1], fun q hq => ?_⟩
      · rw [List.map_cons]
        unfold toPLg
        rw [e2]
        dsimp only
        rw [e1]
      · rcases List.mem_cons.mp hq with rfl | hq
        · exact r2
        · exact r1 q hq
  obtain ⟨ps, e1, l1, r1⟩ := key xs h
  refine ⟨.list ps, ?_, ?_⟩
  · show (toPLg (fun _ => none) (xs.map e)).map PyData.list = _
    rw [e1]
    rfl
  · have := rp_list r1
    rwa [l1] at this
theorem toPL_tup {ds : List D} {n k : Nat} (h : ∀ d ∈ ds, Shw d n k) : Shw (.tup ds) (3 + ds.length * (n + 2)) (k + 1) := by
  have key : ∀ ys : List D, (∀ x ∈ ys, Shw x n k) → ∃ ps, toPLg (fun _ => none) ys = some ps ∧ ps.length = ys.length ∧ ∀ p ∈ ps, RP p n k := by
    intro ys
    induction ys with
    | nil => intro _; exact ⟨[], rfl, rfl, fun p hp => by cases hp⟩
    | cons y ys ih =>
      intro h
      obtain ⟨ps, e1, l1, r1⟩ := ih fun x hx => h x (List.mem_cons_of_mem _ hx)
      obtain ⟨p, e2, r2⟩ := h y (List.mem_cons_self ..)
      refine ⟨p :: ps, ?_, by simp [l1], fun q hq => ?_⟩
      · unfold toPLg
        rw [e2]
        dsimp only
        rw [e1]
      · rcases List.mem_cons.mp hq with rfl | hq
        · exact r2
        · exact r1 q hq
  obtain ⟨ps, e1, l1, r1⟩ := key ds h
  refine ⟨.tuple ps, ?_, ?_⟩
  · show (toPLg (fun _ => none) ds).map PyData.tuple = _
    rw [e1]
    rfl
  · have := rp_tuple r1
    rwa [l1] at this
theorem shw_O {x : Option α} {n k : Nat} (hn : 4 ≤ n) (h : ∀ a, x = some a → Shw (e a) n k) : Shw (eO e x) n k := by
  cases x with
  | none => exact shw_non.up hn (Nat.zero_le _)
  | some a => exact h a rfl
end Tn


set_option Elab.async false
set_option linter.all false
set_option maxRecDepth 100000
set_option maxHeartbeats 1000000
/-! the law's own helpers: draws, steps, marks, forms -/
namespace K11
open PySem PySem.Spec PyProof.Rows L2 Dn Tn Stairs
theorem ok_draw {size : Int} {q : Pot} (hq : PotOk q) (h1 : 0 < size) (h2 : size < 1073741824) : Ok (t_law_draw size q) fun z => (0 ≤ z.1 ∧ z.1 < size) ∧ PotOk z.2 := by
  obtain ⟨d, q', e, a, b, c⟩ := draw_spec hq h1 h2
  exact ⟨(d, q'), e, ⟨a, b⟩, c⟩
/-- rows drawn -/
structure RowsInv (k : Nat) (rows : List Stp) (el nw : Int) : Prop where
  len : rows.length = k
  pos : Pos1 rows
  rise : Rise (U rows)
  lt : ∀ p ∈ U rows, -4 ≤ p.1 ∧ p.1 < el ∧ -4 ≤ p.2 ∧ p.2 < nw
  few : (U rows).length ≤ 4 * k
  lo : -4 ≤ el
  hi : el ≤ 4 + 7 * (k : Int)
  lo2 : -4 ≤ nw
  hi2 : nw ≤ 4 + 6 * (k : Int)
  ends : ∀ s ∈ rows, -4 ≤ s.1 ∧ s.1 + s.2.2 ≤ 1 + 7 * (k : Int) ∧ s.2.2 ≤ 4
theorem RowsInv.step {k : Nat} {rows : List Stp} {el nw sz g h : Int} (r : RowsInv k rows el nw) (hs : 1 ≤ sz) (hs4 : sz ≤ 4) (hg : 0 ≤ g) (hg3 : g ≤ 3) (hh : 0 ≤ h) (hh2 : h ≤ 2) : RowsInv (k + 1) (rows ++ [(el, nw, sz)]) (el + sz + g) (nw + sz + h) := by
  have hlo := r.lo
  have hhi := r.hi
  have hlo2 := r.lo2
  have hhi2 := r.hi2
  have eU : U (rows ++ [(el, nw, sz)]) = U rows ++ unitsOf (el, nw, sz) := by rw [U_append, U_cons, U_nil, List.append_nil]
  refine ⟨by simp [r.len], fun s hs' => ?_, ?_, fun p hp => ?_, ?_, by omega, by push_cast; omega, by omega, by push_cast; omega, fun s hs' => ?_⟩
  · rcases List.mem_append.mp hs' with h1 | h1
    · exact r.pos s h1
    · rw [List.mem_singleton.mp h1]; exact hs
  · rw [eU]
    refine List.pairwise_append.mpr ⟨r.rise, rise_units _, fun p hp q hq => ?_⟩
    have h1 := r.lt p hp
    have h2 := mem_units.mp hq
    dsimp only at h2
    omega
  · rw [eU] at hp
    rcases List.mem_append.mp hp with h1 | h1
    · have h2 := r.lt p h1
      omega
    · have h2 := mem_units.mp h1
      dsimp only at h2
      omega
  · rw [eU, List.length_append]
    have h1 := r.few
    have h2 : (unitsOf (el, nw, sz)).length ≤ 4 := by
      unfold Stairs.unitsOf
      rw [List.length_map, List.length_range]
      dsimp only
      omega
    omega
  · rcases List.mem_append.mp hs' with h1 | h1
    · have h2 := r.ends s h1
      push_cast
      omega
    · rw [List.mem_singleton.mp h1]
      dsimp only
      push_cast
      omega
theorem ix3 {d : Int} (h : 0 ≤ d ∧ d < 4) : ∃ g : Int, L2.atI ([0, 0, 1, 3] : List Int) d = some g ∧ 0 ≤ g ∧ g ≤ 3 := by
  have e : d = 0 ∨ d = 1 ∨ d = 2 ∨ d = 3 := by omega
  rcases e with rfl | rfl | rfl | rfl <;> exact ⟨_, rfl, by decide, by decide⟩
theorem ix2 {d : Int} (h : 0 ≤ d ∧ d < 4) : ∃ g : Int, L2.atI ([0, 0, 1, 2] : List Int) d = some g ∧ 0 ≤ g ∧ g ≤ 2 := by
  have e : d = 0 ∨ d = 1 ∨ d = 2 ∨ d = 3 := by omega
  rcases e with rfl | rfl | rfl | rfl <;> exact ⟨_, rfl, by decide, by decide⟩
theorem ok_steps {q : Pot} (hq : PotOk q) {most : Int} (h1 : 0 ≤ most) (h2 : most ≤ 1000) : Ok (t_law_steps most q) fun z => (∃ (k : Nat) (el nw : Int), (k : Int) ≤ most ∧ RowsInv k z.1 el nw) ∧ PotOk z.2 := by
  unfold t_law_steps
  refine ok_b2 (Q := fun a c => (0 ≤ a ∧ a < 9) ∧ PotOk c) (ok_draw hq (by decide) (by decide)) fun d1 q1 ⟨a1, p1⟩ => ?_
  refine ok_b2 (Q := fun a c => (0 ≤ a ∧ a < 9) ∧ PotOk c) (ok_draw p1 (by decide) (by decide)) fun d2 q2 ⟨a2, p2⟩ => ?_
  refine ok_b2 (Q := fun a c => (0 ≤ a ∧ a < most + 1) ∧ PotOk c) (ok_draw p2 (by omega) (by omega)) fun d3 q3 ⟨a3, p3⟩ => ?_
  refine ok_val (range1_of a3.1 (by omega)) ?_
  refine ok_foldN (fun k s => RowsInv k s.2.2.1 s.1 s.2.1 ∧ PotOk s.2.2.2) ⟨⟨rfl, pos_nil, List.Pairwise.nil, fun p hp => (by cases hp), by simp [U_nil], by dsimp only; omega, by dsimp only; omega, by dsimp only; omega, by dsimp only; omega, fun s hs => (by cases hs)⟩, p3⟩ (fun x hx j s hj hs => ?_) fun s hs => ?_
  · obtain ⟨el, nw, rows, q⟩ := s
    obtain ⟨hR, hq⟩ := hs
    dsimp only at hR hq ⊢
    rw [rangeI_length] at hj
    have hl := hR.len
    refine ok_b2 (Q := fun a c => (0 ≤ a ∧ a < 4) ∧ PotOk c) (ok_draw hq (by decide) (by decide)) fun e1 r1 ⟨b1, u1⟩ => ?_
    refine ok_val (appT_of (by omega)) ?_
    refine ok_b2 (Q := fun a c => (0 ≤ a ∧ a < 4) ∧ PotOk c) (ok_draw u1 (by decide) (by decide)) fun e2 r2 ⟨b2, u2⟩ => ?_
    obtain ⟨g, hg, hg1, hg2⟩ := ix3 b2
    refine ok_val hg (ok_val rfl ?_)
    refine ok_b2 (Q := fun a c => (0 ≤ a ∧ a < 4) ∧ PotOk c) (ok_draw u2 (by decide) (by decide)) fun e3 r3 ⟨b3, u3⟩ => ?_
    obtain ⟨h, hh, hh1, hh2⟩ := ix2 b3
    refine ok_val hh (ok_val rfl (ok_some ?_))
    exact ⟨hR.step (by omega) (by omega) hg1 hg2 hh1 hh2, u3⟩
  · rw [rangeI_length] at hs
    exact ok_some ⟨⟨_, _, _, by omega, hs.1⟩, hs.2⟩
/-! ### marks -/
theorem rise_ne {ps : List (Int × Int)} (h : Rise ps) : ps.Pairwise fun p q => p.1 ≠ q.1 := h.imp fun h => by omega
theorem units_run (s : Stp) : (rangeI 0 s.2.2.toNat).map (fun e5 => (s.1 + e5, s.2.1 + e5)) = unitsOf s := by
  unfold rangeI Stairs.unitsOf
  rw [List.map_map]
  congr 1
  funext i
  simp
theorem p_carry {rows : List Stp} (hp : Pos1 rows) (hr : Rise (U rows)) (hl : (U rows).length ≤ 1000) : t_law_carry rows = some (U rows) := by
  unfold t_law_carry
  have key : ∀ (post pre : List Stp), pre ++ post = rows → foldN (fun (e2 : Int × Int × Int) (s1 : List (Int × Int)) => Option.bind (range1 e2.2.2) fun x3 => Option.bind (lcM (fun (e5 : Int) => true) (fun (e5 : Int) => ((e2.1 + e5), (e2.2.1 + e5))) x3) fun x6 => Option.bind (updT s1 (mergeI [] x6)) fun x8 => some x8) post (U pre) = some (U rows) := by
    intro post
    induction post with
    | nil => intro pre e; rw [List.append_nil] at e; rw [e]; rfl
    | cons s post ih =>
      intro pre e
      have hU : U rows = U pre ++ (unitsOf s ++ U post) := by rw [← e, U_append, U_cons]
      rw [hU] at hr hl
      have hr2 := List.pairwise_append.mp hr
      have hr3 := List.pairwise_append.mp hr2.2.1
      rw [List.length_append, List.length_append] at hl
      have hpos : 1 ≤ s.2.2 := hp s (by rw [← e]; simp)
      have hlen : (unitsOf s).length = s.2.2.toNat := by unfold Stairs.unitsOf; simp
      rw [foldN_cons, range1_of (by omega) (by omega), Option.bind_some, lcM_map _ (by rw [rangeI_length]; omega), Option.bind_some, units_run, mergeI_new _ _ (rise_ne hr3.1) (fun p hp => by cases hp), List.nil_append,
        updT_of (by omega), mergeI_new _ _ (rise_ne hr3.1) (fun p hp q hq => by
          have := hr2.2.2 p hp q (List.mem_append_left _ hq)
          omega)]
      rw [Option.bind_some, Option.bind_some]
      have := ih (pre ++ [s]) (by rw [List.append_assoc]; exact e)
      rw [U_append, U_cons, U_nil, List.append_nil] at this
      exact this
  have := key rows [] rfl
  rw [U_nil] at this
  rw [this]
  rfl
theorem sortI_id : ∀ {ns : List Int}, ns.Pairwise (· < ·) → sortI ns = ns := fun {ns} h => sorted_unique (sortI_perm ns) (sortI_le ns) (h.imp fun h => Int.le_of_lt h)
theorem p_form {ps : List (Int × Int)} (hr : Rise ps) (hl : ps.length ≤ 1000) : t_law_form ps = some (oneForm (ps.map u1)) := by
  unfold t_law_form
  have hs : sortBT ps = some (ps.map (·.1)) := by
    unfold sortBT
    rw [if_pos (by omega), sortI_id (List.pairwise_map.mpr (hr.imp fun h => h.1))]
  rw [hs, Option.bind_some]
  refine bind_foldN (fun acc m => push acc (m, (lkI ps m).getD 0, 1)) (fun k s => s.length ≤ k) (by simp) (fun m hm j acc hj hs => ?_) fun _ => ?_
  · refine ⟨?_, Nat.le_trans (push_len acc _) (by omega)⟩
    rw [List.length_map] at hj
    obtain ⟨p, hp, rfl⟩ := List.mem_map.mp hm
    have hk := lkI_mem (rise_ne hr) hp
    rcases snoc_or acc with rfl | ⟨ys, z, rfl⟩
    · simp [andO_f, ifO_f, appT_of, push_nil, hk]
    · have hl : ys.length + 1 < 100000 := by simp at hs; omega
      rw [push_snoc]
      by_cases h1 : z.1 + z.2.2 = p.1 <;> by_cases h2 : z.2.1 + z.2.2 = p.2 <;> simp [andO_t, andO_f, h1, h2, ifO_t, ifO_f, setT_last, appT, hl, hk]
  · have : ∀ (qs : List (Int × Int)) (acc : List Stp), (∀ q ∈ qs, q ∈ ps) → (qs.map (·.1)).foldl (fun acc m => push acc (m, (lkI ps m).getD 0, 1)) acc = (qs.map u1).foldl push acc := by
      intro qs
      induction qs with
      | nil => intro acc _; rfl
      | cons q qs ih =>
        intro acc h
        have hk := lkI_mem (rise_ne hr) (h q (List.mem_cons_self ..))
        rw [List.map_cons, List.map_cons, List.foldl_cons, List.foldl_cons, ih _ fun r hr => h r (List.mem_cons_of_mem _ hr), hk]
        rfl
    rw [this ps [] fun _ h => h]
    rfl
end K11


set_option Elab.async false
set_option linter.all false
set_option maxRecDepth 100000
set_option maxHeartbeats 1000000
/-! stairs of few units near 0: marks, what is shown, what a stair tells -/
namespace K11
open PySem PySem.Spec PyProof.Rows L2 Dn Tn Stairs
/-- near 0 -/
def Near (ps : List (Int × Int)) : Prop := ∀ p ∈ ps, -900 ≤ p.1 ∧ p.1 ≤ 900 ∧ -900 ≤ p.2 ∧ p.2 ≤ 900
structure Few (S : List Stp) (ps : List (Int × Int)) : Prop where
  st : Stair S ps
  few : ps.length ≤ 300
  near : Near ps
theorem Few.len {S : List Stp} {ps : List (Int × Int)} (h : Few S ps) : S.length ≤ 300 := Nat.le_trans h.st.len h.few
theorem sum_units : ∀ {S : List Stp}, Pos1 S → (S.map (·.2.2)).sum = ((U S).length : Int)
  | [], _ => rfl
  | s :: S, h => by
    have h1 := h s (List.mem_cons_self ..)
    rw [List.map_cons, List.sum_cons, sum_units fun t ht => h t (List.mem_cons_of_mem _ ht), U_cons, List.length_append]
    have : (unitsOf s).length = s.2.2.toNat := by unfold Stairs.unitsOf; simp
    rw [this]
    omega
theorem lk_append {ps qs : List (Int × Int)} {m : Int} : lkI (ps ++ qs) m = (lkI ps m).orElse fun _ => lkI qs m := by
  induction ps with
  | nil => rfl
  | cons p ps ih =>
    rw [List.cons_append]
    by_cases h : p.1 = m
    · simp [lkI, h]
    · simp [lkI, h] at ih ⊢
      exact ih
theorem lk_units {s : Stp} {m : Int} : lkI (unitsOf s) m = if s.1 ≤ m ∧ m < s.1 + s.2.2 then some (s.2.1 + m - s.1) else none := by
  by_cases h : s.1 ≤ m ∧ m < s.1 + s.2.2
  · rw [if_pos h]
    have hm : (m, s.2.1 + m - s.1) ∈ unitsOf s := mem_units.mpr ⟨h.1, h.2, by dsimp only; omega⟩
    exact lkI_mem (rise_ne (rise_units s)) hm
  · rw [if_neg h]
    refine lkI_none fun p hp e => h ?_
    have := mem_units.mp hp
    rw [e] at this
    exact ⟨this.1, this.2.1⟩
theorem p_newer (m : Int) : ∀ S : List Stp, t_Stair_newer_of S m = some (lkI (U S) m) := by
  intro S
  unfold t_Stair_newer_of
  induction S with
  | nil => rfl
  | cons s S ih =>
    rw [U_cons, lk_append, lk_units]
    by_cases h : s.1 ≤ m ∧ m < s.1 + s.2.2
    · rw [if_pos h]
      simp [foldR, h.1, h.2, ifO_t]
    · rw [if_neg h]
      have e : (decide (s.1 ≤ m) && decide (m < s.1 + s.2.2)) = false := by
        rw [Bool.and_eq_false_iff]
        by_cases h1 : s.1 ≤ m
        · exact .inr (decide_eq_false fun h2 => h ⟨h1, h2⟩)
        · exact .inl (decide_eq_false h1)
      simp only [foldR, e, Option.bind_some, ifO_f]
      exact ih
theorem p_call {S : List Stp} {ps : List (Int × Int)} (h : Few S ps) (m : Int) : t_StairD_callD S m = some (lkI ps m) := by
  unfold t_StairD_callD
  rw [p_is_integer, Option.bind_some, Option.bind_some, show (!true) = false from rfl, ifO_f, p_newer, h.st.u]
  rfl
theorem near_shw {i : Int} (h : -900 ≤ i ∧ i ≤ 900) : Shw (.int i) 4 0 := shw_intS 3 (by decide) (by omega) (by
  have : i.natAbs < 2 ^ 1920 := Nat.lt_of_lt_of_le (show i.natAbs < 2 ^ 10 by omega) (Nat.pow_le_pow_right (by decide) (by decide))
  by_cases h0 : i.natAbs = 0
  · rw [h0]; decide
  · exact (Nat.log2_lt h0).mpr this)
theorem repr_lk {ps : List (Int × Int)} (h : Near ps) (m : Int) : ∃ t, reprD (eO D.int (lkI ps m)) = some t := by
  refine Shw.text (n := 4) (k := 0) (shw_O (by decide) fun a e => ?_)
  have := h _ (lkI_some e)
  exact near_shw ⟨this.2.2.1, this.2.2.2⟩
theorem num_shw {i : Int} (h : -9000 ≤ i ∧ i ≤ 9000) : Shw (.int i) 5 0 := shw_intS 4 (by decide) (by omega) (by
  by_cases h0 : i.natAbs = 0
  · rw [h0]; decide
  · have h1 : i.natAbs.log2 < 14 := (Nat.log2_lt h0).mpr (by omega)
    omega)
theorem few_comp {S : List Stp} {ps : List (Int × Int)} (h : Few S ps) {s : Stp} (hs : s ∈ S) : (-900 ≤ s.1 ∧ s.1 ≤ 900) ∧ (-900 ≤ s.2.1 ∧ s.2.1 ≤ 900) ∧ 1 ≤ s.2.2 ∧ s.2.2 ≤ 1900 := by
  have h1 := h.st.pos s hs
  have m1 : (s.1, s.2.1) ∈ ps := by
    rw [← h.st.u]
    exact mem_U.mpr ⟨s, hs, mem_units.mpr ⟨by dsimp only; omega, by dsimp only; omega, by dsimp only⟩⟩
  have m2 : (s.1 + s.2.2 - 1, s.2.1 + s.2.2 - 1) ∈ ps := by
    rw [← h.st.u]
    exact mem_U.mpr ⟨s, hs, mem_units.mpr ⟨by dsimp only; omega, by dsimp only; omega, by dsimp only; omega⟩⟩
  have a := h.near _ m1
  have b := h.near _ m2
  dsimp only at a b
  omega
theorem steps_shw {S : List Stp} {ps : List (Int × Int)} (h : Few S ps) : Shw (eL stD S) (2 + S.length * 26) 2 := by
  refine shw_L (n := 24) (k := 1) fun s hs => ?_
  obtain ⟨h1, h2, h3, h4⟩ := few_comp h hs
  have z := toPL_tup (ds := [.int s.1, .int s.2.1, .int s.2.2]) (n := 5) (k := 0) (fun d hd => by
    simp only [List.mem_cons, List.not_mem_nil, or_false] at hd
    rcases hd with rfl | rfl | rfl <;> exact num_shw (by omega))
  exact z
theorem cut_lo {α : Type} (xs : List α) (n : Nat) (h : n ≤ xs.length) : cutT xs none (some (n : Int)) = xs.take n := by
  unfold cutT
  rw [HT.sIx_nat, HT.sIx_none, List.drop_zero, Nat.sub_zero, Nat.min_eq_left h]
theorem cut_hi {α : Type} (xs : List α) (n : Nat) (h : n ≤ xs.length) : cutT xs (some (n : Int)) none = xs.drop n := by
  unfold cutT
  rw [HT.sIx_nat, HT.sIx_none, Nat.min_eq_left h, List.take_of_length_le (by simp)]
theorem str_emp (a : Str) : Str.empty ++ a = a := by
  cases a
  show Str.append _ _ = _
  simp [Str.append, Str.empty]
/-- what is shown of a stair -/
theorem obj_text {S : List Stp} {ps : List (Int × Int)} (h : Few S ps) : ∃ sh : Str, reprD (eL stD S) = some sh ∧ objT "Stair" "own_steps" "Stair(" ")" (e_Stair S) = some ("Stair(" ++ sh ++ ")") ∧ catST "Stair(" sh = some ("Stair(" ++ sh) ∧ catST ("Stair(" ++ sh) ")" = some ("Stair(" ++ sh ++ ")") := by
  obtain ⟨p, e, r⟩ := steps_shw h
  have hl := h.len
  have e' : (toPLg (fun _ => none) (S.map stD)).map PyData.list = some p := by
    have : toPg (fun _ => none) (.lst (S.map stD)) = some p := e
    unfold toPg at this
    exact this
  cases e2 : toPLg (fun _ => none) (S.map stD) with
  | none => rw [e2] at e'; cases e'
  | some ds =>
    rw [e2] at e'
    have e3 : PyData.list ds = p := Option.some.inj e'
    have hln := r.ln
    have hdp := r.dp
    have h1 : (Str.ofString "Stair(").length = 6 := by decide
    have h2 : (Str.ofString ")").length = 1 := by decide
    have h0 : (Str.empty).length = 0 := rfl
    have hok : okRep p = true := by
      unfold okRep
      have : p.shown.length ≤ 100000 := by omega
      simp [r.sh, r.nd]
      omega
    refine ⟨p.shown, ?_, ?_, ?_, ?_⟩
    · unfold reprD
      rw [e]
      dsimp only
      rw [if_pos hok]
    · have hlk : List.lookup ("own_steps" : Str) [(("own_steps" : Str), eT stD S)] = some (D.tup (S.map stD)) := rfl
      show objT "Stair" "own_steps" "Stair(" ")" (D.obj "Stair" [("own_steps", eT stD S)]) = _
      unfold objT
      dsimp only
      rw [if_pos rfl, hlk]
      dsimp only
      rw [e2]
      dsimp only
      rw [if_pos, e3, str_emp]
      refine ⟨by rw [e3]; exact hok, ?_, ?_⟩
      · rw [str_app_len, str_app_len, h0, h1, e3]
        omega
      · rw [str_app_len, str_app_len, str_app_len, h0, h1, h2, e3]
        omega
    · unfold catST
      rw [if_pos (by rw [h1]; omega)]
    · unfold catST
      rw [if_pos (by rw [str_app_len, h1, h2]; omega)]
theorem p_kept {S : List Stp} {ps : List (Int × Int)} (h : Few S ps) : t_Stair_kept S = some (ps.length : Int) := by
  have hl := h.len
  unfold t_Stair_kept
  rw [lcM_map _ (by omega), Option.bind_some, sum_units h.st.pos, h.st.u]
theorem p_in {S : List Stp} {ps : List (Int × Int)} (h : Few S ps) (m : Int) : t_StairD_containsD_i S m = some (lkI ps m).isSome := by
  unfold t_StairD_containsD_i
  rw [p_is_integer, Option.bind_some, andO_t, p_newer, h.st.u]
  rfl
theorem far_no {ps : List (Int × Int)} (h : Near ps) {m : Int} (hm : m < -900 ∨ 900 < m) : (lkI ps m).isSome = false := by
  rw [lkI_none fun p hp e => ?_]
  · rfl
  · have := h p hp
    omega
theorem p_odd {S : List Stp} {ps : List (Int × Int)} (h : Few S ps) {a b : Int} (ha : 900 < a) (hb : b < -900) : lcO (β := Bool) (fun (e72 : D) => Option.bind (t_StairD_containsD_a S e72) fun x73 => some (some x73)) [D.non, (D.bl true), (D.bl false), (D.str ("1" : Str)), (D.str ("" : Str)), (e1 D.int (1)), (eL D.int ([1])), (eKI D.int ([] : List (Int × Int))), (stD (1, 1, 1)), (e_Stair S), (D.int a), (D.int b)] = some [false, false, false, false, false, false, false, false, false, false, false, false] := by
  rw [lcO_map (fun _ => false) (by simp) (fun x hx => ?_)]
  · rfl
  · have key : t_StairD_containsD_a S x = some false := by
      simp only [List.mem_cons, List.not_mem_nil, or_false] at hx
      rcases hx with rfl | rfl | rfl | rfl | rfl | rfl | rfl | rfl | rfl | rfl | rfl | rfl
      · rfl
      · rfl
      · rfl
      · rfl
      · rfl
      · rfl
      · rfl
      · rfl
      · rfl
      · show (if ("Stair" : Str) = "Stair" then some false else none) = some false
        rw [if_pos rfl]
      · show t_StairD_containsD_i S a = some false
        rw [p_in h, far_no h.near (.inr ha)]
      · show t_StairD_containsD_i S b = some false
        rw [p_in h, far_no h.near (.inl hb)]
    rw [key]
    rfl
/-- what a stair tells -/
theorem p_told {S : List Stp} {ps : List (Int × Int)} (h : Few S ps) : t_law_told_right S ps = some true := by
  have hl := h.len
  have hf := h.few
  have e1 := p_form h.st.rise (by omega)
  rw [h.st.form] at e1
  have e3 : lenT (S.length : Int) = some (S.length : Int) := by
    unfold lenT
    rw [if_pos ⟨by omega, by omega⟩]
  have e4 : t_StairD_lenD S = some (S.length : Int) := rfl
  have e5 : t_Stair_steps S = some S := rfl
  obtain ⟨tk, ek⟩ : ∃ t, reprD (D.int (ps.length : Int)) = some t := (num_shw (i := (ps.length : Int)) (by omega)).text
  obtain ⟨sh, t1, t2, t3, t4⟩ := obj_text h
  have pw : powT 10 29 = some (10 ^ (29 : Int).toNat) := by
    unfold powT
    rw [if_pos (by decide)]
  unfold t_law_told_right
  rw [e1, Option.bind_some, e5, Option.bind_some, decide_eq_true (Eq.refl S), show (!true) = false from rfl, orO_f, e4, Option.bind_some, e3, Option.bind_some, decide_eq_true (Eq.refl (S.length : Int)), show (!true) = false from rfl, orO_f, p_kept h, Option.bind_some, ek, Option.bind_some, Option.bind_some, decide_eq_true (Eq.refl tk), show (!true) = false from rfl, Option.bind_some, Option.bind_some, Option.bind_some, ifO_f]
  rw [t2, Option.bind_some, t1, Option.bind_some, t3, Option.bind_some, t4, Option.bind_some, decide_eq_true (Eq.refl _), show (!true) = false from rfl, orO_f, Option.bind_some, lcM_map _ (by omega), Option.bind_some]
  have eall : (!((S.map fun _ => true).all id)) = false := by
    rw [List.all_map]
    simp
  rw [eall, Option.bind_some, Option.bind_some, ifO_f]
  rw [range2_of (by decide) (by decide) (by decide) (by decide), Option.bind_some]
  rw [foldR_unit _ fun m hm => ?_]
  · rw [Option.bind_some]
    dsimp only
    rw [pw, Option.bind_some, Option.bind_some, Option.bind_some, p_odd h (by decide) (by decide)]
    rfl
  · obtain ⟨t, ht⟩ := repr_lk h.near m
    rw [p_call h, Option.bind_some, ht, Option.bind_some, Option.bind_some, decide_eq_true (Eq.refl t), show (!true) = false from rfl, orO_f, p_in h, Option.bind_some, decide_eq_true (Eq.refl _), show (!true) = false from rfl, Option.bind_some, Option.bind_some, ifO_f, Option.bind_some, ht, Option.bind_some, Option.bind_some, Option.bind_some, decide_eq_true (Eq.refl t), show (!true) = false from rfl, ifO_f]
end K11


set_option Elab.async false
set_option linter.all false
set_option maxRecDepth 100000
set_option maxHeartbeats 1000000
/-! steps cut in two; the law's own right -/
namespace K11
open PySem PySem.Spec PyProof.Rows L2 Dn Tn Stairs
/-- a row that was drawn -/
structure RowOk (rows : List Stp) : Prop where
  pos : Pos1 rows
  rise : Rise (U rows)
  few : (U rows).length ≤ 300
  len : rows.length ≤ 20
  near : Near (U rows)
theorem RowOk.fw {r : List Stp} (h : RowOk r) : Few (oneForm r) (U r) := ⟨stair_rows h.pos h.rise, h.few, h.near⟩
theorem RowOk.one {r : List Stp} (h : RowOk r) {s : Stp} (hs : s ∈ r) : (-900 ≤ s.1 ∧ s.1 ≤ 900) ∧ (-900 ≤ s.2.1 ∧ s.2.1 ≤ 900) ∧ 1 ≤ s.2.2 ∧ s.2.2 ≤ 1900 := by
  have h1 := h.pos s hs
  have m1 : (s.1, s.2.1) ∈ U r := mem_U.mpr ⟨s, hs, mem_units.mpr ⟨by dsimp only; omega, by dsimp only; omega, by dsimp only⟩⟩
  have m2 : (s.1 + s.2.2 - 1, s.2.1 + s.2.2 - 1) ∈ U r := mem_U.mpr ⟨s, hs, mem_units.mpr ⟨by dsimp only; omega, by dsimp only; omega, by dsimp only; omega⟩⟩
  have a := h.near _ m1
  have b := h.near _ m2
  dsimp only at a b
  omega
theorem rows_shw {r : List Stp} (h : RowOk r) : Shw (eL stD r) (2 + r.length * 26) 2 := by
  refine shw_L (n := 24) (k := 1) fun s hs => ?_
  obtain ⟨h1, h2, h3, h4⟩ := h.one hs
  have z := toPL_tup (ds := [.int s.1, .int s.2.1, .int s.2.2]) (n := 5) (k := 0) (fun d hd => by
    simp only [List.mem_cons, List.not_mem_nil, or_false] at hd
    rcases hd with rfl | rfl | rfl <;> exact num_shw (by omega))
  exact z
theorem rows_text {r : List Stp} (h : RowOk r) : ∃ t, reprD (eL stD r) = some t := by
  have hl := h.len
  exact Shw.text ((rows_shw h).up (n' := 100000) (k' := 2) (by omega) (by omega)) (by omega) (by omega)
theorem ok_row {q : Pot} (hq : PotOk q) : Ok (t_law_steps 9 q) fun z => RowOk z.1 ∧ PotOk z.2 := by
  refine (ok_steps hq (by decide) (by decide)).imp fun z h => ?_
  obtain ⟨⟨k, el, nw, hk, r⟩, hp⟩ := h
  have h1 := r.few
  have h2 := r.len
  have h3 := r.hi
  have h4 := r.hi2
  refine ⟨⟨r.pos, r.rise, by omega, by omega, fun p hp => ?_⟩, hp⟩
  have := r.lt p hp
  omega
/-! ### each one cut in two, or not -/
theorem ok_cut {rows : List Stp} {q : Pot} (hq : PotOk q) (h : RowOk rows) : Ok (t_law_cut rows q) fun z => (Pos1 z.1 ∧ U z.1 = U rows ∧ z.1.length ≤ 60) ∧ PotOk z.2 := by
  unfold t_law_cut
  have key : ∀ (post pre : List Stp) (acc : List Stp) (q : Pot), pre ++ post = rows → PotOk q → Pos1 acc → U acc = U pre → acc.length ≤ 2 * pre.length → ∃ acc' q', foldN (fun (e2 : Int × Int × Int) (s1 : (List (Int × Int × Int)) × Pot) => (b2 (t_law_draw e2.2.2 s1.2) fun x3 q4 => Option.bind (Option.bind (some (decide (0 < x3))) fun c6 => ifO c6 (Option.bind (appT s1.1 (e2.1, e2.2.1, x3)) fun x8 => some x8) (some s1.1)) fun j10 => Option.bind (appT j10 ((e2.1 + x3), (e2.2.1 + x3), (e2.2.2 - x3))) fun x12 => some (x12, q4) : Option ((List (Int × Int × Int)) × Pot))) post (acc, q) = some (acc', q') ∧ PotOk q' ∧ Pos1 acc' ∧ U acc' = U rows ∧ acc'.length ≤ 2 * rows.length := by
    intro post
    induction post with
    | nil =>
      intro pre acc q e hq h1 h2 h3
      rw [List.append_nil] at e
      subst e
      exact ⟨acc, q, rfl, hq, h1, h2, h3⟩
    | cons s post ih =>
      intro pre acc q e hq h1 h2 h3
      have hs : s ∈ rows := by rw [← e]; simp
      obtain ⟨b1, b2', b3, b4⟩ := h.one hs
      have hlen : pre.length + 1 ≤ rows.length := by rw [← e]; simp
      have hrl := h.len
      obtain ⟨⟨d, q'⟩, e1, ⟨d1, d2⟩, hq'⟩ := ok_draw (size := s.2.2) hq (by omega) (by omega)
      rw [foldN_cons]
      dsimp only
      rw [e1, b2_some, Option.bind_some]
      have eU : U (pre ++ [s]) = U pre ++ unitsOf s := by rw [U_append, U_cons, U_nil, List.append_nil]
      by_cases hd : 0 < d
      · rw [decide_eq_true hd, ifO_t, appT_of (by omega), Option.bind_some, Option.bind_some, appT_of (by simp; omega), Option.bind_some, Option.bind_some]
        refine ih (pre ++ [s]) _ q' (by rw [List.append_assoc]; exact e) hq' ?_ ?_ (by simp; omega)
        · intro t ht
          simp only [List.mem_append, List.mem_singleton] at ht
          rcases ht with (ht | rfl) | rfl
          · exact h1 t ht
          · exact hd
          · dsimp only; omega
        · rw [eU, U_append, U_append, U_cons, U_nil, List.append_nil, U_cons, U_nil, List.append_nil, h2, List.append_assoc]
          congr 1
          have := units_add (e := s.1) (n := s.2.1) (l := d) (k := s.2.2 - d) (by omega) (by omega)
          rw [show d + (s.2.2 - d) = s.2.2 by omega] at this
          exact this.symm
      · have hd0 : d = 0 := by omega
        subst hd0
        rw [decide_eq_false hd, ifO_f, Option.bind_some, appT_of (by omega), Option.bind_some, Option.bind_some]
        refine ih (pre ++ [s]) _ q' (by rw [List.append_assoc]; exact e) hq' ?_ ?_ (by simp; omega)
        · intro t ht
          simp only [List.mem_append, List.mem_singleton] at ht
          rcases ht with ht | rfl
          · exact h1 t ht
          · dsimp only; omega
        · rw [eU, U_append, U_cons, U_nil, List.append_nil, h2]
          congr 1
          rw [show s.1 + 0 = s.1 by omega, show s.2.1 + 0 = s.2.1 by omega, show s.2.2 - 0 = s.2.2 by omega]
  obtain ⟨acc', q', e, k1, k2, k3, k4⟩ := key rows [] [] q rfl hq pos_nil rfl (by simp)
  have hrl := h.len
  refine ok_val e (ok_some ⟨⟨k2, k3, ?_⟩, k1⟩)
  dsimp only
  omega
/-! ### one step away -/
theorem row_less {a c : List Stp} {s : Stp} (h : RowOk (a ++ s :: c)) : RowOk (a ++ c) ∧ U (a ++ c) ≠ U (a ++ s :: c) := by
  have e1 : U (a ++ s :: c) = U a ++ (unitsOf s ++ U c) := by rw [U_append, U_cons]
  have e2 : U (a ++ c) = U a ++ U c := U_append a c
  have sub : (U (a ++ c)).Sublist (U (a ++ s :: c)) := by
    rw [e1, e2]
    exact List.Sublist.append (List.Sublist.refl _) (List.sublist_append_right _ _)
  have hs := h.pos s (by simp)
  have hu : (unitsOf s).length = s.2.2.toNat := by unfold Stairs.unitsOf; simp
  refine ⟨⟨fun t ht => h.pos t ?_, h.rise.sublist sub, Nat.le_trans sub.length_le h.few, ?_, fun p hp => h.near p (sub.subset hp)⟩, fun e => ?_⟩
  · rcases List.mem_append.mp ht with ht | ht
    · exact List.mem_append_left _ ht
    · exact List.mem_append_right _ (List.mem_cons_of_mem _ ht)
  · have := h.len
    simp at this ⊢
    omega
  · have := congrArg List.length e
    rw [e1, e2] at this
    simp only [List.length_append] at this
    omega
theorem ok_right {q : Pot} (hq : PotOk q) : Ok (t_law_right q) fun z => z.1 = true ∧ PotOk z.2 := by
  unfold t_law_right
  refine ok_b2 (Q := fun r c => RowOk r ∧ PotOk c) (ok_row hq) fun r q1 ⟨h, p1⟩ => ?_
  have hst : Steps r := steps_of h.pos h.rise
  have hl := h.len
  have hf := h.few
  obtain ⟨sh, esh⟩ := rows_text h
  have A := h.fw
  refine ok_val (p_carry h.pos h.rise (by omega)) (ok_val esh (ok_val (p_init hst (by omega)) ?_))
  refine ok_b2 (Q := fun z c => (Pos1 z ∧ U z = U r ∧ z.length ≤ 60) ∧ PotOk c) (ok_cut p1 h) fun z q2 ⟨⟨z1, z2, z3⟩, p2⟩ => ?_
  have hz : oneForm z = oneForm r := oneForm_of_U z1 h.pos z2
  have hzs : Steps z := steps_of z1 (by rw [z2]; exact h.rise)
  refine ok_val (by rw [p_initT hzs z3, hz]) (ok_val (appT_of (by omega)) (ok_val (p_told A) ?_))
  refine ok_val (a := false) (by rw [show (!true) = false from rfl, orO_f, p_told A]; rfl) (ok_val rfl ?_)
  rw [ifO_f]
  have hAl := A.len
  refine ok_val (a := ()) (by unfold lenLt; rw [if_pos (by omega)]) ?_
  have hse : Steps (oneForm r) := steps_of A.st.pos (by rw [A.st.u]; exact A.st.rise)
  have hol : (oneForm r).length ≤ 60 := by
    have := oneForm_len r
    omega
  have peq : ∀ S : List Stp, t_StairD_eqD_o S S = some true := fun S => by rw [p_eq, decide_eq_true rfl]
  refine ok_val (peq _) ?_
  refine ok_val (a := false) (by
    rw [show (!true) = false from rfl, orO_f, peq, Option.bind_some, show (!true) = false from rfl, orO_f, p_steps, Option.bind_some, show t_StairD_eqD_l (oneForm r) (oneForm r) = some false from rfl, Option.bind_some, orO_f, show t_StairD_eqD_s (oneForm r) sh = some false from rfl, Option.bind_some, orO_f, Option.bind_some, p_init hse hol, Option.bind_some, A.st.one, peq]
    rfl) (ok_val rfl ?_)
  rw [ifO_f]
  refine ok_val (range1_of (by omega) (by omega)) ?_
  refine ok_foldR (fun _ => True) trivial (fun i hi _ _ => ?_) fun _ _ => ?_
  · have hi2 := mem_rangeI.mp hi
    have hi3 : i < (r.length : Int) := by omega
    obtain ⟨s, es, hs, es2⟩ := atI_get (xs := r) (d := i) hi2.1 hi3
    obtain ⟨n, hn⟩ : ∃ n : Nat, (n : Int) = i := ⟨i.toNat, by omega⟩
    have hnl : n < r.length := by omega
    have en : i.toNat = n := by omega
    rw [en] at es2
    have hsp := h.pos s hs
    refine ok_val es (ok_val es (ok_val rfl ?_))
    refine ok_foldR (fun _ => True) trivial (fun b hb _ _ => ?_) fun _ _ => ?_
    · have hb1 : Steps b ∧ oneForm b = b ∧ b.length ≤ 60 := by
        simp only [List.mem_cons, List.not_mem_nil, or_false] at hb
        rcases hb with rfl | rfl | rfl | rfl | rfl
        · exact ⟨by show (1 : Int) ≤ s.2.2 + 1; omega, rfl, by simp⟩
        · exact ⟨hsp, rfl, by simp⟩
        · exact ⟨hsp, rfl, by simp⟩
        · exact ⟨trivial, rfl, by simp⟩
        · exact ⟨hsp, rfl, by simp⟩
      refine ok_val (p_init hb1.1 hb1.2.2) (ok_val es (ok_val (p_init (ys := [s]) hsp (by simp)) (ok_val (p_eq _ _) (ok_val es ?_))))
      rw [hb1.2.1, show oneForm [s] = [s] from rfl]
      refine ok_val rfl ?_
      rw [decide_eq_true (Eq.refl (decide (b = [s]))), show (!true) = false from rfl, ifO_f]
      exact ok_some ⟨(), rfl, trivial⟩
    · dsimp only
      have esplit : r = r.take n ++ s :: r.drop (n + 1) := by
        have e0 : r.drop n = s :: r.drop (n + 1) := by
          rw [List.drop_eq_getElem_cons hnl]
          congr 1
          rw [List.getElem?_eq_getElem hnl] at es2
          exact Option.some.inj es2
        rw [← e0, List.take_append_drop]
      have h' : RowOk (r.take n ++ s :: r.drop (n + 1)) := by rw [← esplit]; exact h
      obtain ⟨hless, hne⟩ := row_less h'
      rw [← esplit] at hne
      have B := hless.fw
      have hll := hless.len
      have hcat : catT (cutT r none (some i)) (cutT r (some (i + 1)) none) = some (r.take n ++ r.drop (n + 1)) := by
        rw [← hn, cut_lo r n (by omega), show ((n : Int) + 1) = ((n + 1 : Nat) : Int) by omega, cut_hi r (n + 1) (by omega), catT_of (by rw [List.length_append] at hll; omega)]
      refine ok_val hcat (ok_val (p_init (steps_of hless.pos hless.rise) (by omega)) ?_)
      refine ok_val (a := false) (by
        rw [p_eq]
        exact congrArg some (decide_eq_false fun e => hne ((B.st.eq A.st).mp e))) ?_
      have hfew := hless.few
      refine ok_val (a := false) (by
        rw [orO_f, hcat, Option.bind_some, p_carry hless.pos hless.rise (by omega), Option.bind_some, p_told B]
        rfl) (ok_val rfl ?_)
      rw [ifO_f]
      exact ok_some ⟨(), rfl, trivial⟩
  · dsimp only
    refine ok_val rfl ?_
    rw [show ((!decide ((60 : Nat) = 60)) || (!decide ((60 : Nat) = 60))) = false from rfl, ifO_f]
    refine ok_val esh (ok_val (a := true) (by
      rw [decide_eq_true (Eq.refl sh), andO_t, p_told A]
      rfl) ?_)
    exact ok_some ⟨rfl, p2⟩
end K11


set_option Elab.async false
set_option linter.all false
set_option maxRecDepth 100000
set_option maxHeartbeats 3000000
namespace K11
open PySem PySem.Spec PyProof.Rows L2 Dn Tn Stairs
section
variable {A Ω Ω1 Ω2 Ω3 : Om} {n : Nat} {Γ : Gm}
theorem bin_ok {Γ : Gm} {Ω Ω1 Ω2 Ω3 : Om} {op : Op2} {f g : Den D} {x y d : D} (h1 : f Γ Ω = some (.ok x, Ω1)) (h2 : g Γ Ω1 = some (.ok y, Ω2)) (h3 : op x y Ω2 = some (.ok d, Ω3)) : fBin op f g Γ Ω = some (.ok d, Ω3) := by
  unfold fBin bnd
  rw [h1, bR_ok]
  dsimp only
  rw [h2, bR_ok]
  exact h3
theorem cb_ok {Γ : Gm} {Ω Ω1 Ω2 : Om} {op : OpA} {r : Den (List D)} {ds : List D} {d : D} (h1 : r Γ Ω = some (.ok ds, Ω1)) (h2 : op ds Ω1 = some (.ok d, Ω2)) : fCB op r Γ Ω = some (.ok d, Ω2) := by
  unfold fCB bnd
  rw [h1, bR_ok]
  exact h2
theorem asBools_true {α : Type} : ∀ xs : List α, asBools (xs.map fun _ => D.bl true) = some (xs.map fun _ => true)
  | [] => rfl
  | x :: xs => by
    rw [List.map_cons]
    unfold asBools
    rw [asBools_true xs]
    rfl
theorem all_true {α : Type} (xs : List α) : dAll [.lst (xs.map fun _ => D.bl true)] Ω = some (.ok (.bl true), Ω) := by
  unfold dAll onBools op1
  dsimp only [asL]
  rw [asBools_true]
  simp
theorem v_pot {Ω : Om} (ns : List Int) (k : Nat) (hk : k ≤ 4) : ∃ p q : Int, F_law_pot [.scr ns, .int (k : Int)] Ω = some (.ok (.ref Ω.length), Ω ++ [.lst [.int p, .int q]]) ∧ 0 ≤ q ∧ q < 4294967296 := by
  have key : ∀ c : Int, ∃ p q : Int, (sRet (fLstC (fCons (fCB dMax (fCons (fC (.int 0)) (fCons (fBin dSub (fVar 2) (fBin dPow (fC (.int 10)) (fC (.int 18)))) fNil))) (fCons (fBin dAdd (fBin dMod (fBin dMul (fCB dInt (fCons (fBin dAdd (fBin dMod (fCB dInt (fCons (fVar 2) fNil)) (fC (.int 2147483549))) (fC (.int 7))) fNil)) (fBin dPow (fBin dAdd (fBin dMul (fC (.int 2)) (fVar 1)) (fC (.int 3))) (fC (.int 3)))) (fC (.int 2147483477))) (fC (.int 1))) fNil))) : DenS) [some (.scr ns), some (.int (k : Int)), some (.int c)] Ω = some (.rt (.ref Ω.length), [some (.scr ns), some (.int (k : Int)), some (.int c)], Ω ++ [.lst [.int p, .int q]]) ∧ 0 ≤ q ∧ q < 4294967296 := by
    intro c
    have h1 : 0 ≤ c % 2147483549 := Int.emod_nonneg _ (by decide)
    have h2 : c % 2147483549 < 2147483549 := Int.emod_lt_of_pos _ (by decide)
    generalize ec : c % 2147483549 = r at h1 h2
    have c1 : cMul 2 (k : Int) = true := by unfold cMul; rw [decide_eq_true_iff]; left; constructor <;> decide
    have c2 : ∀ z : Int, cMul (r + 7) z = true := fun z => by unfold cMul; rw [decide_eq_true_iff]; left; constructor <;> omega
    have c3 : (2 * (k : Int) + 3).natAbs < 18446744073709551616 := by omega
    have g1 : 0 ≤ (r + 7) * (2 * (k : Int) + 3) ^ 3 % 2147483477 := Int.emod_nonneg _ (by decide)
    have g2 : (r + 7) * (2 * (k : Int) + 3) ^ 3 % 2147483477 < 2147483477 := Int.emod_lt_of_pos _ (by decide)
    refine ⟨if c - 1000000000000000000 > 0 then c - 1000000000000000000 else 0, (r + 7) * (2 * (k : Int) + 3) ^ 3 % 2147483477 + 1, ?_, by omega, by omega⟩
    simp [fnD, startG, sRet, sIf, sSeq, bS, sSet, eS, sExp, sSkip, sNever, sPar, sAsg, Dn.gT, Dn.gCons, Dn.gNil, Dn.gN, fAndV, fOrV, fNotV, fBl, fAnd, fOr, fNot, fIf, fT, fBin, fUn, bnd, fVar, fC, dIx, dAdd, dSub, dLt, dLe, dGt, dGe, Dn.opI, dNeg, fCons, fNil, fTup, fLst, fLstC, fCB, op1, op2, fIs, isB, isC, isB2, tyD, isT, asL, fChain, dMax, dMod, dMul, opIC, dInt, dPow, ec, c1, c2, c3]
  have c0 : cMul 53 (k : Int) = true := by unfold cMul; rw [decide_eq_true_iff]; left; constructor <;> decide
  by_cases hn : k < ns.length
  · obtain ⟨p, q, e, h1, h2⟩ := key (if ns[k] < 0 then -ns[k] else ns[k])
    refine ⟨p, q, ?_, h1, h2⟩
    unfold F_law_pot b_law_pot
    refine fn_rt ((seq_nx (Γ1 := [some (.scr ns), some (.int (k : Int)), some (.int (53 * (k : Int) + 19))]) (Ω1 := Ω) ?_).trans ((seq_nx (Γ1 := [some (.scr ns), some (.int (k : Int)), some (.int (if ns[k] < 0 then -ns[k] else ns[k]))]) (Ω1 := Ω) ?_).trans e))
    · simp [fnD, startG, sRet, sIf, sSeq, bS, sSet, eS, sExp, sSkip, sNever, sPar, sAsg, Dn.gT, Dn.gCons, Dn.gNil, Dn.gN, fAndV, fOrV, fNotV, fBl, fAnd, fOr, fNot, fIf, fT, fBin, fUn, bnd, fVar, fC, dIx, dAdd, dSub, dLt, dLe, dGt, dGe, Dn.opI, dNeg, fCons, fNil, fTup, fLst, fLstC, fCB, op1, op2, fIs, isB, isC, isB2, tyD, isT, asL, fChain, dMul, opIC, c0]
    · simp [fnD, startG, sRet, sIf, sSeq, bS, sSet, eS, sExp, sSkip, sNever, sPar, sAsg, Dn.gT, Dn.gCons, Dn.gNil, Dn.gN, fAndV, fOrV, fNotV, fBl, fAnd, fOr, fNot, fIf, fT, fBin, fUn, bnd, fVar, fC, dIx, dAdd, dSub, dLt, dLe, dGt, dGe, Dn.opI, dNeg, fCons, fNil, fTup, fLst, fLstC, fCB, op1, op2, fIs, isB, isC, isB2, tyD, isT, asL, fChain, dLen, hn, dAbs]
  · obtain ⟨p, q, e, h1, h2⟩ := key (53 * (k : Int) + 19)
    refine ⟨p, q, ?_, h1, h2⟩
    unfold F_law_pot b_law_pot
    refine fn_rt ((seq_nx (Γ1 := [some (.scr ns), some (.int (k : Int)), some (.int (53 * (k : Int) + 19))]) (Ω1 := Ω) ?_).trans ((seq_nx (Γ1 := [some (.scr ns), some (.int (k : Int)), some (.int (53 * (k : Int) + 19))]) (Ω1 := Ω) ?_).trans e))
    · simp [fnD, startG, sRet, sIf, sSeq, bS, sSet, eS, sExp, sSkip, sNever, sPar, sAsg, Dn.gT, Dn.gCons, Dn.gNil, Dn.gN, fAndV, fOrV, fNotV, fBl, fAnd, fOr, fNot, fIf, fT, fBin, fUn, bnd, fVar, fC, dIx, dAdd, dSub, dLt, dLe, dGt, dGe, Dn.opI, dNeg, fCons, fNil, fTup, fLst, fLstC, fCB, op1, op2, fIs, isB, isC, isB2, tyD, isT, asL, fChain, dMul, opIC, c0]
    · simp [fnD, startG, sRet, sIf, sSeq, bS, sSet, eS, sExp, sSkip, sNever, sPar, sAsg, Dn.gT, Dn.gCons, Dn.gNil, Dn.gN, fAndV, fOrV, fNotV, fBl, fAnd, fOr, fNot, fIf, fT, fBin, fUn, bnd, fVar, fC, dIx, dAdd, dSub, dLt, dLe, dGt, dGe, Dn.opI, dNeg, fCons, fNil, fTup, fLst, fLstC, fCB, op1, op2, fIs, isB, isC, isB2, tyD, isT, asL, fChain, dLen, hn]
theorem v_law_loop (ns : List Int) : ∀ (ks : List Nat) (acc : List D) (Ω : Om), (∀ k ∈ ks, k ≤ 4) → PureΩ Ω → acc.length + ks.length ≤ 1000 → ∃ Ω', PureΩ Ω' ∧ loopC (Tg.nm 1).den (fC true) (fCall 1 F_law_right (fCons (fCall 2 F_law_pot (fCons (fVar 0) (fCons (fVar 1) fNil))) fNil)) [some (.scr ns), none] (ks.map fun (i : Nat) => D.int (0 + (i : Int))) acc Ω = some (.ok (.lst (acc ++ ks.map fun _ => D.bl true)), Ω')
  | [], acc, Ω, _, h, _ => ⟨Ω, h, by simp [loopC]⟩
  | k :: ks, acc, Ω, hk, h, hl => by
    rw [List.length_cons] at hl
    obtain ⟨p, q, e1, hq1, hq2⟩ := v_pot (Ω := Ω) ns k (hk k (by simp))
    obtain ⟨⟨z, q'⟩, t1, t2, _⟩ := ok_right (q := (p, q)) ⟨hq1, hq2⟩
    dsimp only at t2
    subst t2
    have hp1 : PureΩ (Ω ++ [.lst [.int p, .int q]]) := h.add rfl
    have e2 := w_law_right (n := Ω.length) t1 (Ω ++ [.lst [.int p, .int q]]) hp1 at_end
    obtain ⟨A', eA⟩ : ∃ A' : Om, A' = (Ω ++ [Cell.lst [.int p, .int q]]).set Ω.length (potC q') := ⟨_, rfl⟩
    rw [← eA] at e2
    have p' : PureΩ A' := by
      rw [eA]
      exact hp1.set (c := potC q') rfl
    obtain ⟨Ω', h', e3⟩ := v_law_loop ns ks (acc ++ [.bl true]) A' (fun j hj => hk j (by simp [hj])) p' (by simp; omega)
    refine ⟨Ω', h', ?_⟩
    rw [List.map_cons]
    unfold loopC
    have e4 : (Tg.nm 1).den (.int (0 + (k : Int))) [some (.scr ns), none] = some [some (.scr ns), some (.int (0 + (k : Int)))] := rfl
    rw [e4, show (0 + (k : Int)) = (k : Int) by omega]
    dsimp only
    have e5 : fCall 1 F_law_right (fCons (fCall 2 F_law_pot (fCons (fVar 0) (fCons (fVar 1) fNil))) fNil) [some (.scr ns), some (.int (k : Int))] Ω = some (.ok (.bl true), A') := call_ok (cons_ok (call_ok (ds := [.scr ns, .int (k : Int)]) (cons_ok (var_at rfl) (cons_ok (var_at rfl) nil_ok)) rfl e1) nil_ok) rfl e2
    show (match fC true [some (.scr ns), some (.int (k : Int))] Ω with
      | some (.ok true, Ω1) => match fCall 1 F_law_right (fCons (fCall 2 F_law_pot (fCons (fVar 0) (fCons (fVar 1) fNil))) fNil) [some (.scr ns), some (.int (k : Int))] Ω1 with
        | some (.ok y, Ω2) => if acc.length < 100000 then loopC (Tg.nm 1).den (fC true) (fCall 1 F_law_right (fCons (fCall 2 F_law_pot (fCons (fVar 0) (fCons (fVar 1) fNil))) fNil)) [some (.scr ns), none] (ks.map fun (i : Nat) => D.int (0 + (i : Int))) (acc ++ [y]) Ω2 else none
        | _ => none
      | some (.ok false, Ω1) => loopC (Tg.nm 1).den (fC true) (fCall 1 F_law_right (fCons (fCall 2 F_law_pot (fCons (fVar 0) (fCons (fVar 1) fNil))) fNil)) [some (.scr ns), none] (ks.map fun (i : Nat) => D.int (0 + (i : Int))) acc Ω1
      | _ => none) = _
    have e6 : fC true [some (.scr ns), some (.int (k : Int))] Ω = some (.ok true, Ω) := rfl
    rw [e6]
    dsimp only
    rw [e5]
    dsimp only
    rw [if_pos (by omega), e3]
    simp
theorem v_law (ns : List Int) : F_law [.scr ns] [] = some (.ok (.bl true), []) := by
  have hN : PureΩ [] := fun _ h => by cases h
  have hc : ∃ c : Nat, c ≤ 4 ∧ fRange1 (fCons (fCB dMax (fCons (fC (.int 1)) (fCons (fCB dMin (fCons (fCB dLen (fCons (fVar 0) fNil)) (fCons (fC (.int 4)) fNil))) fNil))) fNil) (startG 2 [.scr ns]) [] = some (.ok ((List.range c).map fun (i : Nat) => D.int (0 + (i : Int))), []) := by
    have key : ∀ z : Int, 1 ≤ z → z ≤ 4 → fCons (fCB dMax (fCons (fC (.int 1)) (fCons (fCB dMin (fCons (fCB dLen (fCons (fVar 0) fNil)) (fCons (fC (.int 4)) fNil))) fNil))) fNil (startG 2 [.scr ns]) [] = some (.ok [.int z], []) → fRange1 (fCons (fCB dMax (fCons (fC (.int 1)) (fCons (fCB dMin (fCons (fCB dLen (fCons (fVar 0) fNil)) (fCons (fC (.int 4)) fNil))) fNil))) fNil) (startG 2 [.scr ns]) [] = some (.ok ((List.range z.toNat).map fun (i : Nat) => D.int (0 + (i : Int))), []) := fun z h1 h2 e => by
      unfold fRange1 bnd
      rw [e, bR_ok]
      dsimp only
      rw [if_pos ⟨by omega, by omega⟩]
      rfl
    refine ⟨(if (if (4 : Int) < (ns.length : Int) then 4 else (ns.length : Int)) > 1 then (if (4 : Int) < (ns.length : Int) then 4 else (ns.length : Int)) else 1).toNat, ?_, key _ ?_ ?_ (cons_ok (cb_ok (ds := [.int 1, .int (if (4 : Int) < (ns.length : Int) then 4 else (ns.length : Int))]) (cons_ok rfl (cons_ok (cb_ok (ds := [.int (ns.length : Int), .int 4]) (cons_ok (cb_ok (cons_ok (var_at rfl) nil_ok) rfl) (cons_ok rfl nil_ok)) rfl) nil_ok)) rfl) nil_ok)⟩
    · split <;> split <;> omega
    · split <;> split <;> omega
    · split <;> split <;> omega
  obtain ⟨c, hc4, hr⟩ := hc
  obtain ⟨Ω', h', e⟩ := v_law_loop ns (List.range c) [] [] (fun k hk => by have := List.mem_range.mp hk; omega) hN (by simp; omega)
  refine clean_val (Ω1 := []) (W := Ω') ?_ rfl hN rfl
  unfold b_law
  rw [List.nil_append] at e ⊢
  refine fn_rt (ret_ok (cb_ok (cons_ok ?_ nil_ok) (all_true (List.range c))))
  unfold fLc
  rw [hr, bR_ok]
  exact e
end
end K11


set_option Elab.async false
set_option linter.all false
set_option maxRecDepth 100000
set_option maxHeartbeats 0
namespace K11
open PySem PySem.Spec PyProof.Rows L2 Dn Stairs
theorem scr_of {K : PySem.W.Frag} {H : Hp} {a : Addr} {vs : List V} (hO : Only H) (h : SqL K H a vs) : ScrL K H a vs := by
  rcases h with (h | h) | h
  · rcases hO a with e | ⟨o, xs, e⟩
    · rw [e] at h; cases h
    · rw [e] at h; cases h
  · exact .inl h
  · exact .inr h
theorem sp_law {K : PySem.W.Frag} {H : Hp} {a : Addr} {ns : List Int} (hO : Only H) (h : SqL K H a (ns.map V.int)) : spD K 1 F_law [.ref a] H (fun v _ => v = .bl true) fun _ _ _ => False := by
  refine ⟨rfl, ⟨[], fun _ => False⟩, [], [.scr ns], ⟨rfl, List.nodup_nil, fun n c a h => by simp at h, fun a h => h.elim⟩, ?_, ?_⟩
  · unfold RlL
    exact ⟨_, _, rfl, by unfold Rl; exact ⟨a, rfl, scr_of hO h⟩, by unfold RlL; rfl⟩
  · rw [v_law]
    intro m' v H' g r
    unfold Rl at r
    exact r
end K11
open PySem PySem.W PySem.Calls PyProof.Rows
theorem PySem.Challenge.cw_roadstairs_k11_steps_in_one_form_holds : PySem.Challenge.rw_roadstairs_k11_steps_in_one_form.Holds := by
  w_on; o_law
  refine HandSHeadRun.head_any (r := OpenLaw.row PySem.Challenge.rw_roadstairs_k11_steps_in_one_form) (q := view (OpenLaw.row PySem.Challenge.rw_roadstairs_k11_steps_in_one_form).prog [31]) (H := K11.hk) (ob := K11.ob) (M := 9000) (loose := K11.loose) (d := HandSHeadRun.topDef (OpenLaw.row PySem.Challenge.rw_roadstairs_k11_steps_in_one_form).prog 31) (kwd := []) K11.ob_eq
    (by kernel_rfl) (fun s => by kernel_rfl) K11.run (by kernel_rfl) (by kernel_rfl) (by kernel_rfl) (by rfl) (by first | assumption | decide +kernel) (by decide +kernel) ⟨rfl, rfl, rfl, rfl, rfl, by decide +kernel⟩ ?hw ?hc
  case hw => w_witness2
  case hc =>
    refine L2.walk_ofW (l := PySem.Challenge.rw_roadstairs_k11_steps_in_one_form) (n := 63) (k := 7) (x := "_law_script") (fun w => L2N.CX (PySem.Challenge.rw_roadstairs_k11_steps_in_one_form).prog w) rfl (by decide) (by kernel_rfl) ⟨⟨rfl, by decide, by decide⟩, rfl⟩ ?F (fun w H s e s' h => L2.cx_none w H s e s' h)
    intro w mg fa h Y G hmg0
    obtain ⟨K, KX, c⟩ := Y
    have hmg : mg ("law" : PySem.Str) = some (.ref fa) := by
      have e : (HandSHeadRun.topDef (OpenLaw.row PySem.Challenge.rw_roadstairs_k11_steps_in_one_form).prog 31).name = ("law" : PySem.Str) := by kernel_rfl
      rw [← e]
      exact hmg0
    obtain ⟨fd, hb, hF⟩ := K11.facts (P := (PySem.Challenge.rw_roadstairs_k11_steps_in_one_form).prog) (w := w) KX G hmg c
    exact ⟨K, fd, Dn.spD K 1 K11.F_law, KX, hb, fun H a ns hl hO hS => K11.sp_law hO hS, hF⟩

