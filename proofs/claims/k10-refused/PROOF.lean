import PyProof.Rows.All
import KE.KDictKeyed
import KE.KDictWalk
import HandS.Dict
import HandS.Iter
import HandS.DictComp
import HandS.ForMost
import HandS.ForExc
import HandS.HeadHook2
import HandS.Lambda
import HandS.Style
import HandS.CallSlots
import HandS.Defaults
import HandS.Ends
import HandS.ExcCtx
import KE.GoesEnum
import KE.GoesMore
import HandS.IsInst
import HandS.SortInts
import HandS.SortRule
import HandS.More
import HandS.ClsMeth
import HandS.CallRecv
import HandS.Head0
import HandS.Head1
import HandS.Head2
import HandS.HeadEnd
import HandS.HeadHook1
import KE.KOpsOwn
import HandS.Zip
import HandS.RaiseMore
import PyProof.InstEq
import HandS.TupAny
import HandS.Star
import HandS.Property
import OpenK.KMeth
import OpenK.KOps
import HandS.ExcInit
import HandS.ExcField
import KE.KExcInit
import KE.KCtx
import HandS.HeadNt
import HandS.FStr
import HandS.Conv
import HandS.SetKeys
import HandS.SetBool
import HandS.SetFor
import HandS.WideBits
import PyProof.NoPylong
import HandS.Text
import HandS.Small
import HandS.HeadHook3
import HandS.EndTab
import HandS.EndBits
import HandS.ExcIs
import HandS.DictTup
import KE.KDictPairs
import KE.KDictDisplayH
import PySem.Challenge.RW_roadstairs_k10_stairs_refused
import HandS.Rev
import HandS.Wide
import KE.KDictList
import HandS.Deep
set_option Elab.async false
set_option linter.all false
set_option maxRecDepth 100000
/-! L2DictN: dicts whose keys are tuples that stand anywhere, tracked or written, nested to depth 8: get, in, set, new. -/
namespace L2
open PySem PySem.Spec PyProof.Rows
abbrev NK := PySem.NestedKey
/-- an entry: the key, where its tuple stands, the value -/
abbrev NE := NK × Addr × V
def NV (es : List NE) (xs : List (NK × Addr × Value)) : Prop := Paired (fun p q => p.1 = q.1 ∧ p.2.1 = q.2.1 ∧ RelV p.2.2 q.2.2) es xs
def atN (es : List NE) (k : NK) : Option V := (es.find? fun e => decide (e.1 = k)).map (·.2.2)
def setN (k : NK) (v : V) (e : NE) : NE := if e.1 = k then (e.1, e.2.1, v) else e
def putN (es : List NE) (k : NK) (b : Addr) (v : V) : List NE := if (es.any fun e => decide (e.1 = k)) = true then es.map (setN k v) else es ++ [(k, b, v)]
def entN (w : World) (x : NK × Addr × Value) : DictEntry := ⟨x.1.hash w, .ref x.2.1, x.2.2⟩
/-- what stands at the dict: its entries, and how often it was changed -/
abbrev DsE := Array DictEntry × Nat
def DnP (w : World) (a : Addr) (es : List NE) (r : DsE) (h : Heap) : Prop := es.length ≤ sizeLine ∧ (a == sysModules) = false ∧ ∃ xs, NV es xs ∧ ∃ o, h.get? a = some o ∧ o.ExactDict ∧ o.data = .dict r.1 r.2 ∧ r.1.toList = xs.map (entN w) ∧ (xs.map (·.1)).Nodup
def dnO (w : World) (a : Addr) (es : List NE) (r : DsE) : HO := .ext (DnP w a es r)
/-- a tuple: tracked, or a written one of at most one item -/
def TpA (K : PySem.W.Frag) (H : Hp) (a : Addr) (vs : List V) : Prop := H a = some (.tup vs) ∨ (vs.length ≤ 1 ∧
    ∃ (o : Obj) (its : Array Value) (n : Nat), K.lookup a = some o ∧ o.cls = .type "tuple" ∧ o.data = .seq its n ∧ its.size ≤ sizeLine ∧ Vals vs its.toList)
theorem TpA.sq {K : PySem.W.Frag} {H : Hp} {a : Addr} {vs : List V} (h : TpA K H a vs) : SqT K H a vs := h.elim (fun h => .inl (.inl h)) fun h => .inr h.2
/-! v is the key k -/
mutual
def KyV (K : PySem.W.Frag) (H : Hp) : NK → V → Prop
  | .none, v => v = .non
  | .num i, v => v = .int i
  | .text x, v => v = .str x
  | .tup ks, v => ∃ a vs, v = .ref a ∧ TpA K H a vs ∧ KyL K H ks vs
def KyL (K : PySem.W.Frag) (H : Hp) : List NK → List V → Prop
  | [], vs => vs = []
  | k :: ks, vs => ∃ v r, vs = v :: r ∧ KyV K H k v ∧ KyL K H ks r
end
/-- a tuple that is a key -/
structure KyT (K : PySem.W.Frag) (H : Hp) (k : NK) (b : Addr) : Prop where
  v : KyV K H k (.ref b)
  d : k.depth ≤ 8
def KyE (K : PySem.W.Frag) (H : Hp) (es : List NE) : Prop := ∀ e ∈ es, KyT K H e.1 e.2.1
theorem NV.len {es : List NE} {xs : List (NK × Addr × Value)} (r : NV es xs) : es.length = xs.length := Paired.length r
theorem atN_cons (p : NE) (ps : List NE) (k : NK) : atN (p :: ps) k = if p.1 = k then some p.2.2 else atN ps k := by
  unfold atN
  rw [List.find?_cons]
  split <;> simp_all
theorem atKey_cons (q : NK × Addr × Value) (qs : List (NK × Addr × Value)) (k : NK) : atKey (q :: qs) k = if q.1 = k then some q.2 else atKey qs k := by
  unfold atKey
  rw [List.find?_cons]
  split <;> simp_all
theorem NV.at_ {es : List NE} {xs : List (NK × Addr × Value)} (rel : NV es xs) (k : NK) : RelO (atN es k) ((atKey xs k).map (·.2)) := by
  unfold NV at rel
  induction rel with
  | nil => exact True.intro
  | cons one _ rest =>
    rw [atN_cons, atKey_cons, one.1]
    split
    · exact one.2.2
    · exact rest
theorem NV.any {es : List NE} {xs : List (NK × Addr × Value)} (rel : NV es xs) (k : NK) : (es.any fun e => decide (e.1 = k)) = (atKey xs k).isSome := by
  unfold NV at rel
  induction rel with
  | nil => rfl
  | cons one _ rest =>
    rw [List.any_cons, rest, atKey_cons, one.1]
    split <;> simp_all
theorem NV.repl {es : List NE} {xs : List (NK × Addr × Value)} (rel : NV es xs) (k : NK) {y : V} {u : Value} (new : RelV y u) : NV (es.map (setN k y)) (xs.map (putAt k u)) := by
  unfold NV at rel ⊢
  induction rel with
  | nil => exact .nil
  | @cons p q ps qs one _ rest =>
    refine Paired.cons (?_ : (setN k y p).1 = (putAt k u q).1 ∧ (setN k y p).2.1 = (putAt k u q).2.1 ∧ RelV (setN k y p).2.2 (putAt k u q).2.2) rest
    unfold setN putAt
    rw [one.1]
    split
    · exact ⟨rfl, one.2.1, new⟩
    · exact one
theorem NV.put {es : List NE} {xs : List (NK × Addr × Value)} (rel : NV es xs) (k : NK) (b : Addr) {y : V} {u : Value} (new : RelV y u) : NV (putN es k b y) (storedH xs k b u) := by
  unfold putN storedH
  rw [rel.any]
  split
  · exact rel.repl k new
  · exact Paired.snoc rel ⟨rfl, rfl, new⟩
theorem NV.mem {es : List NE} {xs : List (NK × Addr × Value)} (r : NV es xs) : ∀ x ∈ xs, ∃ e ∈ es, e.1 = x.1 ∧ e.2.1 = x.2.1 := by
  unfold NV at r
  induction r with
  | nil => intro x hx; cases hx
  | @cons p q ps qs h t ih =>
    intro x hx
    rcases List.mem_cons.mp hx with rfl | hx
    · exact ⟨p, List.mem_cons_self .., h.1, h.2.1⟩
    · obtain ⟨e, he, z⟩ := ih x hx
      exact ⟨e, List.mem_cons_of_mem _ he, z⟩
section
variable {X : Cx} {pins : List (Addr × Obj)} {σ : St} {H : Hp} {s : Shared} {a b : Addr} {k : NK}
mutual
theorem KyV.is (I : Inv X pins σ H s) : ∀ (k : NK) (v : V) (u : Value), KyV X.K H k v → RelV v u → NestedIs s.heap k u
  | .none, v, u, h, r => by
    unfold KyV at h
    subst h
    obtain rfl : u = Value.none := r
    exact .none
  | .num i, v, u, h, r => by
    unfold KyV at h
    subst h
    obtain ⟨tok, rfl⟩ := (show ∃ tok, u = Value.int i tok from r)
    exact .int i tok
  | .text x, v, u, h, r => by
    unfold KyV at h
    subst h
    obtain ⟨tok, rfl⟩ := (show ∃ tok, u = Value.str x tok from r)
    exact .text x tok
  | .tup ks, v, u, h, r => by
    unfold KyV at h
    obtain ⟨a, vs, rfl, h1, h2⟩ := h
    obtain rfl : u = Value.ref a := r
    obtain ⟨its, z1, ⟨o, z2, z3, n, z4⟩, _⟩ := I.tuple h1.sq
    exact .tup z2 z3 z4 (by simpa using KyL.is I ks vs its h2 z1)
theorem KyL.is (I : Inv X pins σ H s) : ∀ (ks : List NK) (vs : List V) (us : List Value), KyL X.K H ks vs → Vals vs us → NestedAll s.heap ks us
  | [], vs, us, h, r => by
    unfold KyL at h
    subst h
    cases r
    exact .nil
  | k :: ks, vs, us, h, r => by
    unfold KyL at h
    obtain ⟨v, w, rfl, h1, h2⟩ := h
    cases r with
    | cons r1 r2 => exact .cons (KyV.is I k v _ h1 r1) (KyL.is I ks w _ h2 r2)
end
theorem KyT.is (I : Inv X pins σ H s) (h : KyT X.K H k b) : (nestedKind X.prog X.w).is s.heap k b := ⟨KyV.is I k _ _ h.v rfl, h.d⟩
end
section
variable {X : Cx} {pos : Pos} {o i e : Expr} {td ty te : TE}
end
section
variable {X : Cx} {pins : List (Addr × Obj)} {σ : St} {H : Hp} {s : Shared} {a b : Addr} {k : NK}
end
end L2


set_option Elab.async false
set_option linter.all false
set_option maxRecDepth 100000
/-! DnBase: plain data, cells, how they stand in the abstract heap, how the heap goes on. -/
namespace Dn
open PySem L2

/-- plain data: what no longer changes; ref n: the n-th cell -/
inductive D where
  | non | bl (b : Bool) | int (i : Int) | str (x : Str)
  | tup (xs : List D) | tpk (xs : List D) | lst (xs : List D) | dct (kvs : List (Key × D)) | dcT (kvs : List (List Key × D)) | dcN (w : PySem.World) (kvs : List (NK × D)) | obj (c : Str) (fs : List (Str × D))
  | ref (n : Nat) | scr (xs : List Int) | cl (c : Str) | clo (a : Addr) (ds : List D) (us : List V)
/-- what may change -/
inductive Cell where
  | lst (xs : List D) | dct (kvs : List (Key × D)) | dcT (kvs : List (List Key × D)) | dcN (w : PySem.World) (kvs : List (NK × D)) | ins (c : Str) (fs : List (Str × D)) | dead
abbrev Om := List Cell
abbrev Gm := List (Option D)
/-- an error: its class, its attributes -/
structure Xn where
  cls : Str
  fs : List (Str × D)
inductive Rs (α : Type) where
  | ok (a : α) | ex (e : Xn)

/-- where the cells stand; hid: lists under construction, which no data name -/
structure Mp where
  l : List Addr
  hid : Addr → Prop
/-- what may still change -/
def Live (m : Mp) (Ω : Om) (a : Addr) : Prop := (∃ (n : Nat) (c : Cell), m.l[n]? = some a ∧ Ω[n]? = some c ∧ c ≠ Cell.dead) ∨ m.hid a
/-- the script -/
def ScrL (K : PySem.W.Frag) (H : Hp) (a : Addr) (vs : List V) : Prop := (∃ o, H a = some (.frz o (.lst vs))) ∨
    ∃ (o : Obj) (its : Array Value) (n : Nat), K.lookup a = some o ∧ o.cls = .type "list" ∧ o.dict = none ∧ o.data = .seq its n ∧ its.size ≤ sizeLine ∧ Vals vs its.toList
theorem ScrL.sq {K : PySem.W.Frag} {H : Hp} {a : Addr} {vs : List V} (h : ScrL K H a vs) : SqL K H a vs := h.elim (fun ⟨o, h⟩ => .inl (.inr ⟨o, h⟩)) .inr

/-- a tuple that is known to have no __dict__ -/
def TpK (H : Hp) (a : Addr) (vs : List V) : Prop := ∃ o, H a = some (.frz o (.tup vs)) ∧ o.dict = none
theorem TpK.sq {K : PySem.W.Frag} {H : Hp} {a : Addr} {vs : List V} (h : TpK H a vs) : SqT K H a vs := let ⟨o, h, _⟩ := h; .inl (.inr ⟨o, h⟩)
section
variable (K : PySem.W.Frag) (m : Mp) (Ω : Om) (H : Hp)
mutual
def Rl : D → V → Prop
  | .non, v => v = .non
  | .bl b, v => v = .bl b
  | .int i, v => v = .int i
  | .str x, v => v = .str x
  | .tup xs, v => ∃ a vs, v = .ref a ∧ TpA K H a vs ∧ RlL xs vs
  | .tpk xs, v => ∃ a vs, v = .ref a ∧ TpK H a vs ∧ RlL xs vs
  | .lst xs, v => ∃ a vs, v = .ref a ∧ H a = some (.lst vs) ∧ ¬ Live m Ω a ∧ RlL xs vs
  | .dct kvs, v => ∃ a ws, v = .ref a ∧ Rd H a (.dK ws) ∧ ¬ Live m Ω a ∧ RlK kvs ws
  | .dcT kvs, v => ∃ a ws, v = .ref a ∧ Rd H a (.dT ws) ∧ ¬ Live m Ω a ∧ RlT kvs ws
  | .dcN w kvs, v => ∃ a es, v = .ref a ∧ (∃ q, H a = some (dnO w a es q)) ∧ KyE K H es ∧ ¬ Live m Ω a ∧ RlN kvs es
  | .obj c fs, v => ∃ a dx gs, v = .ref a ∧ H a = some (.ins (He.ga K c) dx gs) ∧ ¬ Live m Ω a ∧ RlF fs gs
  | .ref n, v => ∃ a, v = .ref a ∧ m.l[n]? = some a
  | .scr xs, v => ∃ a, v = .ref a ∧ ScrL K H a (xs.map V.int)
  | .cl c, v => v = .ref (He.ga K c)
  | .clo a ds us, v => v = .ref a ∧ RlL ds us
def RlL : List D → List V → Prop
  | [], vs => vs = []
  | d :: ds, vs => ∃ v r, vs = v :: r ∧ Rl d v ∧ RlL ds r
def RlK : List (Key × D) → List (Key × V) → Prop
  | [], vs => vs = []
  | (k, d) :: ds, vs => ∃ v r, vs = (k, v) :: r ∧ Rl d v ∧ RlK ds r
def RlT : List (List Key × D) → List (List Key × V) → Prop
  | [], vs => vs = []
  | (k, d) :: ds, vs => ∃ v r, vs = (k, v) :: r ∧ Rl d v ∧ RlT ds r
def RlN : List (NK × D) → List NE → Prop
  | [], es => es = []
  | (k, d) :: ds, es => ∃ b v r, es = (k, b, v) :: r ∧ Rl d v ∧ RlN ds r
def RlF : List (Str × D) → List (Str × V) → Prop
  | [], vs => vs = []
  | (k, d) :: ds, vs => ∃ v r, vs = (k, v) :: r ∧ Rl d v ∧ RlF ds r
end
/-- what may stand hidden, under construction -/
def HidO : HO → Prop
  | .lst _ => True
  | .dK _ => True
  | .dT _ => True
  | .ext _ => True
  | .ins _ _ _ => True
  | _ => False
def CellOk : Cell → Addr → Prop
  | .lst xs, a => ∃ vs, H a = some (.lst vs) ∧ RlL K m Ω H xs vs
  | .dct kvs, a => ∃ ws, H a = some (.dK ws) ∧ RlK K m Ω H kvs ws
  | .dcT kvs, a => ∃ ws, H a = some (.dT ws) ∧ RlT K m Ω H kvs ws
  | .dcN w kvs, a => ∃ es, (∃ q, H a = some (dnO w a es q)) ∧ KyE K H es ∧ RlN K m Ω H kvs es
  | .ins c fs, a => ∃ dx gs, H a = some (.ins (He.ga K c) dx gs) ∧ RlF K m Ω H fs gs
  | .dead, a => ∃ o, H a = some o
/-- code objects' tables: each code object that such a table tells bears the name q -/
def TbF (H : Hp) (p : Addr × Str) : Prop := ∃ ps : Array Value, H p.1 = some (.tbl ps) ∧ TriplesOk ps.toList ∧ ∀ (pos : Pos) (cv : Value), codeAmong pos ps.toList = some cv → ∃ (c : Addr) (oc : Obj) (vs : Array Value) (t : Tok), cv = .ref c ∧ H c = some (.frz oc (.own 0)) ∧ oc.data = .fields vs ∧ vs[1]? = some (.str p.2 t)
/-- the tables that a fragment names behind its own entries -/
def tbD : List Value → List (Addr × Str)
  | .ref P :: .str q _ :: r => (P, q) :: tbD r
  | _ => []
def tbK (K : PySem.W.Frag) : List (Addr × Str) := match K.getLast? with
  | some (_, o) => (match o.data with
    | .fields vs => tbD vs.toList
    | _ => [])
  | none => []
def TbO (K : PySem.W.Frag) (H : Hp) : Prop := ∀ p ∈ tbK K, TbF H p
structure CellsOk : Prop where
  len : m.l.length = Ω.length
  nd : m.l.Nodup
  at_ : ∀ (n : Nat) c a, Ω[n]? = some c → m.l[n]? = some a → CellOk K m Ω H c a
  hl : ∀ a, m.hid a → (∃ o, H a = some o ∧ HidO o) ∧ a ∉ m.l
  tb : TbO K H
end

/-- what stays: as it is, or a dict locked from then on -/
def Stay (o o' : HO) : Prop := o' = o ∨ (∃ kvs od, o = .dK kvs ∧ o' = .frz od (.dK kvs)) ∨ (∃ kvs od, o = .dT kvs ∧ o' = .frz od (.dT kvs)) ∨ ∃ ps qs, o = .tbl ps ∧ o' = .tbl qs
theorem Stay.trans {o o1 o2 : HO} (x : Stay o o1) (y : Stay o1 o2) : Stay o o2 := by
  rcases x with x | ⟨kvs, od, x, z⟩ | ⟨kvs, od, x, z⟩ | ⟨ps, qs, x, z⟩
  · subst x; exact y
  · subst x z
    rcases y with y | ⟨_, _, y, _⟩ | ⟨_, _, y, _⟩ | ⟨_, _, y, _⟩
    · subst y; exact .inr (.inl ⟨_, _, rfl, rfl⟩)
    · cases y
    · cases y
    · cases y
  · subst x z
    rcases y with y | ⟨_, _, y, _⟩ | ⟨_, _, y, _⟩ | ⟨_, _, y, _⟩
    · subst y; exact .inr (.inr (.inl ⟨_, _, rfl, rfl⟩))
    · cases y
    · cases y
    · cases y
  · subst x z
    rcases y with y | ⟨_, _, y, _⟩ | ⟨_, _, y, _⟩ | ⟨_, _, y, z⟩
    · subst y; exact .inr (.inr (.inr ⟨_, _, rfl, rfl⟩))
    · cases y
    · cases y
    · exact .inr (.inr (.inr ⟨_, _, rfl, z⟩))
/-- the heap has gone on, by the cells alone -/
structure Gw (K : PySem.W.Frag) (m : Mp) (Ω : Om) (H : Hp) (m' : Mp) (Ω' : Om) (H' : Hp) : Prop where
  pre : ∀ (n : Nat) a, m.l[n]? = some a → m'.l[n]? = some a
  frame0 : ∀ a o, H a = some o → ¬ Live m Ω a → ∃ o', H' a = some o' ∧ Stay o o'
  norev : ∀ a o, H a = some o → Live m' Ω' a → Live m Ω a
structure Go (K : PySem.W.Frag) (m : Mp) (Ω : Om) (H : Hp) (m' : Mp) (Ω' : Om) (H' : Hp) : Prop extends Gw K m Ω H m' Ω' H' where
  ok : CellsOk K m' Ω' H'
  hk : ∀ a o, m.hid a → H a = some o → H' a = some o
  hs : ∀ a, m.hid a → m'.hid a

section
variable {K : PySem.W.Frag} {m m1 m' : Mp} {Ω Ω1 Ω' : Om} {H H1 H' : Hp}
theorem Gw.of (p : ∀ (n : Nat) a, m.l[n]? = some a → m'.l[n]? = some a) (f : ∀ a o, H a = some o → ¬ Live m Ω a → H' a = some o) (n : ∀ a o, H a = some o → Live m' Ω' a → Live m Ω a) : Gw K m Ω H m' Ω' H' := ⟨p, fun a o h l => ⟨o, f a o h l, .inl rfl⟩, n⟩
theorem Gw.frame (g : Gw K m Ω H m' Ω' H') (a : Addr) (o : HO) (h : H a = some o) (l : ¬ Live m Ω a) (hn : ∀ kvs, o ≠ .dK kvs := by intro _ z; cases z) (hn2 : ∀ kvs, o ≠ .dT kvs := by intro _ z; cases z) (hn3 : ∀ ps, o ≠ .tbl ps := by intro _ z; cases z) : H' a = some o := by
  obtain ⟨o', h', s⟩ := g.frame0 a o h l
  rcases s with s | ⟨kvs, _, s, _⟩ | ⟨kvs, _, s, _⟩ | ⟨ps, _, s, _⟩
  · rw [h', s]
  · exact (hn kvs s).elim
  · exact (hn2 kvs s).elim
  · exact (hn3 ps s).elim
theorem Gw.frameK (g : Gw K m Ω H m' Ω' H') {a : Addr} {ws : List (Key × V)} (h : H a = some (.dK ws)) (l : ¬ Live m Ω a) : Rd H' a (.dK ws) := by
  obtain ⟨o', h', s⟩ := g.frame0 a _ h l
  rcases s with s | ⟨kvs, od, s, z⟩ | ⟨kvs, od, s, z⟩ | ⟨_, _, s, _⟩
  · exact .inl (by rw [h', s])
  · cases s; exact .inr ⟨od, by rw [h', z]⟩
  · cases s
  · cases s
theorem Gw.frameT (g : Gw K m Ω H m' Ω' H') {a : Addr} {ws : List (List Key × V)} (h : H a = some (.dT ws)) (l : ¬ Live m Ω a) : Rd H' a (.dT ws) := by
  obtain ⟨o', h', s⟩ := g.frame0 a _ h l
  rcases s with s | ⟨kvs, od, s, z⟩ | ⟨kvs, od, s, z⟩ | ⟨_, _, s, _⟩
  · exact .inl (by rw [h', s])
  · cases s
  · cases s; exact .inr ⟨od, by rw [h', z]⟩
  · cases s
theorem Go.refl (c : CellsOk K m Ω H) : Go K m Ω H m Ω H := ⟨.of (fun _ _ h => h) (fun _ _ h _ => h) (fun _ _ _ h => h), c, fun _ _ _ h => h, fun _ h => h⟩
theorem Go.trans (x : Go K m Ω H m1 Ω1 H1) (y : Go K m1 Ω1 H1 m' Ω' H') : Go K m Ω H m' Ω' H' where
  pre := fun n a h => y.pre n a (x.pre n a h)
  frame0 := fun a o h l => let ⟨o1, h1, s1⟩ := x.frame0 a o h l; let ⟨o2, h2, s2⟩ := y.frame0 a o1 h1 fun z => l (x.norev a o h z); ⟨o2, h2, s1.trans s2⟩
  norev := fun a o h l => Classical.byContradiction fun z => let ⟨o1, h1, _⟩ := x.frame0 a o h z; z (x.norev a o h (y.norev a o1 h1 l))
  ok := y.ok
  hk := fun a o h e => y.hk a o (x.hs a h) (x.hk a o h e)
  hs := fun a h => y.hs a (x.hs a h)
theorem Gw.trans (x : Gw K m Ω H m1 Ω1 H1) (y : Gw K m1 Ω1 H1 m' Ω' H') : Gw K m Ω H m' Ω' H' where
  pre := fun n a h => y.pre n a (x.pre n a h)
  frame0 := fun a o h l => let ⟨o1, h1, s1⟩ := x.frame0 a o h l; let ⟨o2, h2, s2⟩ := y.frame0 a o1 h1 fun z => l (x.norev a o h z); ⟨o2, h2, s1.trans s2⟩
  norev := fun a o h l => Classical.byContradiction fun z => let ⟨o1, h1, _⟩ := x.frame0 a o h z; z (x.norev a o h (y.norev a o1 h1 l))
theorem CellsOk.live (c : CellsOk K m Ω H) {a : Addr} (l : Live m Ω a) : (∃ vs, H a = some (.lst vs)) ∨ (∃ ws, H a = some (.dK ws)) ∨ (∃ C dx gs, H a = some (.ins C dx gs)) ∨ (∃ f, H a = some (.ext f)) ∨ ∃ ws, H a = some (.dT ws) := by
  rcases l with ⟨n, x, h1, h2, h3⟩ | l
  · have q := c.at_ n x a h2 h1
    cases x with
    | lst xs => obtain ⟨vs, h, _⟩ := q; exact .inl ⟨vs, h⟩
    | dct xs => obtain ⟨vs, h, _⟩ := q; exact .inr (.inl ⟨vs, h⟩)
    | dcT xs => obtain ⟨vs, h, _⟩ := q; exact .inr (.inr (.inr (.inr ⟨vs, h⟩)))
    | dcN w xs => obtain ⟨vs, ⟨_, h⟩, _⟩ := q; exact .inr (.inr (.inr (.inl ⟨_, h⟩)))
    | ins c fs => obtain ⟨dx, gs, h, _⟩ := q; exact .inr (.inr (.inl ⟨_, dx, gs, h⟩))
    | dead => exact (h3 rfl).elim
  · obtain ⟨⟨o, q, w⟩, _⟩ := c.hl a l
    cases o with
    | lst vs => exact .inl ⟨vs, q⟩
    | dK ws => exact .inr (.inl ⟨ws, q⟩)
    | dT ws => exact .inr (.inr (.inr (.inr ⟨ws, q⟩)))
    | ext f => exact .inr (.inr (.inr (.inl ⟨f, q⟩)))
    | ins C dx gs => exact .inr (.inr (.inl ⟨_, _, _, q⟩))
    | _ => exact w.elim
theorem CellsOk.some (c : CellsOk K m Ω H) {n : Nat} {a : Addr} (h : m.l[n]? = some a) : ∃ o, H a = Option.some o := by
  have hn : n < Ω.length := by rw [← c.len]; exact (List.getElem?_eq_some_iff.mp h).1
  have q := c.at_ n _ a (List.getElem?_eq_getElem hn) h
  cases e : Ω[n] with
  | lst xs => rw [e] at q; obtain ⟨vs, h, _⟩ := q; exact ⟨_, h⟩
  | dct xs => rw [e] at q; obtain ⟨vs, h, _⟩ := q; exact ⟨_, h⟩
  | dcT xs => rw [e] at q; obtain ⟨vs, h, _⟩ := q; exact ⟨_, h⟩
  | dcN w xs => rw [e] at q; obtain ⟨vs, ⟨_, h⟩, _⟩ := q; exact ⟨_, h⟩
  | ins c fs => rw [e] at q; obtain ⟨dx, gs, h, _⟩ := q; exact ⟨_, h⟩
  | dead => rw [e] at q; exact q
theorem CellsOk.tup (c : CellsOk K m Ω H) {a : Addr} {vs : List V} (h : H a = Option.some (.tup vs)) : ¬ Live m Ω a := fun l => by
  rcases c.live l with ⟨x, q⟩ | ⟨x, q⟩ | ⟨x, y, z, q⟩ | ⟨x, q⟩ | ⟨x, q⟩ <;> (rw [h] at q; cases q)
theorem CellsOk.frz (c : CellsOk K m Ω H) {a : Addr} {o : Obj} {u : HO} (h : H a = Option.some (.frz o u)) : ¬ Live m Ω a := fun l => by
  rcases c.live l with ⟨x, q⟩ | ⟨x, q⟩ | ⟨x, y, z, q⟩ | ⟨x, q⟩ | ⟨x, q⟩ <;> (rw [h] at q; cases q)
theorem Gw.sqT (g : Gw K m Ω H m' Ω' H') (c : CellsOk K m Ω H) {a : Addr} {vs : List V} (h : SqT K H a vs) : SqT K H' a vs := by
  rcases h with (h | ⟨o, h⟩) | h
  · exact .inl (.inl (g.frame _ _ h (c.tup h)))
  · exact .inl (.inr ⟨o, g.frame _ _ h (c.frz h)⟩)
  · exact .inr h
theorem Gw.tpA (g : Gw K m Ω H m' Ω' H') (c : CellsOk K m Ω H) {a : Addr} {vs : List V} (h : TpA K H a vs) : TpA K H' a vs := h.imp (fun h => g.frame _ _ h (c.tup h)) fun h => h
theorem Gw.scr (g : Gw K m Ω H m' Ω' H') (c : CellsOk K m Ω H) {a : Addr} {vs : List V} (h : ScrL K H a vs) : ScrL K H' a vs := by
  rcases h with ⟨o, h⟩ | h
  · exact .inl ⟨o, g.frame _ _ h (c.frz h)⟩
  · exact .inr h
mutual
theorem KyV.go (g : Gw K m Ω H m' Ω' H') (c : CellsOk K m Ω H) : ∀ (k : NK) (v : V), KyV K H k v → KyV K H' k v
  | .none, v, h => by unfold KyV at h ⊢; exact h
  | .num _, v, h => by unfold KyV at h ⊢; exact h
  | .text _, v, h => by unfold KyV at h ⊢; exact h
  | .tup ks, v, h => by
    unfold KyV at h ⊢
    obtain ⟨a, vs, e, h1, h2⟩ := h
    exact ⟨a, vs, e, g.tpA c h1, KyL.go g c ks vs h2⟩
theorem KyL.go (g : Gw K m Ω H m' Ω' H') (c : CellsOk K m Ω H) : ∀ (ks : List NK) (vs : List V), KyL K H ks vs → KyL K H' ks vs
  | [], vs, h => by unfold KyL at h ⊢; exact h
  | k :: ks, vs, h => by
    unfold KyL at h ⊢
    obtain ⟨v, r, e, h1, h2⟩ := h
    exact ⟨v, r, e, KyV.go g c k v h1, KyL.go g c ks r h2⟩
end
theorem KyE.go (g : Gw K m Ω H m' Ω' H') (c : CellsOk K m Ω H) {es : List NE} (h : KyE K H es) : KyE K H' es := fun e he => ⟨KyV.go g c _ _ (h e he).v, (h e he).d⟩
mutual
theorem Rl.go (g : Gw K m Ω H m' Ω' H') (c : CellsOk K m Ω H) : ∀ (d : D) (v : V), Rl K m Ω H d v → Rl K m' Ω' H' d v
  | .non, v, h => h
  | .bl _, v, h => h
  | .int _, v, h => h
  | .str _, v, h => h
  | .tpk xs, v, h => by
    unfold Rl at h ⊢
    obtain ⟨a, vs, e, ⟨o, h1, hd⟩, h2⟩ := h
    exact ⟨a, vs, e, ⟨o, g.frame _ _ h1 (c.frz h1), hd⟩, RlL.go g c xs vs h2⟩
  | .tup xs, v, h => by
    unfold Rl at h ⊢
    obtain ⟨a, vs, e, h1, h2⟩ := h
    exact ⟨a, vs, e, g.tpA c h1, RlL.go g c xs vs h2⟩
  | .lst xs, v, h => by
    unfold Rl at h ⊢
    obtain ⟨a, vs, e, h1, l, h2⟩ := h
    exact ⟨a, vs, e, g.frame _ _ h1 l, fun z => l (g.norev _ _ h1 z), RlL.go g c xs vs h2⟩
  | .dct xs, v, h => by
    unfold Rl at h ⊢
    obtain ⟨a, vs, e, h1, l, h2⟩ := h
    rcases h1 with h1 | ⟨o, h1⟩
    · exact ⟨a, vs, e, g.frameK h1 l, fun z => l (g.norev _ _ h1 z), RlK.go g c xs vs h2⟩
    · exact ⟨a, vs, e, .inr ⟨o, g.frame _ _ h1 l⟩, fun z => l (g.norev _ _ h1 z), RlK.go g c xs vs h2⟩
  | .dcT xs, v, h => by
    unfold Rl at h ⊢
    obtain ⟨a, vs, e, h1, l, h2⟩ := h
    rcases h1 with h1 | ⟨o, h1⟩
    · exact ⟨a, vs, e, g.frameT h1 l, fun z => l (g.norev _ _ h1 z), RlT.go g c xs vs h2⟩
    · exact ⟨a, vs, e, .inr ⟨o, g.frame _ _ h1 l⟩, fun z => l (g.norev _ _ h1 z), RlT.go g c xs vs h2⟩
  | .dcN w xs, v, h => by
    unfold Rl at h ⊢
    obtain ⟨a, es, e, ⟨q, h1⟩, hk, l, h2⟩ := h
    exact ⟨a, es, e, ⟨q, g.frame _ _ h1 l⟩, KyE.go g c hk, fun z => l (g.norev _ _ h1 z), RlN.go g c xs es h2⟩
  | .obj k fs, v, h => by
    unfold Rl at h ⊢
    obtain ⟨a, dx, gs, e, h1, l, h2⟩ := h
    exact ⟨a, dx, gs, e, g.frame _ _ h1 l, fun z => l (g.norev _ _ h1 z), RlF.go g c fs gs h2⟩
  | .ref n, v, h => by
    unfold Rl at h ⊢
    obtain ⟨a, e, h1⟩ := h
    exact ⟨a, e, g.pre n a h1⟩
  | .scr xs, v, h => by
    unfold Rl at h ⊢
    obtain ⟨a, e, h1⟩ := h
    exact ⟨a, e, g.scr c h1⟩
  | .cl _, v, h => by unfold Rl at h ⊢; exact h
  | .clo _ ds us, v, h => by unfold Rl at h ⊢; exact ⟨h.1, RlL.go g c ds us h.2⟩
theorem RlL.go (g : Gw K m Ω H m' Ω' H') (c : CellsOk K m Ω H) : ∀ (ds : List D) (vs : List V), RlL K m Ω H ds vs → RlL K m' Ω' H' ds vs
  | [], vs, h => by unfold RlL at h ⊢; exact h
  | d :: ds, vs, h => by
    unfold RlL at h ⊢
    obtain ⟨v, r, e, h1, h2⟩ := h
    exact ⟨v, r, e, Rl.go g c d v h1, RlL.go g c ds r h2⟩
theorem RlK.go (g : Gw K m Ω H m' Ω' H') (c : CellsOk K m Ω H) : ∀ (ds : List (Key × D)) (vs : List (Key × V)), RlK K m Ω H ds vs → RlK K m' Ω' H' ds vs
  | [], vs, h => by unfold RlK at h ⊢; exact h
  | (k, d) :: ds, vs, h => by
    unfold RlK at h ⊢
    obtain ⟨v, r, e, h1, h2⟩ := h
    exact ⟨v, r, e, Rl.go g c d v h1, RlK.go g c ds r h2⟩
theorem RlT.go (g : Gw K m Ω H m' Ω' H') (c : CellsOk K m Ω H) : ∀ (ds : List (List Key × D)) (vs : List (List Key × V)), RlT K m Ω H ds vs → RlT K m' Ω' H' ds vs
  | [], vs, h => by unfold RlT at h ⊢; exact h
  | (k, d) :: ds, vs, h => by
    unfold RlT at h ⊢
    obtain ⟨v, r, e, h1, h2⟩ := h
    exact ⟨v, r, e, Rl.go g c d v h1, RlT.go g c ds r h2⟩
theorem RlN.go (g : Gw K m Ω H m' Ω' H') (c : CellsOk K m Ω H) : ∀ (ds : List (NK × D)) (es : List NE), RlN K m Ω H ds es → RlN K m' Ω' H' ds es
  | [], es, h => by unfold RlN at h ⊢; exact h
  | (k, d) :: ds, es, h => by
    unfold RlN at h ⊢
    obtain ⟨b, v, r, e, h1, h2⟩ := h
    exact ⟨b, v, r, e, Rl.go g c d v h1, RlN.go g c ds r h2⟩
theorem RlF.go (g : Gw K m Ω H m' Ω' H') (c : CellsOk K m Ω H) : ∀ (ds : List (Str × D)) (vs : List (Str × V)), RlF K m Ω H ds vs → RlF K m' Ω' H' ds vs
  | [], vs, h => by unfold RlF at h ⊢; exact h
  | (k, d) :: ds, vs, h => by
    unfold RlF at h ⊢
    obtain ⟨v, r, e, h1, h2⟩ := h
    exact ⟨v, r, e, Rl.go g c d v h1, RlF.go g c ds r h2⟩
end
theorem CellsOk.tbl (c : CellsOk K m Ω H) {a : Addr} {ps : Array Value} (h : H a = Option.some (.tbl ps)) : ¬ Live m Ω a := fun l => by
  rcases c.live l with ⟨x, q⟩ | ⟨x, q⟩ | ⟨x, y, z, q⟩ | ⟨x, q⟩ | ⟨x, q⟩ <;> (rw [h] at q; cases q)
theorem TbO.go (c : CellsOk K m Ω H) (g : Gw K m Ω H m' Ω' H') (f : ∀ a ps, H a = Option.some (.tbl ps) → ¬ Live m Ω a → H' a = Option.some (.tbl ps)) : TbO K H' := fun p hp => by
  obtain ⟨ps, h1, h2, h3⟩ := c.tb p hp
  refine ⟨ps, f _ _ h1 (c.tbl h1), h2, fun pos cv e => ?_⟩
  obtain ⟨d, oc, vs, t, e1, e2, e3⟩ := h3 pos cv e
  exact ⟨d, oc, vs, t, e1, g.frame _ _ e2 (c.frz e2), e3⟩
theorem TbO.up (t : TbO K H) (f : ∀ a ps, H a = Option.some (.tbl ps) → H' a = Option.some (.tbl ps)) (k : ∀ a o, H a = Option.some (.frz o (.own 0)) → H' a = Option.some (.frz o (.own 0))) : TbO K H' := fun p hp => by
  obtain ⟨ps, h1, h2, h3⟩ := t p hp
  refine ⟨ps, f _ _ h1, h2, fun pos cv e => ?_⟩
  obtain ⟨d, oc, vs, t, e1, e2, e3⟩ := h3 pos cv e
  exact ⟨d, oc, vs, t, e1, k _ _ e2, e3⟩
/-- an object that the cells do not know is new -/
theorem CellsOk.fresh (c : CellsOk K m Ω H) {p : Addr} (h : H p = none) : p ∉ m.l := fun z => by
  obtain ⟨n, hn, e⟩ := List.mem_iff_getElem.mp z
  obtain ⟨o, q⟩ := c.some (n := n) (a := p) (by rw [List.getElem?_eq_getElem hn, e])
  rw [h] at q; cases q
theorem CellsOk.freshH (c : CellsOk K m Ω H) {p : Addr} (h : H p = none) : ¬ m.hid p := fun z => by
  obtain ⟨⟨vs, q, _⟩, _⟩ := c.hl p z
  rw [h] at q; cases q
theorem CellsOk.freshL (c : CellsOk K m Ω H) {p : Addr} (h : H p = none) : ¬ Live m Ω p := fun l => by
  rcases l with ⟨n, x, h1, _⟩ | l
  · exact c.fresh h (List.mem_of_getElem? h1)
  · exact c.freshH h l
theorem CellOk.go (g : Gw K m Ω H m' Ω' H') (c : CellsOk K m Ω H) {a : Addr} : ∀ x : Cell, CellOk K m Ω H x a → (∀ o, H a = some o → H' a = some o) → CellOk K m' Ω' H' x a
  | .lst xs, ⟨vs, h, r⟩, f => ⟨vs, f _ h, RlL.go g c xs vs r⟩
  | .dct xs, ⟨vs, h, r⟩, f => ⟨vs, f _ h, RlK.go g c xs vs r⟩
  | .dcT xs, ⟨vs, h, r⟩, f => ⟨vs, f _ h, RlT.go g c xs vs r⟩
  | .dcN _ xs, ⟨es, ⟨q, h⟩, hk, r⟩, f => ⟨es, ⟨q, f _ h⟩, KyE.go g c hk, RlN.go g c xs es r⟩
  | .ins _ xs, ⟨dx, vs, h, r⟩, f => ⟨dx, vs, f _ h, RlF.go g c xs vs r⟩
  | .dead, ⟨o, h⟩, f => ⟨o, f _ h⟩
theorem CellsOk.nodup_ix (c : CellsOk K m Ω H) {i j : Nat} {a : Addr} (h1 : m.l[i]? = Option.some a) (h2 : m.l[j]? = Option.some a) : i = j := by
  obtain ⟨l1, e1⟩ := List.getElem?_eq_some_iff.mp h1
  obtain ⟨l2, e2⟩ := List.getElem?_eq_some_iff.mp h2
  exact (List.getElem_inj c.nd).mp (e1.trans e2.symm)
/-- a new object beside the cells -/
theorem Go.new (c : CellsOk K m Ω H) {p : Addr} {o : HO} (h : H p = none) : Go K m Ω H m Ω (upd H p o) := by
  have k : ∀ a u, H a = some u → upd H p o a = some u := fun a u q => by rw [upd_ne (ne_of_none q h)]; exact q
  have g : Gw K m Ω H m Ω (upd H p o) := .of (fun _ _ h => h) (fun a u q _ => k a u q) (fun _ _ _ l => l)
  exact ⟨g, ⟨c.len, c.nd, fun n x a h1 h2 => (c.at_ n x a h1 h2).go g c x fun u q => k a u q, fun a ha => let ⟨⟨vs, q, w⟩, z⟩ := c.hl a ha; ⟨⟨vs, k a _ q, w⟩, z⟩, TbO.go c g fun a ps q _ => k a _ q⟩, fun a u _ q => k a u q, fun _ z => z⟩
/-- one cell more -/
def Mp.add (m : Mp) (p : Addr) : Mp := ⟨m.l ++ [p], m.hid⟩
/-- a new cell -/
theorem Go.cell (c : CellsOk K m Ω H) {p : Addr} {o : HO} {x : Cell} (h : H p = none) (hx : ∀ g : Gw K m Ω H (m.add p) (Ω ++ [x]) (upd H p o), CellOk K (m.add p) (Ω ++ [x]) (upd H p o) x p) : Go K m Ω H (m.add p) (Ω ++ [x]) (upd H p o) := by
  have hp := c.fresh h
  have k : ∀ a u, H a = some u → upd H p o a = some u := fun a u q => by rw [upd_ne (ne_of_none q h)]; exact q
  have g : Gw K m Ω H (m.add p) (Ω ++ [x]) (upd H p o) := .of (fun n a h => by show (m.l ++ [p])[n]? = some a; rw [List.getElem?_append_left (List.getElem?_eq_some_iff.mp h).1]; exact h) (fun a u q _ => k a u q) (fun a u q l => by
    rcases l with ⟨n, y, h1, h2, h3⟩ | l
    · have h1 : (m.l ++ [p])[n]? = some a := h1
      by_cases hn : n < m.l.length
      · rw [List.getElem?_append_left hn] at h1
        rw [List.getElem?_append_left (by rw [← c.len]; exact hn)] at h2
        exact .inl ⟨n, y, h1, h2, h3⟩
      · rw [List.getElem?_append_right (Nat.le_of_not_lt hn)] at h1
        have e : a = p := by
          cases hk : n - m.l.length with
          | zero => rw [hk] at h1; exact (Option.some.inj h1).symm
          | succ k => rw [hk] at h1; simp at h1
        rw [e, h] at q
        cases q
    · exact .inr l)
  refine ⟨g, ⟨by show (m.l ++ [p]).length = _; rw [List.length_append, List.length_append, c.len]; rfl, ?_, fun n y a h1 h2 => ?_, fun a ha => ?_, TbO.go c g fun a ps q _ => k a _ q⟩, fun a u _ q => k a u q, fun _ z => z⟩
  · show (m.l ++ [p]).Nodup
    rw [List.nodup_append]
    exact ⟨c.nd, by simp, fun a ha b hb => by
      have e : b = p := by simpa using hb
      rw [e]
      intro z
      exact hp (z ▸ ha)⟩
  · have h2 : (m.l ++ [p])[n]? = some a := h2
    by_cases hn : n < m.l.length
    · rw [List.getElem?_append_left hn] at h2
      rw [List.getElem?_append_left (by rw [← c.len]; exact hn)] at h1
      exact (c.at_ n y a h1 h2).go g c y fun u q => k a u q
    · rw [List.getElem?_append_right (Nat.le_of_not_lt hn)] at h2
      rw [List.getElem?_append_right (by rw [← c.len]; exact Nat.le_of_not_lt hn)] at h1
      cases hk : n - m.l.length with
      | zero =>
        rw [hk] at h2
        have hk2 : n - Ω.length = 0 := by rw [← c.len]; exact hk
        rw [hk2] at h1
        cases (Option.some.inj h1)
        cases (Option.some.inj h2)
        exact hx g
      | succ k => rw [hk] at h2; simp at h2
  · obtain ⟨⟨vs, q, w⟩, z⟩ := c.hl a ha
    refine ⟨⟨vs, k a _ q, w⟩, fun hm => ?_⟩
    rcases List.mem_append.mp hm with hm | hm
    · exact z hm
    · have e : a = p := by simpa using hm
      rw [e, h] at q
      cases q
/-- a live cell is changed -/
theorem Go.set (c : CellsOk K m Ω H) {n : Nat} {a : Addr} {o : HO} {x y : Cell} (hm : m.l[n]? = some a) (hx : Ω[n]? = some x) (hl : x ≠ .dead)
    (hy : ∀ g : Gw K m Ω H m (Ω.set n y) (upd H a o), CellOk K m (Ω.set n y) (upd H a o) y a) : Go K m Ω H m (Ω.set n y) (upd H a o) := by
  have la : Live m Ω a := .inl ⟨n, x, hm, hx, hl⟩
  have g : Gw K m Ω H m (Ω.set n y) (upd H a o) := .of (fun _ _ h => h) (fun b u q l => by rw [upd_ne (fun e => l (by rw [e]; exact la))]; exact q) (fun b u q l => by
    rcases l with ⟨k, z, h1, h2, h3⟩ | l
    · by_cases hk : k = n
      · subst hk
        rw [hm] at h1
        cases h1
        exact la
      · rw [List.getElem?_set_ne (Ne.symm hk)] at h2
        exact .inl ⟨k, z, h1, h2, h3⟩
    · exact .inr l)
  have hh : ∀ b, m.hid b → b ≠ a := fun b hb e => (c.hl b hb).2 (e ▸ List.mem_of_getElem? hm)
  refine ⟨g, ⟨by rw [List.length_set]; exact c.len, c.nd, fun k z b h1 h2 => ?_, fun b hb => ?_, TbO.go c g fun b ps q l => by rw [upd_ne (fun e => l (by rw [e]; exact la))]; exact q⟩, fun b u hb q => by rw [upd_ne (hh b hb)]; exact q, fun _ z => z⟩
  · by_cases hk : k = n
    · subst hk
      rw [hm] at h2
      cases h2
      rw [List.getElem?_set_self (List.getElem?_eq_some_iff.mp hx).1] at h1
      cases h1
      exact hy g
    · rw [List.getElem?_set_ne (Ne.symm hk)] at h1
      have hb : b ≠ a := fun e => hk (c.nodup_ix h2 (e ▸ hm))
      exact (c.at_ k z b h1 h2).go g c z fun u q => by rw [upd_ne hb]; exact q
  · obtain ⟨⟨vs, q, w⟩, z⟩ := c.hl b hb
    exact ⟨⟨vs, by rw [upd_ne (hh b hb)]; exact q, w⟩, z⟩
/-- a list is laid aside, to be filled -/
def Mp.hide (m : Mp) (p : Addr) : Mp := ⟨m.l, fun a => m.hid a ∨ a = p⟩
def Mp.shown (m : Mp) (h : Addr → Prop) : Mp := ⟨m.l, h⟩
theorem Gw.hide (c : CellsOk K m Ω H) {p : Addr} {o : HO} (h : H p = none) : Gw K m Ω H (m.hide p) Ω (upd H p o) :=
  .of (fun _ _ h => h) (fun a u q _ => by rw [upd_ne (ne_of_none q h)]; exact q) (fun a u q l => by
    rcases l with l | l | l
    · exact .inl l
    · exact .inr l
    · rw [l, h] at q; cases q)
theorem CellsOk.hideO (c : CellsOk K m Ω H) {p : Addr} {o : HO} (ho : HidO o) (h : H p = none) : CellsOk K (m.hide p) Ω (upd H p o) :=
  ⟨c.len, c.nd, fun n x a h1 h2 => (c.at_ n x a h1 h2).go (Gw.hide c h) c x fun u q => by rw [upd_ne (ne_of_none q h)]; exact q, fun a ha => by
    rcases ha with ha | ha
    · obtain ⟨⟨ws, q, w⟩, z⟩ := c.hl a ha
      exact ⟨⟨ws, by rw [upd_ne (ne_of_none q h)]; exact q, w⟩, z⟩
    · subst ha
      exact ⟨⟨_, upd_same, ho⟩, c.fresh h⟩, TbO.go c (Gw.hide c h) fun a ps q _ => by rw [upd_ne (ne_of_none q h)]; exact q⟩
theorem CellsOk.hide (c : CellsOk K m Ω H) {p : Addr} {vs : List V} (h : H p = none) : CellsOk K (m.hide p) Ω (upd H p (.lst vs)) := c.hideO trivial h
/-- it is filled -/
theorem Gw.fill (c : CellsOk K m Ω H) {p : Addr} {o : HO} (hp : m.hid p) : Gw K m Ω H m Ω (upd H p o) :=
  .of (fun _ _ h => h) (fun a u q l => by rw [upd_ne (fun e => l (by rw [e]; exact .inr hp))]; exact q) (fun _ _ _ l => l)
theorem CellsOk.fillO (c : CellsOk K m Ω H) {p : Addr} {o : HO} (ho : HidO o) (hp : m.hid p) : CellsOk K m Ω (upd H p o) :=
  ⟨c.len, c.nd, fun n x a h1 h2 => (c.at_ n x a h1 h2).go (Gw.fill c hp) c x fun u q => by rw [upd_ne (show a ≠ p from fun e => (c.hl p hp).2 (by rw [← e]; exact List.mem_of_getElem? h2))]; exact q, fun a ha => by
    obtain ⟨⟨ws, q, w⟩, z⟩ := c.hl a ha
    refine ⟨?_, z⟩
    by_cases e : a = p
    · subst e; exact ⟨_, upd_same, ho⟩
    · exact ⟨ws, by rw [upd_ne e]; exact q, w⟩, TbO.go c (Gw.fill c hp) fun a ps q l => by rw [upd_ne (fun e => l (by rw [e]; exact .inr hp))]; exact q⟩
theorem CellsOk.fill (c : CellsOk K m Ω H) {p : Addr} {vs : List V} (hp : m.hid p) : CellsOk K m Ω (upd H p (.lst vs)) := c.fillO trivial hp
/-- what lives stays, the rest stays or is locked -/
theorem Go.upS (c : CellsOk K m Ω H) (l1 : ∀ b o, H b = some o → ∃ o', H' b = some o' ∧ Stay o o') (l2 : ∀ b o, H b = some o → Live m Ω b → H' b = some o) (l3 : TbO K H') : Go K m Ω H m Ω H' := by
  have g : Gw K m Ω H m Ω H' := ⟨fun _ _ h => h, fun a o h _ => l1 a o h, fun _ _ _ l => l⟩
  refine ⟨g, ⟨c.len, c.nd, fun n x a h1 h2 => ?_, fun a ha => ?_, l3⟩, fun a u ha q => l2 a u q (.inr ha), fun _ z => z⟩
  · cases x with
    | dead =>
      obtain ⟨o, q⟩ := c.at_ n _ a h1 h2
      obtain ⟨o', q', _⟩ := l1 a o q
      exact ⟨o', q'⟩
    | lst xs => exact (c.at_ n _ a h1 h2).go g c _ fun u q => l2 a u q (.inl ⟨n, _, h2, h1, fun z => by cases z⟩)
    | dcT xs => exact (c.at_ n _ a h1 h2).go g c _ fun u q => l2 a u q (.inl ⟨n, _, h2, h1, fun z => by cases z⟩)
    | dcN _ xs => exact (c.at_ n _ a h1 h2).go g c _ fun u q => l2 a u q (.inl ⟨n, _, h2, h1, fun z => by cases z⟩)
    | dct xs => exact (c.at_ n _ a h1 h2).go g c _ fun u q => l2 a u q (.inl ⟨n, _, h2, h1, fun z => by cases z⟩)
    | ins _ xs => exact (c.at_ n _ a h1 h2).go g c _ fun u q => l2 a u q (.inl ⟨n, _, h2, h1, fun z => by cases z⟩)
  · obtain ⟨⟨vs, q, w⟩, z⟩ := c.hl a ha
    exact ⟨⟨vs, l2 a _ q (.inr ha), w⟩, z⟩
/-- it is shown -/
theorem Gw.shown {h : Addr → Prop} (hh : ∀ a, h a → m.hid a) : Gw K m Ω H (m.shown h) Ω H :=
  .of (fun _ _ h => h) (fun _ _ q _ => q) (fun a u q l => l.imp (fun z => z) (hh a))
theorem Gw.toShown {m0 : Mp} {Ω0 : Om} {H0 : Hp} (g : Gw K m0 Ω0 H0 m Ω H) (hh : ∀ a, m0.hid a → m.hid a) : Gw K m0 Ω0 H0 (m.shown m0.hid) Ω H := g.trans (Gw.shown hh)
theorem CellsOk.shown (c : CellsOk K m Ω H) {h : Addr → Prop} (hh : ∀ a, h a → m.hid a) : CellsOk K (m.shown h) Ω H :=
  ⟨c.len, c.nd, fun n x a h1 h2 => (c.at_ n x a h1 h2).go (Gw.shown hh) c x fun u q => q, fun a ha => c.hl a (hh a ha), c.tb⟩
end

/-! ### what names no cell from k on -/
mutual
def below (k : Nat) : D → Bool
  | .tup xs => belowL k xs
  | .tpk xs => belowL k xs
  | .lst xs => belowL k xs
  | .dct kvs => belowK k kvs
  | .dcT kvs => belowT k kvs
  | .dcN _ kvs => belowN k kvs
  | .obj _ fs => belowF k fs
  | .clo _ ds _ => belowL k ds
  | .ref n => decide (n < k)
  | _ => true
def belowL (k : Nat) : List D → Bool
  | [] => true
  | d :: ds => below k d && belowL k ds
def belowK (k : Nat) : List (Key × D) → Bool
  | [] => true
  | (_, d) :: ds => below k d && belowK k ds
def belowT (k : Nat) : List (List Key × D) → Bool
  | [] => true
  | (_, d) :: ds => below k d && belowT k ds
def belowN (k : Nat) : List (NK × D) → Bool
  | [] => true
  | (_, d) :: ds => below k d && belowN k ds
def belowF (k : Nat) : List (Str × D) → Bool
  | [] => true
  | (_, d) :: ds => below k d && belowF k ds
end
def cellBelow (k : Nat) : Cell → Bool
  | .lst xs => belowL k xs
  | .dct kvs => belowK k kvs
  | .dcT kvs => belowT k kvs
  | .dcN _ kvs => belowN k kvs
  | .ins _ fs => belowF k fs
  | .dead => true
def cellsBelow (k : Nat) (Ω : Om) : Bool := (Ω.take k).all (cellBelow k)

def Mp.take (k : Nat) (m : Mp) : Mp := ⟨m.l.take k, m.hid⟩
section
variable {K : PySem.W.Frag} {m : Mp} {Ω : Om} {H : Hp} {k : Nat}
theorem live_take {a : Addr} (l : Live (Mp.take k m) (Ω.take k) a) : Live m Ω a := by
  rcases l with ⟨n, x, h1, h2, h3⟩ | l
  · have h1 : (m.l.take k)[n]? = some a := h1
    rw [List.getElem?_take] at h1 h2
    by_cases hn : n < k
    · rw [if_pos hn] at h1 h2
      exact .inl ⟨n, x, h1, h2, h3⟩
    · rw [if_neg hn] at h1
      cases h1
  · exact .inr l
mutual
theorem Rl.take : ∀ (d : D) (v : V), below k d = true → Rl K m Ω H d v → Rl K (Mp.take k m) (Ω.take k) H d v
  | .non, v, _, h => h
  | .bl _, v, _, h => h
  | .int _, v, _, h => h
  | .str _, v, _, h => h
  | .tpk xs, v, b, h => by
    unfold Rl at h ⊢
    unfold below at b
    obtain ⟨a, vs, e, h1, h2⟩ := h
    exact ⟨a, vs, e, h1, RlL.take xs vs b h2⟩
  | .tup xs, v, b, h => by
    unfold Rl at h ⊢
    unfold below at b
    obtain ⟨a, vs, e, h1, h2⟩ := h
    exact ⟨a, vs, e, h1, RlL.take xs vs b h2⟩
  | .lst xs, v, b, h => by
    unfold Rl at h ⊢
    unfold below at b
    obtain ⟨a, vs, e, h1, l, h2⟩ := h
    exact ⟨a, vs, e, h1, fun z => l (live_take z), RlL.take xs vs b h2⟩
  | .dct xs, v, b, h => by
    unfold Rl at h ⊢
    unfold below at b
    obtain ⟨a, vs, e, h1, l, h2⟩ := h
    exact ⟨a, vs, e, h1, fun z => l (live_take z), RlK.take xs vs b h2⟩
  | .dcT xs, v, b, h => by
    unfold Rl at h ⊢
    unfold below at b
    obtain ⟨a, vs, e, h1, l, h2⟩ := h
    exact ⟨a, vs, e, h1, fun z => l (live_take z), RlT.take xs vs b h2⟩
  | .dcN _ xs, v, b, h => by
    unfold Rl at h ⊢
    unfold below at b
    obtain ⟨a, es, e, h1, hk, l, h2⟩ := h
    exact ⟨a, es, e, h1, hk, fun z => l (live_take z), RlN.take xs es b h2⟩
  | .obj _ fs, v, b, h => by
    unfold Rl at h ⊢
    unfold below at b
    obtain ⟨a, dx, gs, e, h1, l, h2⟩ := h
    exact ⟨a, dx, gs, e, h1, fun z => l (live_take z), RlF.take fs gs b h2⟩
  | .ref n, v, b, h => by
    unfold Rl at h ⊢
    unfold below at b
    obtain ⟨a, e, h1⟩ := h
    exact ⟨a, e, by show (m.l.take k)[n]? = some a; rw [List.getElem?_take, if_pos (of_decide_eq_true b)]; exact h1⟩
  | .scr xs, v, b, h => by
    unfold Rl at h ⊢
    exact h
  | .cl _, v, b, h => by unfold Rl at h ⊢; exact h
  | .clo _ ds us, v, b, h => by
    unfold Rl at h ⊢
    unfold below at b
    exact ⟨h.1, RlL.take ds us b h.2⟩
theorem RlL.take : ∀ (ds : List D) (vs : List V), belowL k ds = true → RlL K m Ω H ds vs → RlL K (Mp.take k m) (Ω.take k) H ds vs
  | [], vs, _, h => by unfold RlL at h ⊢; exact h
  | d :: ds, vs, b, h => by
    unfold RlL at h ⊢
    unfold belowL at b
    obtain ⟨b1, b2⟩ := Bool.and_eq_true_iff.mp b
    obtain ⟨v, r, e, h1, h2⟩ := h
    exact ⟨v, r, e, Rl.take d v b1 h1, RlL.take ds r b2 h2⟩
theorem RlK.take : ∀ (ds : List (Key × D)) (vs : List (Key × V)), belowK k ds = true → RlK K m Ω H ds vs → RlK K (Mp.take k m) (Ω.take k) H ds vs
  | [], vs, _, h => by unfold RlK at h ⊢; exact h
  | (_, d) :: ds, vs, b, h => by
    unfold RlK at h ⊢
    unfold belowK at b
    obtain ⟨b1, b2⟩ := Bool.and_eq_true_iff.mp b
    obtain ⟨v, r, e, h1, h2⟩ := h
    exact ⟨v, r, e, Rl.take d v b1 h1, RlK.take ds r b2 h2⟩
theorem RlT.take : ∀ (ds : List (List Key × D)) (vs : List (List Key × V)), belowT k ds = true → RlT K m Ω H ds vs → RlT K (Mp.take k m) (Ω.take k) H ds vs
  | [], vs, _, h => by unfold RlT at h ⊢; exact h
  | (_, d) :: ds, vs, b, h => by
    unfold RlT at h ⊢
    unfold belowT at b
    obtain ⟨b1, b2⟩ := Bool.and_eq_true_iff.mp b
    obtain ⟨v, r, e, h1, h2⟩ := h
    exact ⟨v, r, e, Rl.take d v b1 h1, RlT.take ds r b2 h2⟩
theorem RlN.take : ∀ (ds : List (NK × D)) (es : List NE), belowN k ds = true → RlN K m Ω H ds es → RlN K (Mp.take k m) (Ω.take k) H ds es
  | [], es, _, h => by unfold RlN at h ⊢; exact h
  | (_, d) :: ds, es, b, h => by
    unfold RlN at h ⊢
    unfold belowN at b
    obtain ⟨b1, b2⟩ := Bool.and_eq_true_iff.mp b
    obtain ⟨p, v, r, e, h1, h2⟩ := h
    exact ⟨p, v, r, e, Rl.take d v b1 h1, RlN.take ds r b2 h2⟩
theorem RlF.take : ∀ (ds : List (Str × D)) (vs : List (Str × V)), belowF k ds = true → RlF K m Ω H ds vs → RlF K (Mp.take k m) (Ω.take k) H ds vs
  | [], vs, _, h => by unfold RlF at h ⊢; exact h
  | (_, d) :: ds, vs, b, h => by
    unfold RlF at h ⊢
    unfold belowF at b
    obtain ⟨b1, b2⟩ := Bool.and_eq_true_iff.mp b
    obtain ⟨v, r, e, h1, h2⟩ := h
    exact ⟨v, r, e, Rl.take d v b1 h1, RlF.take ds r b2 h2⟩
end
theorem CellOk.take {a : Addr} : ∀ x : Cell, cellBelow k x = true → CellOk K m Ω H x a → CellOk K (Mp.take k m) (Ω.take k) H x a
  | .lst xs, b, ⟨vs, h, r⟩ => ⟨vs, h, RlL.take xs vs b r⟩
  | .dct xs, b, ⟨vs, h, r⟩ => ⟨vs, h, RlK.take xs vs b r⟩
  | .dcT xs, b, ⟨vs, h, r⟩ => ⟨vs, h, RlT.take xs vs b r⟩
  | .dcN _ xs, b, ⟨es, h, hk, r⟩ => ⟨es, h, hk, RlN.take xs es b r⟩
  | .ins _ xs, b, ⟨dx, vs, h, r⟩ => ⟨dx, vs, h, RlF.take xs vs b r⟩
  | .dead, _, h => h
theorem CellsOk.take (c : CellsOk K m Ω H) (b : cellsBelow k Ω = true) : CellsOk K (Mp.take k m) (Ω.take k) H := by
  refine ⟨by show (m.l.take k).length = _; rw [List.length_take, List.length_take, c.len], c.nd.sublist (List.take_sublist _ _), fun n x a h1 h2 => ?_, fun a ha => ⟨(c.hl a ha).1, fun z => (c.hl a ha).2 (List.mem_of_mem_take z)⟩, c.tb⟩
  have hb : cellBelow k x = true := List.all_eq_true.mp b x (List.mem_of_getElem? h1)
  have h2 : (m.l.take k)[n]? = Option.some a := h2
  rw [List.getElem?_take] at h1 h2
  by_cases hn : n < k
  · rw [if_pos hn] at h1 h2
    exact (c.at_ n x a h1 h2).take x hb
  · rw [if_neg hn] at h1
    cases h1
/-- the cells from the old end on are left -/
theorem Go.take {m0 : Mp} {Ω0 : Om} {H0 : Hp} (g : Go K m0 Ω0 H0 m Ω H) (hk : m0.l.length ≤ k) (b : cellsBelow k Ω = true) : Go K m0 Ω0 H0 (Mp.take k m) (Ω.take k) H :=
  ⟨⟨fun n a h => by
    show (m.l.take k)[n]? = some a
    rw [List.getElem?_take, if_pos (Nat.lt_of_lt_of_le (List.getElem?_eq_some_iff.mp h).1 hk)]
    exact g.pre n a h, fun a o => g.frame0 a o, fun a o h l => g.toGw.norev a o h (live_take l)⟩, g.ok.take b, fun a o => g.hk a o, fun a => g.hs a⟩
end
end Dn


set_option Elab.async false
set_option linter.all false
set_option maxRecDepth 100000
/-! DnCore: denotations, and how a reading follows from one. -/
namespace Dn
open PySem L2

def Slots (K : PySem.W.Frag) (m : Mp) (Ω : Om) (H : Hp) (Γ : Gm) (σ : St) : Prop :=
  Γ.length = σ.length ∧ ∀ (i : Nat) (d : D), Γ[i]? = some (some d) → ∃ v, σ[i]? = some (some v) ∧ Rl K m Ω H d v
structure SR (K : PySem.W.Frag) (m : Mp) (Γ : Gm) (Ω : Om) (σ : St) (H : Hp) : Prop where
  cells : CellsOk K m Ω H
  slots : Slots K m Ω H Γ σ
/-- an error that is on its way -/
def XRel (K : PySem.W.Frag) (m : Mp) (Ω : Om) (H : Hp) (e : Xn) (cls : Value) (dd : Option Addr) : Prop :=
  cls = .ref (He.ga K e.cls) ∧ ((e.fs = [] ∧ dd = none) ∨ ∃ d gs, dd = some d ∧ H d = some (.xd gs) ∧ RlF K m Ω H e.fs gs)

section
variable {K : PySem.W.Frag} {m m' : Mp} {Ω Ω' : Om} {H H' : Hp} {Γ : Gm} {σ : St}
theorem SR.go (r : SR K m Γ Ω σ H) (g : Go K m Ω H m' Ω' H') : SR K m' Γ Ω' σ H' :=
  ⟨g.ok, r.slots.1, fun i d h => let ⟨v, h1, h2⟩ := r.slots.2 i d h; ⟨v, h1, Rl.go g.toGw r.cells d v h2⟩⟩
end

abbrev Den (α : Type) := Gm → Om → Option (Rs α × Om)
def bR {α β : Type} (r : Option (Rs α × Om)) (k : α → Om → Option (Rs β × Om)) : Option (Rs β × Om) := match r with
  | none => none
  | some (.ok a, Ω) => k a Ω
  | some (.ex e, Ω) => some (.ex e, Ω)
def bnd {α β : Type} (f : Den α) (k : α → Den β) : Den β := fun Γ Ω => bR (f Γ Ω) fun a Ω1 => k a Γ Ω1
@[simp] theorem bR_none {α β : Type} (k : α → Om → Option (Rs β × Om)) : bR none k = none := rfl
@[simp] theorem bR_ok {α β : Type} (a : α) (Ω : Om) (k : α → Om → Option (Rs β × Om)) : bR (some (.ok a, Ω)) k = k a Ω := rfl
@[simp] theorem bR_ex {α β : Type} (e : Xn) (Ω : Om) (k : α → Om → Option (Rs β × Om)) : bR (some (.ex e, Ω)) k = some (.ex e, Ω) := rfl

/-- what is wanted behind a denotation's end -/
def Af {α β : Type} (K : PySem.W.Frag) (R : Mp → Om → Hp → α → β → Prop) (E : XK) (Q : β → Hp → Prop) (m : Mp) (Ω : Om) (H : Hp) (r : Option (Rs α × Om)) : Prop := match r with
  | none => False
  | some (.ok a, Ω') => ∀ m' b H', Go K m Ω H m' Ω' H' → R m' Ω' H' a b → Q b H'
  | some (.ex e, Ω') => ∀ m' H' cls dd, Go K m Ω H m' Ω' H' → XRel K m' Ω' H' e cls dd → E cls dd H'
def tG {α β : Type} (K : PySem.W.Frag) (R : Mp → Om → Hp → α → β → Prop) (E : St → XK) (f : Den α) (σ : St) (H : Hp) (Q : β → Hp → Prop) : Prop :=
  ∃ m Γ Ω, SR K m Γ Ω σ H ∧ Af K R (E σ) Q m Ω H (f Γ Ω)
section
variable {K : PySem.W.Frag} {m m1 m' : Mp} {Ω Ω1 Ω' : Om} {H H1 H' : Hp} {Γ : Gm} {σ : St} {α β γ δ : Type} {R : Mp → Om → Hp → α → β → Prop} {R2 : Mp → Om → Hp → γ → δ → Prop} {E : XK} {Q Q' : β → Hp → Prop}
theorem Af.go (g : Go K m Ω H m1 Ω1 H1) : ∀ {r : Option (Rs α × Om)}, Af K R E Q m Ω H r → Af K R E Q m1 Ω1 H1 r
  | none, h => h
  | some (.ok a, Ω'), h => fun m' b H' g2 r => h m' b H' (g.trans g2) r
  | some (.ex e, Ω'), h => fun m' H' c d g2 r => h m' H' c d (g.trans g2) r
theorem Af.imp : ∀ {r : Option (Rs α × Om)}, Af K R E Q m Ω H r → (∀ m' Ω' H' a b, r = some (.ok a, Ω') → Go K m Ω H m' Ω' H' → R m' Ω' H' a b → Q b H' → Q' b H') → Af K R E Q' m Ω H r
  | none, h, _ => h
  | some (.ok a, Ω'), h, i => fun m' b H' g2 r => i m' Ω' H' a b rfl g2 r (h m' b H' g2 r)
  | some (.ex e, Ω'), h, _ => h
theorem Af.bind {Q2 : δ → Hp → Prop} {k : α → Om → Option (Rs γ × Om)} : ∀ {r : Option (Rs α × Om)}, Af K R2 E Q2 m Ω H (bR r k) →
    Af K R E (fun b H1 => ∃ m1 Ω1 a, Go K m Ω H m1 Ω1 H1 ∧ R m1 Ω1 H1 a b ∧ Af K R2 E Q2 m1 Ω1 H1 (k a Ω1)) m Ω H r
  | none, h => h
  | some (.ok a, Ω'), h => fun m' b H' g2 r => ⟨m', Ω', a, g2, r, Af.go g2 h⟩
  | some (.ex e, Ω'), h => h
theorem Af.guard {c : Prop} [Decidable c] {r : Option (Rs α × Om)} (h : Af K R E Q m Ω H (if c then r else none)) : c ∧ Af K R E Q m Ω H r := by
  by_cases hc : c
  · rw [if_pos hc] at h; exact ⟨hc, h⟩
  · rw [if_neg hc] at h; exact h.elim
end

/-! ### the judgements -/
abbrev tD (K : PySem.W.Frag) (E : St → XK) (f : Den D) : TE := fun σ H Q => tG K (Rl K) E f σ H Q
abbrev tDA (K : PySem.W.Frag) (E : St → XK) (f : Den (List D)) : TA := fun σ H Q => tG K (RlL K) E f σ H Q
abbrev tDT (K : PySem.W.Frag) (E : St → XK) (f : Den Bool) : TT := fun σ H Q => tG K (fun _ _ _ a b => a = b) E f σ H Q
abbrev DE (X : Cx) (E : St → XK) (e : Expr) (f : Den D) : Prop := PE X e (tD X.K E f)
abbrev DA (X : Cx) (E : St → XK) (es : List Expr) (f : Den (List D)) : Prop := PA X es (tDA X.K E f)
abbrev DT (X : Cx) (E : St → XK) (e : Expr) (f : Den Bool) : Prop := PT X e (tDT X.K E f)
theorem PE.mono {X : Cx} {e : Expr} {t t' : TE} (h : PE X e t) (i : ∀ σ H Q, t' σ H Q → t σ H Q) : PE X e t' := ⟨fun pins s σ H Q I q => h.run pins s σ H Q I (i σ H Q q)⟩
theorem PT.mono {X : Cx} {e : Expr} {t t' : TT} (h : PT X e t) (i : ∀ σ H Q, t' σ H Q → t σ H Q) : PT X e t' := ⟨fun pins s σ H Q I q => h.run pins s σ H Q I (i σ H Q q)⟩
theorem PA.mono {X : Cx} {e : List Expr} {t t' : TA} (h : PA X e t) (i : ∀ σ H Q, t' σ H Q → t σ H Q) : PA X e t' := ⟨fun pos pins s σ H Q I q => h.run pos pins s σ H Q I (i σ H Q q)⟩
theorem PS.mono {X : Cx} {e : Stmt} {t t' : TS} (h : PS X e t) (i : ∀ D σ H, t' D σ H → t D σ H) : PS X e t' := ⟨fun pins s σ H Q I q => h.run pins s σ H Q I (i Q σ H q)⟩
theorem PSs.mono {X : Cx} {e : List Stmt} {t t' : TS} (h : PSs X e t) (i : ∀ D σ H, t' D σ H → t D σ H) : PSs X e t' := ⟨fun pins s σ H Q I q => h.run pins s σ H Q I (i Q σ H q)⟩

/-! ### names, constants -/
def fVar (i : Nat) : Den D := fun Γ Ω => match Γ[i]? with
  | some (some d) => some (.ok d, Ω)
  | _ => none
def fC {α : Type} (d : α) : Den α := fun _ Ω => some (.ok d, Ω)
section
variable {X : Cx} {E : St → XK} {a b e : Expr} {f g : Den D} {pos : Pos}
theorem de_var (i : Nat) {x : Str} {pos : Pos} (hN : X.N[i]? = some x := by rfl) (hv : Vis X.env.scope x := by first | exact Or.inl rfl | exact Or.inr (Or.inl rfl) | exact Or.inr (Or.inr rfl)) (hd : (x == ("__debug__" : Str)) = false := by decide)
    (hcd : (x == ("__classdict__" : Str)) = false := by decide) : DE X E (.Name x pos) (fVar i) := PE.mono (pe_var hN hv hd hcd) fun σ H Q h => by
  obtain ⟨m, Γ, Ω, s, h⟩ := h
  unfold fVar at h
  cases e : Γ[i]? with
  | none => rw [e] at h; exact h.elim
  | some o =>
    rw [e] at h
    cases o with
    | none => exact h.elim
    | some d =>
      obtain ⟨v, h1, h2⟩ := s.slots.2 i d e
      exact ⟨v, h1, h m v H (Go.refl s.cells) h2⟩
theorem de_c {e : Expr} {v : V} {d : D} (h : PE X e (tC v)) (r : ∀ m Ω H, Rl X.K m Ω H d v) : DE X E e (fC d) := PE.mono h fun σ H Q q => by
  obtain ⟨m, Γ, Ω, s, q⟩ := q
  exact q m v H (Go.refl s.cells) (r m Ω H)
theorem de_int {i : Int} {k : Nat} : DE X E (.Constant (.int i) k pos) (fC (.int i)) := de_c pe_int fun _ _ _ => by unfold Rl; rfl
theorem de_str {x : Str} {k : Nat} : DE X E (.Constant (.str x) k pos) (fC (.str x)) := de_c pe_str fun _ _ _ => by unfold Rl; rfl
theorem de_bl {x : Bool} {k : Nat} : DE X E (.Constant (.bool x) k pos) (fC (.bl x)) := de_c pe_bl fun _ _ _ => by unfold Rl; rfl
theorem de_non {k : Nat} : DE X E (.Constant .none k pos) (fC .non) := de_c pe_non fun _ _ _ => by unfold Rl; rfl

/-! ### two operands -/
abbrev Op1 := D → Om → Option (Rs D × Om)
abbrev Op2 := D → D → Om → Option (Rs D × Om)
def fBin (op : Op2) (f g : Den D) : Den D := bnd f fun x => bnd g fun y _ Ω => op x y Ω
def fUn (op : Op1) (f : Den D) : Den D := bnd f fun x _ Ω => op x Ω
/-- the rule r serves the operation op on data -/
def OpD (K : PySem.W.Frag) (op : Op2) (r : R2) : Prop := ∀ (E : XK) (m : Mp) (Ω : Om) (H : Hp) (x y : D) (v u : V) (Q : VK), CellsOk K m Ω H → Rl K m Ω H x v → Rl K m Ω H y u → Af K (Rl K) E Q m Ω H (op x y Ω) →
  r v u H Q
def UnD (K : PySem.W.Frag) (op : Op1) (r : V → Hp → VK → Prop) : Prop := ∀ (E : XK) (m : Mp) (Ω : Om) (H : Hp) (x : D) (v : V) (Q : VK), CellsOk K m Ω H → Rl K m Ω H x v → Af K (Rl K) E Q m Ω H (op x Ω) → r v H Q
theorem op_of {op : Op2} {r : R2} (o : OpD X.K op r) {σ : St} {H : Hp} {Q : VK} (h : tD X.K E (fBin op f g) σ H Q) : tOp r (tD X.K E f) (tD X.K E g) σ H Q := by
  obtain ⟨m, Γ, Ω, s, h⟩ := h
  refine ⟨m, Γ, Ω, s, (Af.bind (R := Rl X.K) h).imp fun _ _ _ _ _ _ _ _ ⟨m1, Ω1, x, g1, r1, q⟩ => ⟨m1, Γ, Ω1, s.go g1, (Af.bind (R := Rl X.K) q).imp fun _ _ _ _ _ _ _ _ ⟨m2, Ω2, y, g2, r2, q2⟩ => ?_⟩⟩
  exact o (E σ) m2 Ω2 _ x y _ _ Q g2.ok (Rl.go g2.toGw g1.ok x _ r1) r2 q2
theorem un_of {op : Op1} {r : V → Hp → VK → Prop} (o : UnD X.K op r) {σ : St} {H : Hp} {Q : VK} (h : tD X.K E (fUn op f) σ H Q) : tUn r (tD X.K E f) σ H Q := by
  obtain ⟨m, Γ, Ω, s, h⟩ := h
  refine ⟨m, Γ, Ω, s, (Af.bind (R := Rl X.K) h).imp fun _ _ _ _ _ _ _ _ ⟨m1, Ω1, x, g1, r1, q⟩ => ?_⟩
  exact o (E σ) m1 Ω1 _ x _ Q g1.ok r1 q
theorem de_bin {op : Operator} {o : Op2} {r : R2} (hr : OpR X (binaryOp op) r) (hd : OpD X.K o r) (ha : DE X E a f) (hb : DE X E b g) : DE X E (.BinOp a op b pos) (fBin o f g) := PE.mono (pe_op hr ha hb) fun _ _ _ h => op_of hd h
theorem de_un {op : UnaryOp} {o : Op1} {r : V → Hp → VK → Prop} (hr : UnR X (unaryOp op) r) (hd : UnD X.K o r) (ha : DE X E a f) : DE X E (.UnaryOp op a pos) (fUn o f) := PE.mono (pe_un hr ha) fun _ _ _ h => un_of hd h
theorem de_cmp {op : CmpOp} {o : Op2} {r : R2} (hr : OpR X (compareOp op) r) (hd : OpD X.K o r) (ha : DE X E a f) (hb : DE X E b g) (hm : behindInMarks op b = false) : DE X E (.Compare a [op] [b] pos) (fBin o f g) := PE.mono (pe_cmpR hr ha hb hm) fun _ _ _ h => op_of hd h
theorem de_ix {o : Op2} {r : R2} (hr : IxR X r) (hd : OpD X.K o r) (ha : DE X E a f) (hb : DE X E b g) (hp : PlainIx b) : DE X E (.Subscript a b pos) (fBin o f g) := PE.mono (pe_ix hr ha hb hp) fun _ _ _ h => op_of hd h

/-- one of two rules, by the data -/
def r2or (r r' : R2) : R2 := fun x y H Q => r x y H Q ∨ r' x y H Q
theorem opR_or {f : Value → Value → Sem Value} {r r' : R2} (h : OpR X f r) (h' : OpR X f r') : OpR X f (r2or r r') := fun pins s σ H x y v u Q I rx ry q => q.elim (h pins s σ H x y v u Q I rx ry) (h' pins s σ H x y v u Q I rx ry)
end

/-! ### tests -/
def fT (f : Den D) : Den Bool := bnd f fun x _ Ω => match x with
  | .bl b => some (.ok b, Ω)
  | _ => none
def fAnd (f g : Den Bool) : Den Bool := bnd f fun x => if x = true then g else fC false
def fOr (f g : Den Bool) : Den Bool := bnd f fun x => if x = true then fC true else g
def fNot (f : Den Bool) : Den Bool := bnd f fun x => fC (!x)
def fBl (f : Den Bool) : Den D := bnd f fun x => fC (.bl x)
def fIf {α : Type} (c : Den Bool) (f g : Den α) : Den α := bnd c fun x => if x = true then f else g
def fAndV (f g : Den D) : Den D := bnd (fT f) fun x => if x = true then g else fC (.bl false)
def fOrV (f g : Den D) : Den D := bnd (fT f) fun x => if x = true then fC (.bl true) else g
section
variable {X : Cx} {E : St → XK} {a b c e : Expr} {f g : Den D} {p q : Den Bool} {pos : Pos} {rest : List Expr}
theorem tT_of {f : Den D} {σ : St} {H : Hp} {Q : Bool → Hp → Prop} {K : PySem.W.Frag} (h : tDT K E (fT f) σ H Q) : tD K E f σ H fun x H1 => ∃ c, x = .bl c ∧ Q c H1 := by
  obtain ⟨m, Γ, Ω, s, h⟩ := h
  refine ⟨m, Γ, Ω, s, (Af.bind (R := Rl K) h).imp fun _ _ _ _ _ _ _ _ ⟨m1, Ω1, x, g1, r1, q⟩ => ?_⟩
  cases x with
  | bl c =>
    unfold Rl at r1
    exact ⟨c, r1, q m1 c _ (Go.refl g1.ok) rfl⟩
  | _ => exact q.elim
/-- a test that is a value's truth: of True and False alone -/
theorem dt_val (h : DE X E e f) (he : ∀ (whole : Sem Value), PySem.isTrue e X.env whole = (do let v ← whole; standAt e.pos; holding [v] (truthy v)) := by intro _; rfl) : DT X E e (fT f) := PT.mono (pt_val h he) fun σ H Q h => tT_of h
theorem dt_cmp {op : CmpOp} {o : Op2} {r : R2} (hr : OpR X (compareOp op) r) (hd : OpD X.K o r) (ha : DE X E a f) (hb : DE X E b g) (hm : behindInMarks op b = false) : DT X E (.Compare a [op] [b] pos) (fT (fBin o f g)) := PT.mono (pt_cmpR hr ha hb hm) fun σ H Q h => by
  have h2 := tT_of h
  exact op_of hd h2
theorem dt_not (h : DT X E a p) : DT X E (.UnaryOp .Not a pos) (fNot p) := PT.mono (pt_not h) fun σ H Q h => by
  obtain ⟨m, Γ, Ω, s, h⟩ := h
  refine ⟨m, Γ, Ω, s, (Af.bind (R := fun _ _ _ a b => a = b) h).imp fun _ _ _ _ _ _ _ _ ⟨m1, Ω1, x, g1, r1, q⟩ => ?_⟩
  subst r1
  exact q m1 _ _ (Go.refl g1.ok) rfl
theorem tAnd_of {σ : St} {H : Hp} {Q : Bool → Hp → Prop} {K : PySem.W.Frag} (h : tDT K E (fAnd p q) σ H Q) : tAnd (tDT K E p) (tDT K E q) σ H Q := by
  obtain ⟨m, Γ, Ω, s, h⟩ := h
  refine ⟨m, Γ, Ω, s, (Af.bind (R := fun _ _ _ a b => a = b) h).imp fun _ _ _ _ _ _ _ _ ⟨m1, Ω1, x, g1, r1, q⟩ => ?_⟩
  subst r1
  cases x with
  | true => exact ⟨m1, Γ, Ω1, s.go g1, q⟩
  | false => exact q m1 _ _ (Go.refl g1.ok) rfl
theorem tOr_of {σ : St} {H : Hp} {Q : Bool → Hp → Prop} {K : PySem.W.Frag} (h : tDT K E (fOr p q) σ H Q) : tOr (tDT K E p) (tDT K E q) σ H Q := by
  obtain ⟨m, Γ, Ω, s, h⟩ := h
  refine ⟨m, Γ, Ω, s, (Af.bind (R := fun _ _ _ a b => a = b) h).imp fun _ _ _ _ _ _ _ _ ⟨m1, Ω1, x, g1, r1, q⟩ => ?_⟩
  subst r1
  cases x with
  | true => exact q m1 _ _ (Go.refl g1.ok) rfl
  | false => exact ⟨m1, Γ, Ω1, s.go g1, q⟩
/-- and, or: the last one first -/
abbrev DW (X : Cx) (E : St → XK) (e : Expr) (f : Den Bool) : Prop := PW X e (tDT X.K E f)
theorem PW.mono {X : Cx} {e : Expr} {t t' : TT} (h : PW X e t) (i : ∀ σ H Q, t' σ H Q → t σ H Q) : PW X e t' := ⟨fun wh pins s σ H Q I q => h.run wh pins s σ H Q I (i σ H Q q)⟩
theorem dw_and1 (h : DT X E a p) : DW X E (.BoolOp .And [a] pos) p := pw_and1 h
theorem dw_or1 (h : DT X E a p) : DW X E (.BoolOp .Or [a] pos) p := pw_or1 h
theorem dw_and (h1 : DT X E a p) (h2 : DW X E (.BoolOp .And (b :: rest) pos) q) : DW X E (.BoolOp .And (a :: b :: rest) pos) (fAnd p q) := PW.mono (pw_and h1 h2) fun _ _ _ h => tAnd_of h
theorem dw_or (h1 : DT X E a p) (h2 : DW X E (.BoolOp .Or (b :: rest) pos) q) : DW X E (.BoolOp .Or (a :: b :: rest) pos) (fOr p q) := PW.mono (pw_or h1 h2) fun _ _ _ h => tOr_of h
theorem dt_w (h : DW X E e p) : DT X E e p := h.pt
/-- and, or, not as values, of True and False -/
theorem de_one {op : BoolOp} (h : DE X E a f) : DE X E (.BoolOp op [a] pos) f := pe_one h
theorem de_and (h1 : DE X E a f) (h2 : DE X E (.BoolOp .And (b :: rest) pos) g) : DE X E (.BoolOp .And (a :: b :: rest) pos) (fAndV f g) := PE.mono (pe_and h1 h2) fun σ H Q h => by
  obtain ⟨m, Γ, Ω, s, h⟩ := h
  refine (tT_of (Q := fun c H1 => if c = true then tD X.K E g σ H1 Q else Q (.bl false) H1) ⟨m, Γ, Ω, s, (Af.bind (R := fun _ _ _ a b => a = b) h).imp fun _ _ _ _ _ _ _ _ ⟨m1, Ω1, x, g1, r1, q⟩ => ?_⟩)
  subst r1
  cases x with
  | true => exact ⟨m1, Γ, Ω1, s.go g1, q⟩
  | false => exact q m1 _ _ (Go.refl g1.ok) (by unfold Rl; rfl)
def fNotV (f : Den D) : Den D := fBl (fNot (fT f))
theorem de_not (h : DE X E a f) : DE X E (.UnaryOp .Not a pos) (fNotV f) := PE.mono (pe_not h) fun σ H Q h => by
  obtain ⟨m, Γ, Ω, s, h⟩ := h
  refine (tT_of (Q := fun c H1 => Q (.bl (!c)) H1) ⟨m, Γ, Ω, s, ?_⟩)
  have h2 := (Af.bind (R := fun _ _ _ a b => a = b) (β := Bool) h)
  have h3 := (Af.bind (R := fun _ _ _ a b => a = b) (β := Bool) h2)
  refine h3.imp fun _ _ _ _ _ _ _ _ ⟨m1, Ω1, x, g1, r1, q⟩ => ?_
  subst r1
  obtain ⟨m2, Ω2, y, g2, r2, q2⟩ := q m1 (!x) _ (Go.refl g1.ok) rfl
  subst r2
  exact q2 m2 _ _ (Go.refl g2.ok) (by unfold Rl; rfl)
theorem de_if (hc : DT X E c p) (h1 : DE X E a f) (h2 : DE X E b g) : DE X E (.IfExp c a b pos) (fIf p f g) := PE.mono (pe_ifExp hc h1 h2) fun σ H Q h => by
  obtain ⟨m, Γ, Ω, s, h⟩ := h
  refine ⟨m, Γ, Ω, s, (Af.bind (R := fun _ _ _ a b => a = b) h).imp fun _ _ _ _ _ _ _ _ ⟨m1, Ω1, x, g1, r1, q⟩ => ?_⟩
  subst r1
  cases x with
  | true => exact ⟨m1, Γ, Ω1, s.go g1, q⟩
  | false => exact ⟨m1, Γ, Ω1, s.go g1, q⟩
end

/-! ### argument lists, tuples, lists -/
def fNil : Den (List D) := fC []
def fCons (f : Den D) (r : Den (List D)) : Den (List D) := bnd f fun x => bnd r fun xs => fC (x :: xs)
def fTup (r : Den (List D)) : Den D := bnd r fun xs _ Ω => if xs.length ≤ 100000 then some (.ok (.tup xs), Ω) else none
/-- a list that no longer changes; one that is a cell -/
def fLst (r : Den (List D)) : Den D := bnd r fun xs _ Ω => if xs.length ≤ 100000 then some (.ok (.lst xs), Ω) else none
def fLstC (r : Den (List D)) : Den D := bnd r fun xs _ Ω => if xs.length ≤ 100000 then some (.ok (.ref Ω.length), Ω ++ [.lst xs]) else none
theorem sz {n : Nat} (h : n ≤ 100000) : n ≤ sizeLine := Nat.le_trans h (by decide)
section
variable {X : Cx} {E : St → XK} {a b c e : Expr} {es : List Expr} {f g : Den D} {r : Den (List D)} {pos : Pos}
theorem RlL.length {K : PySem.W.Frag} {m : Mp} {Ω : Om} {H : Hp} : ∀ {ds : List D} {vs : List V}, RlL K m Ω H ds vs → ds.length = vs.length
  | [], vs, h => by unfold RlL at h; rw [h]; rfl
  | d :: ds, vs, h => by
    unfold RlL at h
    obtain ⟨v, r, e, _, h2⟩ := h
    rw [e, List.length_cons, List.length_cons, RlL.length h2]
theorem da_nil : DA X E [] fNil := PA.mono pa_nil fun σ H Q h => by
  obtain ⟨m, Γ, Ω, s, h⟩ := h
  exact h m [] H (Go.refl s.cells) (by unfold RlL; rfl)
theorem da_cons (h1 : DE X E e f) (h2 : DA X E es r) (hs : starEach (e :: es) X.env = (false, eval e X.env) :: starEach es X.env := by rfl) : DA X E (e :: es) (fCons f r) := PA.mono (pa_cons h1 h2 hs) fun σ H Q h => by
  obtain ⟨m, Γ, Ω, s, h⟩ := h
  refine ⟨m, Γ, Ω, s, (Af.bind (R := Rl X.K) h).imp fun _ _ _ _ _ _ _ _ ⟨m1, Ω1, x, g1, r1, q⟩ => ⟨m1, Γ, Ω1, s.go g1, (Af.bind (R := RlL X.K) q).imp fun _ _ _ _ _ _ _ _ ⟨m2, Ω2, xs, g2, r2, q2⟩ => ?_⟩⟩
  refine q2 m2 _ _ (Go.refl g2.ok) ?_
  unfold RlL
  exact ⟨_, _, rfl, Rl.go g2.toGw g1.ok x _ r1, r2⟩
theorem RlL.new {K : PySem.W.Frag} {m : Mp} {Ω : Om} {H : Hp} {p : Addr} {o : HO} (c : CellsOk K m Ω H) (hp : H p = none) {ds : List D} {vs : List V} (h : RlL K m Ω H ds vs) : RlL K m Ω (upd H p o) ds vs := RlL.go (Go.new c hp).toGw c ds vs h
theorem de_tup {x1} (h : DA X E es r) : DE X E (.Tuple es x1 pos) (fTup r) := PE.mono (pe_tup h) fun σ H Q h => by
  obtain ⟨m, Γ, Ω, s, h⟩ := h
  refine ⟨m, Γ, Ω, s, (Af.bind (R := RlL X.K) h).imp fun _ _ H1 _ b _ _ _ ⟨m1, Ω1, xs, g1, r1, q⟩ => ?_⟩
  obtain ⟨hz, q⟩ := Af.guard q
  refine ⟨by rw [← r1.length]; exact sz hz, fun p hp => q m1 _ _ (Go.new g1.ok hp) ?_⟩
  unfold Rl
  exact ⟨p, _, rfl, .inl upd_same, RlL.new g1.ok hp r1⟩
/-- a new pure list -/
theorem Rl.newL {K : PySem.W.Frag} {m : Mp} {Ω : Om} {H : Hp} {p : Addr} {ds : List D} {vs : List V} (c : CellsOk K m Ω H) (hp : H p = none) (h : RlL K m Ω H ds vs) : Rl K m Ω (upd H p (.lst vs)) (.lst ds) (.ref p) := by
  unfold Rl
  exact ⟨p, vs, rfl, upd_same, c.freshL hp, RlL.new c hp h⟩
theorem de_lst (h : DA X E es r) : DE X E (.List es pos) (fLst r) := PE.mono (pe_lst h) fun σ H Q h => by
  obtain ⟨m, Γ, Ω, s, h⟩ := h
  refine ⟨m, Γ, Ω, s, (Af.bind (R := RlL X.K) h).imp fun _ _ H1 _ b _ _ _ ⟨m1, Ω1, xs, g1, r1, q⟩ => ?_⟩
  obtain ⟨hz, q⟩ := Af.guard q
  exact ⟨by rw [← r1.length]; exact sz hz, fun p hp => q m1 _ _ (Go.new g1.ok hp) (Rl.newL g1.ok hp r1)⟩
/-- a new cell that is a list -/
theorem Go.cellL {K : PySem.W.Frag} {m : Mp} {Ω : Om} {H : Hp} {p : Addr} {ds : List D} {vs : List V} (c : CellsOk K m Ω H) (hp : H p = none) (h : RlL K m Ω H ds vs) : Go K m Ω H (m.add p) (Ω ++ [.lst ds]) (upd H p (.lst vs)) :=
  Go.cell c hp fun g => ⟨vs, upd_same, RlL.go g c ds vs h⟩
theorem rl_last {K : PySem.W.Frag} {m : Mp} {Ω Ω1 : Om} {H H1 : Hp} {p : Addr} (c : CellsOk K m Ω H) : Rl K (m.add p) Ω1 H1 (.ref Ω.length) (.ref p) := by
  unfold Rl
  exact ⟨p, rfl, by show (m.l ++ [p])[Ω.length]? = some p; rw [← c.len]; simp⟩
theorem de_lstC (h : DA X E es r) : DE X E (.List es pos) (fLstC r) := PE.mono (pe_lst h) fun σ H Q h => by
  obtain ⟨m, Γ, Ω, s, h⟩ := h
  refine ⟨m, Γ, Ω, s, (Af.bind (R := RlL X.K) h).imp fun _ _ H1 _ b _ _ _ ⟨m1, Ω1, xs, g1, r1, q⟩ => ?_⟩
  obtain ⟨hz, q⟩ := Af.guard q
  exact ⟨by rw [← r1.length]; exact sz hz, fun p hp => q (m1.add p) _ _ (Go.cellL g1.ok hp r1) (rl_last g1.ok)⟩
end
end Dn


set_option Elab.async false
set_option linter.all false
set_option maxRecDepth 100000
/-! DnOps: operators on data. -/
namespace Dn
open PySem L2
section
variable {K : PySem.W.Frag} {m : Mp} {Ω : Om} {H : Hp}
/-- done: the value stands -/
theorem Af.now {α β : Type} {R : Mp → Om → Hp → α → β → Prop} {E : XK} {Q : β → Hp → Prop} {a : α} (q : Af K R E Q m Ω H (some (.ok a, Ω))) (c : CellsOk K m Ω H) {b : β} (r : R m Ω H a b) : Q b H := q m b H (Go.refl c) r
def opI (g : Int → Int → D) : Op2 := fun x y Ω => match x, y with
  | .int i, .int j => some (.ok (g i j), Ω)
  | _, _ => none
def opIC (C : Int → Int → Bool) (g : Int → Int → D) : Op2 := fun x y Ω => match x, y with
  | .int i, .int j => if C i j = true then some (.ok (g i j), Ω) else none
  | _, _ => none
theorem opD_I0 {g : Int → Int → D} {g' : Int → Int → V} (h : ∀ m Ω H i j, Rl K m Ω H (g i j) (g' i j)) : OpD K (opI g) (rI0 g') := by
  intro E m Ω H x y v u Q c rx ry q
  cases x with
  | int i =>
    cases y with
    | int j =>
      unfold Rl at rx ry
      exact ⟨i, j, rx, ry, q.now c (h m Ω H i j)⟩
    | _ => exact q.elim
  | _ => exact q.elim
theorem opD_I {C : Int → Int → Bool} {C' : Int → Int → Prop} {g : Int → Int → D} {g' : Int → Int → V} (hC : ∀ i j, C i j = true → C' i j) (h : ∀ m Ω H i j, Rl K m Ω H (g i j) (g' i j)) : OpD K (opIC C g) (rI C' g') := by
  intro E m Ω H x y v u Q c rx ry q
  cases x with
  | int i =>
    cases y with
    | int j =>
      unfold Rl at rx ry
      obtain ⟨hc, q⟩ := Af.guard q
      exact ⟨i, j, rx, ry, hC i j hc, q.now c (h m Ω H i j)⟩
    | _ => exact q.elim
  | _ => exact q.elim
theorem rl_int {i : Int} : Rl K m Ω H (.int i) (.int i) := by unfold Rl; rfl
theorem rl_bl {i : Bool} : Rl K m Ω H (.bl i) (.bl i) := by unfold Rl; rfl
def dSub : Op2 := opI fun i j => .int (i - j)
def dLt : Op2 := opI fun i j => .bl (decide (i < j))
def dLe : Op2 := opI fun i j => .bl (decide (i ≤ j))
def dGt : Op2 := opI fun i j => .bl (decide (j < i))
def dGe : Op2 := opI fun i j => .bl (decide (j ≤ i))
def cMul (i j : Int) : Bool := decide ((-(2 ^ 64) < i ∧ i < 2 ^ 64) ∨ (-(2 ^ 64) < j ∧ j < 2 ^ 64))
def dMul : Op2 := opIC cMul fun i j => .int (i * j)
def dFdiv : Op2 := opIC (fun _ j => decide (0 < j ∧ j < 1073741824)) fun i j => .int (i / j)
def dMod : Op2 := opIC (fun _ j => decide (0 < j)) fun i j => .int (i % j)
def dPow : Op2 := opIC (fun i j => decide (0 ≤ j ∧ j ≤ 1000000 ∧ i.natAbs < 2 ^ 64)) fun i j => .int (i ^ j.toNat)
theorem od_sub : OpD K dSub (rI0 fun i j => .int (i - j)) := opD_I0 fun _ _ _ _ _ => rl_int
theorem od_lt : OpD K dLt (rI0 fun i j => .bl (decide (i < j))) := opD_I0 fun _ _ _ _ _ => rl_bl
theorem od_le : OpD K dLe (rI0 fun i j => .bl (decide (i ≤ j))) := opD_I0 fun _ _ _ _ _ => rl_bl
theorem od_gt : OpD K dGt (rI0 fun i j => .bl (decide (j < i))) := opD_I0 fun _ _ _ _ _ => rl_bl
theorem od_ge : OpD K dGe (rI0 fun i j => .bl (decide (j ≤ i))) := opD_I0 fun _ _ _ _ _ => rl_bl
theorem od_mul : OpD K dMul (rI CMul fun i j => .int (i * j)) := opD_I (fun i j h => of_decide_eq_true (p := (-(2 ^ 64) < i ∧ i < 2 ^ 64) ∨ (-(2 ^ 64) < j ∧ j < 2 ^ 64)) h) fun _ _ _ _ _ => rl_int
theorem od_fdiv : OpD K dFdiv (rI CDiv fun i j => .int (i / j)) := opD_I (fun i j h => of_decide_eq_true (p := 0 < j ∧ j < 1073741824) h) fun _ _ _ _ _ => rl_int
theorem od_mod : OpD K dMod (rI (fun _ j => 0 < j) fun i j => .int (i % j)) := opD_I (fun _ _ h => of_decide_eq_true h) fun _ _ _ _ _ => rl_int
theorem od_pow : OpD K dPow (rI CPow fun i j => .int (i ^ j.toNat)) := opD_I (fun i j h => of_decide_eq_true (p := 0 ≤ j ∧ j ≤ 1000000 ∧ i.natAbs < 2 ^ 64) h) fun _ _ _ _ _ => rl_int

/-! ### lists -/
def asL (Ω : Om) : D → Option (List D)
  | .lst xs => some xs
  | .ref n => match Ω[n]? with
    | some (.lst xs) => some xs
    | _ => none
  | _ => none
theorem asL_ok (c : CellsOk K m Ω H) : ∀ {d : D} {v : V} {xs : List D}, Rl K m Ω H d v → asL Ω d = some xs → ∃ a vs, v = .ref a ∧ H a = some (.lst vs) ∧ RlL K m Ω H xs vs := by
  intro d v xs r e
  cases d with
  | lst ys =>
    unfold Rl at r
    cases (Option.some.inj e)
    obtain ⟨a, vs, e1, h1, _, h2⟩ := r
    exact ⟨a, vs, e1, h1, h2⟩
  | ref n =>
    unfold Rl at r
    obtain ⟨a, e1, h1⟩ := r
    unfold asL at e
    dsimp only at e
    cases q : Ω[n]? with
    | none => rw [q] at e; cases e
    | some x =>
      rw [q] at e
      cases x with
      | lst ys =>
        cases (Option.some.inj e)
        obtain ⟨vs, h2, h3⟩ := c.at_ n _ a q h1
        exact ⟨a, vs, e1, h2, h3⟩
      | _ => cases e
  | _ => cases e
theorem RlL.get : ∀ {ds : List D} {vs : List V} {i : Nat} {d : D}, RlL K m Ω H ds vs → ds[i]? = some d → ∃ v, vs[i]? = some v ∧ Rl K m Ω H d v
  | [], vs, i, d, h, e => by simp at e
  | x :: ds, vs, i, d, h, e => by
    unfold RlL at h
    obtain ⟨v, r, e1, h1, h2⟩ := h
    subst e1
    cases i with
    | zero => simp at e; subst e; exact ⟨v, rfl, h1⟩
    | succ i =>
      obtain ⟨w, h3, h4⟩ := RlL.get (i := i) h2 (by simpa using e)
      exact ⟨w, by simpa using h3, h4⟩
theorem RlL.atI {ds : List D} {vs : List V} {i : Int} {d : D} (h : RlL K m Ω H ds vs) (e : L2.atI ds i = some d) : ∃ v, L2.atI vs i = some v ∧ Rl K m Ω H d v := by
  unfold L2.atI at e ⊢
  rw [h.length] at e
  cases q : ixN vs.length i with
  | none => rw [q] at e; cases e
  | some j => rw [q] at e; exact h.get e
theorem RlL.append : ∀ {ds es : List D} {vs ws : List V}, RlL K m Ω H ds vs → RlL K m Ω H es ws → RlL K m Ω H (ds ++ es) (vs ++ ws)
  | [], es, vs, ws, h, h' => by unfold RlL at h; subst h; exact h'
  | x :: ds, es, vs, ws, h, h' => by
    unfold RlL at h
    obtain ⟨v, r, e1, h1, h2⟩ := h
    subst e1
    show RlL K m Ω H (x :: (ds ++ es)) (v :: (r ++ ws))
    unfold RlL
    exact ⟨v, _, rfl, h1, h2.append h'⟩
theorem RlL.one {d : D} {v : V} (h : Rl K m Ω H d v) : RlL K m Ω H [d] [v] := by
  unfold RlL
  exact ⟨v, [], rfl, h, by unfold RlL; rfl⟩
theorem RlL.set : ∀ {ds : List D} {vs : List V} (i : Nat) {d : D} {v : V}, RlL K m Ω H ds vs → Rl K m Ω H d v → RlL K m Ω H (ds.set i d) (vs.set i v)
  | [], vs, i, d, v, h, _ => by unfold RlL at h; subst h; unfold RlL; rfl
  | x :: ds, vs, i, d, v, h, h' => by
    unfold RlL at h
    obtain ⟨w, r, e1, h1, h2⟩ := h
    subst e1
    cases i with
    | zero =>
      show RlL K m Ω H (d :: ds) (v :: r)
      unfold RlL
      exact ⟨v, _, rfl, h', h2⟩
    | succ i =>
      show RlL K m Ω H (x :: ds.set i d) (w :: r.set i v)
      unfold RlL
      exact ⟨w, _, rfl, h1, RlL.set i h2 h'⟩
/-- x[i] of a list, a cell, a tuple, the script -/
def dIx : Op2 := fun x y Ω => match x, y with
  | .tup xs, .int i => match L2.atI xs i with
    | some d => some (.ok d, Ω)
    | none => none
  | .scr xs, .int i => match L2.atI xs i with
    | some d => some (.ok (.int d), Ω)
    | none => none
  | x, .int i => match asL Ω x with
    | some xs => match L2.atI xs i with
      | some d => some (.ok d, Ω)
      | none => none
    | none => none
  | _, _ => none
theorem od_ix : OpD K dIx (r2or (rIxL K) (rIxT K)) := by
  intro E m Ω H x y v u Q c rx ry q
  cases y with
  | int i =>
    unfold Rl at ry
    have one : ∀ (d : D) (xs : List D), d = x → asL Ω d = some xs → Af K (Rl K) E Q m Ω H (match L2.atI xs i with | some d => some (.ok d, Ω) | none => none) → r2or (rIxL K) (rIxT K) v u H Q := fun d xs ed e qq => by
      clear q
      subst ed
      obtain ⟨a, vs, e1, h1, h2⟩ := asL_ok c rx e
      cases e2 : L2.atI xs i with
      | none => rw [e2] at qq; exact qq.elim
      | some d =>
        rw [e2] at qq
        obtain ⟨w, h3, h4⟩ := h2.atI e2
        exact .inl ⟨a, vs, i, w, e1, ry, SqL.of h1, h3, qq.now c h4⟩
    cases x with
    | tup xs =>
      unfold Rl at rx
      obtain ⟨a, vs, e1, h1, h2⟩ := rx
      unfold dIx at q
      dsimp only at q
      cases e2 : L2.atI xs i with
      | none => rw [e2] at q; exact q.elim
      | some d =>
        rw [e2] at q
        obtain ⟨w, h3, h4⟩ := h2.atI e2
        exact .inr ⟨a, vs, i, w, e1, ry, h1.sq, h3, q.now c h4⟩
    | scr xs =>
      unfold Rl at rx
      obtain ⟨a, e1, h1⟩ := rx
      unfold dIx at q
      dsimp only at q
      cases e2 : L2.atI xs i with
      | none => rw [e2] at q; exact q.elim
      | some d =>
        rw [e2] at q
        refine .inl ⟨a, xs.map V.int, i, .int d, e1, ry, h1.sq, ?_, q.now c rl_int⟩
        unfold L2.atI at e2 ⊢
        rw [List.length_map]
        cases e3 : ixN xs.length i with
        | none => rw [e3] at e2; cases e2
        | some j =>
          rw [e3] at e2
          show (xs.map V.int)[j]? = some (.int d)
          rw [List.getElem?_map, show xs[j]? = some d from e2] <;> rfl
    | lst xs => exact one (.lst xs) xs rfl rfl q
    | ref n =>
      unfold dIx at q
      dsimp only at q
      cases e : asL Ω (.ref n) with
      | none => rw [e] at q; exact q.elim
      | some xs => rw [e] at q; exact one (.ref n) xs rfl e q
    | _ => exact q.elim
  | _ => cases x <;> exact q.elim
/-- a + b -/
def dAdd : Op2 := fun x y Ω => match x, y with
  | .int i, .int j => some (.ok (.int (i + j)), Ω)
  | .str a, .str b => if a.length + b.length ≤ 100000 then some (.ok (.str (a ++ b)), Ω) else none
  | x, y => match asL Ω x with
    | some xs => match asL Ω y with
      | some ys => if xs.length + ys.length ≤ 100000 then some (.ok (.lst (xs ++ ys)), Ω) else none
      | none => none
    | none => none
def rAddS : R2 := fun x y H Q => ∃ i j, x = .str i ∧ y = .str j ∧ i.length + j.length ≤ sizeLine ∧ Q (.str (i ++ j)) H
theorem od_add : OpD K dAdd (r2or (rI0 fun i j => .int (i + j)) (r2or rAddS rCat)) := by
  intro E m Ω H x y v u Q c rx ry q
  have cat : ∀ (d e : D), d = x → e = y → Af K (Rl K) E Q m Ω H (match asL Ω d with
    | some xs => match asL Ω e with
      | some ys => if xs.length + ys.length ≤ 100000 then some (.ok (.lst (xs ++ ys)), Ω) else none
      | none => none
    | none => none) → rCat v u H Q := fun d e ed ee qq => by
    clear q
    subst ed ee
    cases e1 : asL Ω d with
    | none => rw [e1] at qq; exact qq.elim
    | some xs =>
      rw [e1] at qq
      cases e2 : asL Ω e with
      | none => rw [e2] at qq; exact qq.elim
      | some ys =>
        rw [e2] at qq
        obtain ⟨hz, qq⟩ := Af.guard qq
        obtain ⟨a, vs, e3, h1, h2⟩ := asL_ok c rx e1
        obtain ⟨b, ws, e4, h3, h4⟩ := asL_ok c ry e2
        exact ⟨a, b, vs, ws, e3, e4, h1, h3, by rw [← h2.length, ← h4.length]; exact sz hz, fun p hp => qq m _ _ (Go.new c hp) (Rl.newL c hp (h2.append h4))⟩
  cases x with
  | int i =>
    cases y with
    | int j =>
      unfold Rl at rx ry
      exact .inl ⟨i, j, rx, ry, q.now c rl_int⟩
    | _ => exact q.elim
  | str i =>
    cases y with
    | str j =>
      unfold Rl at rx ry
      obtain ⟨hz, q⟩ := Af.guard q
      exact .inr (.inl ⟨i, j, rx, ry, sz hz, q.now c (by unfold Rl; rfl)⟩)
    | _ => exact q.elim
  | lst xs => cases y <;> first | exact q.elim | exact .inr (.inr (cat _ _ rfl rfl q))
  | ref n => cases y <;> exact .inr (.inr (cat _ _ rfl rfl q))
  | _ => cases y <;> exact q.elim
end
section
variable {X : Cx} {E : St → XK} {a b e : Expr} {f g : Den D} {pos : Pos}
theorem op_addX : OpR X (binaryOp .Add) (r2or (rI0 fun i j => .int (i + j)) (r2or rAddS rCat)) := opR_or op_add (opR_or op_add_str op_cat)
theorem ixR_or {r r' : R2} (h : IxR X r) (h' : IxR X r') : IxR X (r2or r r') := fun value slice pins s σ H x y v u Q I rx ry q hs => q.elim (fun q => h value slice pins s σ H x y v u Q I rx ry q hs) (fun q => h' value slice pins s σ H x y v u Q I rx ry q hs)
theorem de_add (ha : DE X E a f) (hb : DE X E b g) : DE X E (.BinOp a .Add b pos) (fBin dAdd f g) := de_bin op_addX od_add ha hb
theorem de_sub (ha : DE X E a f) (hb : DE X E b g) : DE X E (.BinOp a .Sub b pos) (fBin dSub f g) := de_bin op_sub od_sub ha hb
theorem de_mul (ha : DE X E a f) (hb : DE X E b g) : DE X E (.BinOp a .Mult b pos) (fBin dMul f g) := de_bin op_mul od_mul ha hb
theorem de_fdiv (ha : DE X E a f) (hb : DE X E b g) : DE X E (.BinOp a .FloorDiv b pos) (fBin dFdiv f g) := de_bin op_fdiv od_fdiv ha hb
theorem de_mod (ha : DE X E a f) (hb : DE X E b g) : DE X E (.BinOp a .Mod b pos) (fBin dMod f g) := de_bin op_mod od_mod ha hb
theorem de_pow (ha : DE X E a f) (hb : DE X E b g) : DE X E (.BinOp a .Pow b pos) (fBin dPow f g) := de_bin op_pow od_pow ha hb
theorem de_ge (ha : DE X E a f) (hb : DE X E b g) : DE X E (.Compare a [.GtE] [b] pos) (fBin dGe f g) := de_cmp op_ge od_ge ha hb (nomark _)
theorem dt_lt (ha : DE X E a f) (hb : DE X E b g) : DT X E (.Compare a [.Lt] [b] pos) (fT (fBin dLt f g)) := dt_cmp op_lt od_lt ha hb (nomark _)
theorem dt_le (ha : DE X E a f) (hb : DE X E b g) : DT X E (.Compare a [.LtE] [b] pos) (fT (fBin dLe f g)) := dt_cmp op_le od_le ha hb (nomark _)
theorem dt_gt (ha : DE X E a f) (hb : DE X E b g) : DT X E (.Compare a [.Gt] [b] pos) (fT (fBin dGt f g)) := dt_cmp op_gt od_gt ha hb (nomark _)
theorem dt_ge (ha : DE X E a f) (hb : DE X E b g) : DT X E (.Compare a [.GtE] [b] pos) (fT (fBin dGe f g)) := dt_cmp op_ge od_ge ha hb (nomark _)
theorem de_sq (ha : DE X E a f) (hb : DE X E b g) (hp : PlainIx b := by intro _ _; rfl) : DE X E (.Subscript a b pos) (fBin dIx f g) := de_ix (ixR_or ix_list ix_tup) od_ix ha hb hp
def dNeg : Op1 := fun x Ω => match x with
  | .int i => some (.ok (.int (-i)), Ω)
  | _ => none
theorem de_neg (ha : DE X E a f) : DE X E (.UnaryOp .USub a pos) (fUn dNeg f) := de_un un_neg (by
  intro E m Ω H x v Q c rx q
  cases x with
  | int i => unfold Rl at rx; exact ⟨i, rx, q.now c rl_int⟩
  | _ => exact q.elim) ha
end
end Dn


set_option Elab.async false
set_option linter.all false
set_option maxRecDepth 100000
/-! DnStm: statements, targets, walks. -/
namespace Dn
open PySem L2

inductive Fl where
  | nx | rt (d : D) | bk | ct | ex (e : Xn)
abbrev DenS := Gm → Om → Option (Fl × Gm × Om)
def AfS (K : PySem.W.Frag) (E : St → XK) (D : Ends) (m : Mp) (Ω : Om) (H : Hp) (r : Option (Fl × Gm × Om)) : Prop := match r with
  | none => False
  | some (.nx, Γ', Ω') => ∀ m' σ' H', Go K m Ω H m' Ω' H' → Slots K m' Ω' H' Γ' σ' → D.nx σ' H'
  | some (.bk, Γ', Ω') => ∀ m' σ' H', Go K m Ω H m' Ω' H' → Slots K m' Ω' H' Γ' σ' → D.bk σ' H'
  | some (.ct, Γ', Ω') => ∀ m' σ' H', Go K m Ω H m' Ω' H' → Slots K m' Ω' H' Γ' σ' → D.ct σ' H'
  | some (.rt d, _, Ω') => ∀ m' v H', Go K m Ω H m' Ω' H' → Rl K m' Ω' H' d v → D.rt v H'
  | some (.ex e, Γ', Ω') => ∀ m' σ' H' cls dd, Go K m Ω H m' Ω' H' → Slots K m' Ω' H' Γ' σ' → XRel K m' Ω' H' e cls dd → E σ' cls dd H'
def tS (K : PySem.W.Frag) (E : St → XK) (g : DenS) : TS := fun D σ H => ∃ m Γ Ω, SR K m Γ Ω σ H ∧ AfS K E D m Ω H (g Γ Ω)
abbrev DS (X : Cx) (E : St → XK) (st : Stmt) (g : DenS) : Prop := PS X st (tS X.K E g)
abbrev DSs (X : Cx) (E : St → XK) (st : List Stmt) (g : DenS) : Prop := PSs X st (tS X.K E g)
section
variable {K : PySem.W.Frag} {m m1 m' : Mp} {Ω Ω1 Ω' : Om} {H H1 H' : Hp} {Γ : Gm} {σ : St} {E : St → XK} {D D' : Ends}
theorem AfS.go (g : Go K m Ω H m1 Ω1 H1) : ∀ {r : Option (Fl × Gm × Om)}, AfS K E D m Ω H r → AfS K E D m1 Ω1 H1 r
  | none, h => h
  | some (.nx, Γ', Ω'), h => fun m' b H' g2 r => h m' b H' (g.trans g2) r
  | some (.bk, Γ', Ω'), h => fun m' b H' g2 r => h m' b H' (g.trans g2) r
  | some (.ct, Γ', Ω'), h => fun m' b H' g2 r => h m' b H' (g.trans g2) r
  | some (.rt d, Γ', Ω'), h => fun m' b H' g2 r => h m' b H' (g.trans g2) r
  | some (.ex e, Γ', Ω'), h => fun m' σ' H' c d g2 sl r => h m' σ' H' c d (g.trans g2) sl r
theorem Slots.set (s : Slots K m Ω H Γ σ) {i : Nat} {d : Dn.D} {v : V} (r : Rl K m Ω H d v) : Slots K m Ω H (Γ.set i (some d)) (σ.set i (some v)) := by
  refine ⟨by rw [List.length_set, List.length_set, s.1], fun j e h => ?_⟩
  by_cases hj : j = i
  · subst hj
    have hl : j < Γ.length := by
      have := (List.getElem?_eq_some_iff.mp h).1
      rwa [List.length_set] at this
    rw [List.getElem?_set_self hl] at h
    cases h
    exact ⟨v, by rw [List.getElem?_set_self (by rw [← s.1]; exact hl)], r⟩
  · rw [List.getElem?_set_ne (Ne.symm hj)] at h ⊢
    exact s.2 j e h
end
/-! ### blocks -/
def sSkip : DenS := fun Γ Ω => some (.nx, Γ, Ω)
def bS (r : Option (Fl × Gm × Om)) (k : DenS) : Option (Fl × Gm × Om) := match r with
  | none => none
  | some (.nx, Γ, Ω) => k Γ Ω
  | some x => some x
@[simp] theorem bS_none (k : DenS) : bS none k = none := rfl
@[simp] theorem bS_nx (Γ : Gm) (Ω : Om) (k : DenS) : bS (some (.nx, Γ, Ω)) k = k Γ Ω := rfl
@[simp] theorem bS_rt (d : D) (Γ : Gm) (Ω : Om) (k : DenS) : bS (some (.rt d, Γ, Ω)) k = some (.rt d, Γ, Ω) := rfl
@[simp] theorem bS_bk (Γ : Gm) (Ω : Om) (k : DenS) : bS (some (.bk, Γ, Ω)) k = some (.bk, Γ, Ω) := rfl
@[simp] theorem bS_ct (Γ : Gm) (Ω : Om) (k : DenS) : bS (some (.ct, Γ, Ω)) k = some (.ct, Γ, Ω) := rfl
@[simp] theorem bS_ex (e : Xn) (Γ : Gm) (Ω : Om) (k : DenS) : bS (some (.ex e, Γ, Ω)) k = some (.ex e, Γ, Ω) := rfl
def sSeq (g k : DenS) : DenS := fun Γ Ω => bS (g Γ Ω) k
/-- a value, then a statement's end -/
def eS (r : Option (Rs D × Om)) (Γ : Gm) (k : D → Om → Option (Fl × Gm × Om)) : Option (Fl × Gm × Om) := match r with
  | none => none
  | some (.ok d, Ω) => k d Ω
  | some (.ex e, Ω) => some (.ex e, Γ, Ω)
@[simp] theorem eS_none (Γ : Gm) (k : D → Om → Option (Fl × Gm × Om)) : eS none Γ k = none := rfl
@[simp] theorem eS_ok (d : D) (Ω : Om) (Γ : Gm) (k : D → Om → Option (Fl × Gm × Om)) : eS (some (.ok d, Ω)) Γ k = k d Ω := rfl
@[simp] theorem eS_ex (e : Xn) (Ω : Om) (Γ : Gm) (k : D → Om → Option (Fl × Gm × Om)) : eS (some (.ex e, Ω)) Γ k = some (.ex e, Γ, Ω) := rfl
def sSet (i : Nat) (f : Den D) : DenS := fun Γ Ω => eS (f Γ Ω) Γ fun d Ω1 => some (.nx, Γ.set i (some d), Ω1)
def sRet (f : Den D) : DenS := fun Γ Ω => eS (f Γ Ω) Γ fun d Ω1 => some (.rt d, Γ, Ω1)
def sExp (f : Den D) : DenS := fun Γ Ω => eS (f Γ Ω) Γ fun _ Ω1 => some (.nx, Γ, Ω1)
def sIf (c : Den Bool) (g k : DenS) : DenS := fun Γ Ω => match c Γ Ω with
  | none => none
  | some (.ok b, Ω1) => if b = true then g Γ Ω1 else k Γ Ω1
  | some (.ex e, Ω1) => some (.ex e, Γ, Ω1)
def sNever : DenS := fun _ _ => none
section
variable {X : Cx} {E : St → XK} {st : Stmt} {rest a b : List Stmt} {e c : Expr} {f : Den D} {g k : DenS} {p : Den Bool} {pos : Pos}
/-- from a value's end to a statement's -/
theorem AfS.val {K : PySem.W.Frag} {D : Ends} {m : Mp} {Ω : Om} {H : Hp} {Γ : Gm} {σ : St} {kk : Dn.D → Om → Option (Fl × Gm × Om)} (sl : Slots K m Ω H Γ σ) (c : CellsOk K m Ω H) : ∀ {r : Option (Rs Dn.D × Om)}, AfS K E D m Ω H (eS r Γ kk) →
    Af K (Rl K) (E σ) (fun v H1 => ∃ m1 Ω1 d, Go K m Ω H m1 Ω1 H1 ∧ Rl K m1 Ω1 H1 d v ∧ AfS K E D m1 Ω1 H1 (kk d Ω1)) m Ω H r
  | none, h => h
  | some (.ok d, Ω'), h => fun m' v H' g r => ⟨m', Ω', d, g, r, AfS.go g h⟩
  | some (.ex e, Ω'), h => fun m' H' cls dd g r => h m' σ H' cls dd g ((SR.mk c sl).go g).slots r
theorem ds_nil : DSs X E [] sSkip := PSs.mono pss_nil fun D σ H h => by
  obtain ⟨m, Γ, Ω, s, h⟩ := h
  exact h m σ H (Go.refl s.cells) s.slots
theorem ds_cons (h1 : DS X E st g) (h2 : DSs X E rest k) : DSs X E (st :: rest) (sSeq g k) := PSs.mono (pss_cons h1 h2) fun D σ H h => by
  obtain ⟨m, Γ, Ω, s, h⟩ := h
  refine ⟨m, Γ, Ω, s, ?_⟩
  show AfS X.K E { D with nx := tS X.K E k D } m Ω H (g Γ Ω)
  unfold sSeq at h
  cases e : g Γ Ω with
  | none => rw [e] at h; exact h
  | some x =>
    obtain ⟨fl, Γ', Ω'⟩ := x
    rw [e] at h
    cases fl with
    | nx => exact fun m' σ' H' g2 sl => ⟨m', Γ', Ω', ⟨g2.ok, sl⟩, AfS.go g2 h⟩
    | _ => exact h
theorem ds_one (h1 : DS X E st g) : DSs X E [st] g := PSs.mono (pss_cons h1 (ds_nil (E := E))) fun D σ H h => by
  obtain ⟨m, Γ, Ω, s, h⟩ := h
  refine ⟨m, Γ, Ω, s, ?_⟩
  show AfS X.K E { D with nx := tS X.K E sSkip D } m Ω H (g Γ Ω)
  cases e : g Γ Ω with
  | none => rw [e] at h; exact h
  | some x =>
    obtain ⟨fl, Γ', Ω'⟩ := x
    rw [e] at h
    cases fl with
    | nx => exact fun m' σ' H' g2 sl => ⟨m', Γ', Ω', ⟨g2.ok, sl⟩, fun m2 σ2 H2 g3 sl3 => h m2 σ2 H2 (g2.trans g3) sl3⟩
    | _ => exact h
theorem ds_set (i : Nat) {x : Str} {pos' : Pos} (hN : X.N.Nodup) (he : DE X E e f) (hi : X.N[i]? = some x := by rfl) (hx : Loc X.env.scope x := by first | exact Or.inl rfl | exact Or.inr rfl) (hs : swapsWith e (some (.Name x pos')) pos.line X.env = pure false := by rfl) (hf : X.fn x = true ∨ X.env.scope.names.lookup x = some .local := by first | exact .inl rfl | exact .inr rfl | assumption) :
    DS X E (.Assign [.Name x pos'] e pos) (sSet i f) := PS.mono (ps_set (i := i) hN hi hx he hs hf) fun D σ H h => by
  obtain ⟨m, Γ, Ω, s, h⟩ := h
  refine ⟨m, Γ, Ω, s, (AfS.val s.slots s.cells h).imp fun _ _ _ _ _ _ _ _ ⟨m1, Ω1, d, g1, r1, q⟩ => ?_⟩
  exact q m1 _ _ (Go.refl g1.ok) ((s.go g1).slots.set r1)
theorem ds_ret (he : DE X E e f) : DS X E (.Return (some e) pos) (sRet f) := PS.mono (ps_ret he) fun D σ H h => by
  obtain ⟨m, Γ, Ω, s, h⟩ := h
  refine ⟨m, Γ, Ω, s, (AfS.val s.slots s.cells h).imp fun _ _ _ _ _ _ _ _ ⟨m1, Ω1, d, g1, r1, q⟩ => ?_⟩
  exact q m1 _ _ (Go.refl g1.ok) r1
theorem ds_exp (he : DE X E e f) (hs : swapsWith e none pos.line X.env = pure false := by rfl) : DS X E (.Expr e pos) (sExp f) := PS.mono (ps_expr he hs) fun D σ H h => by
  obtain ⟨m, Γ, Ω, s, h⟩ := h
  refine ⟨m, Γ, Ω, s, (AfS.val s.slots s.cells h).imp fun _ _ _ _ _ _ _ _ ⟨m1, Ω1, d, g1, r1, q⟩ => ?_⟩
  exact q m1 _ _ (Go.refl g1.ok) (s.go g1).slots
theorem ds_if (hc : DT X E c p) (h1 : DSs X E a g) (h2 : DSs X E b k) : DS X E (.If c a b pos) (sIf p g k) := PS.mono (ps_if hc h1 h2) fun D σ H h => by
  obtain ⟨m, Γ, Ω, s, h⟩ := h
  refine ⟨m, Γ, Ω, s, ?_⟩
  unfold sIf at h
  cases e : p Γ Ω with
  | none => rw [e] at h; exact h
  | some x =>
    obtain ⟨r, Ω'⟩ := x
    rw [e] at h
    cases r with
    | ok b =>
      intro m' b' H' g2 eb
      subst eb
      cases b with
      | true => exact ⟨m', Γ, Ω', s.go g2, AfS.go g2 h⟩
      | false => exact ⟨m', Γ, Ω', s.go g2, AfS.go g2 h⟩
    | ex e => exact fun m' H' cls dd g2 r => h m' σ H' cls dd g2 (s.go g2).slots r
end

/-! ### targets -/
abbrev DenG := D → Gm → Option Gm
def gN (i : Nat) : DenG := fun d Γ => some (Γ.set i (some d))
def gNil : List D → Gm → Option Gm := fun ds Γ => match ds with
  | [] => some Γ
  | _ => none
def gCons (t : DenG) (u : List D → Gm → Option Gm) : List D → Gm → Option Gm := fun ds Γ => match ds with
  | d :: r => match t d Γ with
    | some Γ1 => u r Γ1
    | none => none
  | [] => none
def gT (n : Nat) (u : List D → Gm → Option Gm) : DenG := fun d Γ => match d with
  | .tup ds => if ds.length = n then u ds Γ else none
  | _ => none
def tTg (K : PySem.W.Frag) (t : DenG) : TG := fun v σ H Q => ∃ m Γ Ω d Γ', SR K m Γ Ω σ H ∧ Rl K m Ω H d v ∧ t d Γ = some Γ' ∧ ∀ σ', Slots K m Ω H Γ' σ' → Q σ' H
def tTgs (K : PySem.W.Frag) (t : List D → Gm → Option Gm) : TGs := fun vs σ H Q => ∃ m Γ Ω ds Γ', SR K m Γ Ω σ H ∧ RlL K m Ω H ds vs ∧ t ds Γ = some Γ' ∧ ∀ σ', Slots K m Ω H Γ' σ' → Q σ' H
abbrev DG (X : Cx) (tg : Expr) (t : DenG) : Prop := PG X tg (tTg X.K t)
abbrev DGs (X : Cx) (tg : List Expr) (t : List D → Gm → Option Gm) : Prop := PGs X tg (tTgs X.K t)
theorem PG.mono {X : Cx} {e : Expr} {t t' : TG} (h : PG X e t) (i : ∀ v σ H Q, t' v σ H Q → t v σ H Q) : PG X e t' := ⟨fun pins s σ H v u Q I r q => h.run pins s σ H v u Q I r (i v σ H Q q)⟩
theorem PGs.mono {X : Cx} {e : List Expr} {t t' : TGs} (h : PGs X e t) (i : ∀ v σ H Q, t' v σ H Q → t v σ H Q) : PGs X e t' := ⟨fun pins s σ H v u Q I r q => h.run pins s σ H v u Q I r (i v σ H Q q)⟩
section
variable {X : Cx} {E : St → XK} {e : Expr} {es : List Expr} {pos : Pos} {t : DenG} {u : List D → Gm → Option Gm}
theorem dg_n (i : Nat) {x : Str} (hN : X.N.Nodup) (hi : X.N[i]? = some x := by rfl) (hx : Loc X.env.scope x := by first | exact Or.inl rfl | exact Or.inr rfl) (hf : X.fn x = true ∨ X.env.scope.names.lookup x = some .local := by first | exact .inl rfl | exact .inr rfl | assumption) : DG X (.Name x pos) (gN i) := PG.mono (pg_name (i := i) hN hi hx hf) fun v σ H Q h => by
  obtain ⟨m, Γ, Ω, d, Γ', s, r, e, q⟩ := h
  cases e
  exact q _ (s.slots.set r)
theorem dgs_nil : DGs X [] gNil := PGs.mono pgs_nil fun v σ H Q h => by
  obtain ⟨m, Γ, Ω, ds, Γ', s, r, e, q⟩ := h
  cases ds with
  | nil =>
    unfold RlL at r
    cases e
    exact ⟨r, q _ s.slots⟩
  | cons d ds => cases e
theorem dgs_cons (h1 : DG X e t) (h2 : DGs X es u) (hs : (assignEach (e :: es) X.env).map (·.2) = assign e X.env :: (assignEach es X.env).map (·.2) := by rfl) : DGs X (e :: es) (gCons t u) := PGs.mono (pgs_cons h1 h2 hs) fun v σ H Q h => by
  obtain ⟨m, Γ, Ω, ds, Γ', s, r, e, q⟩ := h
  cases ds with
  | nil => cases e
  | cons d ds =>
    unfold RlL at r
    obtain ⟨w, ws, ev, r1, r2⟩ := r
    unfold gCons at e
    dsimp only at e
    cases e1 : t d Γ with
    | none => rw [e1] at e; cases e
    | some Γ1 =>
      rw [e1] at e
      exact ⟨w, ws, ev, m, Γ, Ω, d, Γ1, s, r1, e1, fun σ' sl => ⟨m, Γ1, Ω, ds, Γ', ⟨s.cells, sl⟩, r2, e, q⟩⟩
theorem dg_t {n : Nat} {k : Nat} (hc : X.calm = true) (h : DGs X es u) (hn : (assignEach es X.env).length = n := by rfl) (hst : (assignEach es X.env).findIdx? (·.1) = none := by rfl) : DG X (.Tuple es k pos) (gT n u) := PG.mono (pg_tup hc h hn hst) fun v σ H Q h => by
  obtain ⟨m, Γ, Ω, d, Γ', s, r, e, q⟩ := h
  cases d with
  | tup ds =>
    unfold Rl at r
    obtain ⟨a, vs, ev, h1, h2⟩ := r
    unfold gT at e
    dsimp only at e
    by_cases hl : ds.length = n
    · rw [if_pos hl] at e
      exact ⟨a, vs, ev, h1.sq, by rw [← h2.length]; exact hl, m, Γ, Ω, ds, Γ', s, h2, e, q⟩
    · rw [if_neg hl] at e; cases e
  | _ => cases e
/-- target = value -/
def sAsg (f : Den D) (t : DenG) : DenS := fun Γ Ω => eS (f Γ Ω) Γ fun d Ω1 => match t d Γ with
  | some Γ1 => some (.nx, Γ1, Ω1)
  | none => none
theorem ds_asg {tg : Expr} {f : Den D} (he : DE X E e f) (hg : DG X tg t) (hs : swapsWithSole [tg] e pos.line X.env = pure false := by rfl) (hw : swappedStores [tg] e X.env = pure none := by rfl)
    (h1 : (assignEach [tg] X.env).map (·.2) = [assign tg X.env] := by rfl) : DS X E (.Assign [tg] e pos) (sAsg f t) := PS.mono (ps_asg he hg hs hw h1) fun D σ H h => by
  obtain ⟨m, Γ, Ω, s, h⟩ := h
  refine ⟨m, Γ, Ω, s, (AfS.val s.slots s.cells h).imp fun _ _ _ _ _ _ _ _ ⟨m1, Ω1, d, g1, r1, q⟩ => ?_⟩
  cases e1 : t d Γ with
  | none => rw [e1] at q; exact q.elim
  | some Γ1 =>
    rw [e1] at q
    exact ⟨m1, Γ, Ω1, d, Γ1, s.go g1, r1, e1, fun σ' sl => q m1 σ' _ (Go.refl g1.ok) sl⟩
/-- a, b = x, y; a, b, c = x, y, z by plain local names -/
def sPar (is : List Nat) (r : Den (List D)) : DenS := fun Γ Ω => match r Γ Ω with
  | none => none
  | some (.ok ds, Ω1) => match is, ds with
    | [i, j], [x, y] => some (.nx, (Γ.set i (some x)).set j (some y), Ω1)
    | [i, j, l], [x, y, z] => some (.nx, ((Γ.set i (some x)).set j (some y)).set l (some z), Ω1)
    | _, _ => none
  | some (.ex e, Ω1) => some (.ex e, Γ, Ω1)
theorem ds_par2 (i j : Nat) {x y : Str} {a b : Expr} {r : Den (List D)} {px py pt : Pos} {kt k2 pt2} (hc : X.calm = true) (hN : X.N.Nodup) (ha : DA X E [a, b] r) (hi : X.N[i]? = some x := by rfl) (hj : X.N[j]? = some y := by rfl) (hij : i ≠ j := by decide)
    (hx : X.env.scope.names.lookup x = some .local := by rfl) (hy : X.env.scope.names.lookup y = some .local := by rfl)
    (hw : swappedStores [.Tuple [.Name x px, .Name y py] kt pt] (.Tuple [a, b] k2 pt2) X.env = pure (some [x, y]) := by rfl)
    (hs : swapsWithSole [.Tuple [.Name x px, .Name y py] kt pt] (.Tuple [a, b] k2 pt2) pos.line X.env = pure false := by rfl) :
    DS X E (.Assign [.Tuple [.Name x px, .Name y py] kt pt] (.Tuple [a, b] k2 pt2) pos) (sPar [i, j] r) := PS.mono (ps_par hc hN hi hj hij hx hy ha hw hs) fun D σ H h => by
  obtain ⟨m, Γ, Ω, s, h⟩ := h
  refine ⟨m, Γ, Ω, s, ?_⟩
  unfold sPar at h
  cases e : r Γ Ω with
  | none => rw [e] at h; exact h
  | some z =>
    obtain ⟨q, Ω'⟩ := z
    rw [e] at h
    cases q with
    | ok ds =>
      intro m' vs H' g2 rr
      match ds, h, rr with
      | [d1, d2], h, rr =>
        unfold RlL at rr
        obtain ⟨v1, w1, e1, r1, q1⟩ := rr
        unfold RlL at q1
        obtain ⟨v2, w2, e2, r2, q2⟩ := q1
        unfold RlL at q2
        subst q2 e2 e1
        exact ⟨v1, v2, rfl, h m' _ _ g2 (((s.go g2).slots.set r1).set r2)⟩
      | [], h, rr => exact h.elim
      | [_], h, rr => exact h.elim
      | _ :: _ :: _ :: _, h, rr => exact h.elim
    | ex e => exact fun m' H' cls dd g2 r => h m' σ H' cls dd g2 (s.go g2).slots r
theorem ds_par3 (i j l : Nat) {x y z : Str} {a b c : Expr} {r : Den (List D)} {px py pz pt : Pos} {kt k2 pt2} (hc : X.calm = true) (hN : X.N.Nodup) (ha : DA X E [a, b, c] r) (hi : X.N[i]? = some x := by rfl) (hj : X.N[j]? = some y := by rfl) (hl : X.N[l]? = some z := by rfl) (hij : i ≠ j := by decide) (hil : i ≠ l := by decide) (hjl : j ≠ l := by decide)
    (hx : X.env.scope.names.lookup x = some .local := by rfl) (hy : X.env.scope.names.lookup y = some .local := by rfl) (hz : X.env.scope.names.lookup z = some .local := by rfl)
    (hw : swappedStores [.Tuple [.Name x px, .Name y py, .Name z pz] kt pt] (.Tuple [a, b, c] k2 pt2) X.env = pure (some [x, y, z]) := by rfl)
    (hs : swapsWithSole [.Tuple [.Name x px, .Name y py, .Name z pz] kt pt] (.Tuple [a, b, c] k2 pt2) pos.line X.env = pure false := by rfl) :
    DS X E (.Assign [.Tuple [.Name x px, .Name y py, .Name z pz] kt pt] (.Tuple [a, b, c] k2 pt2) pos) (sPar [i, j, l] r) := PS.mono (ps_par3 hc hN hi hj hl hij hil hjl hx hy hz ha hw hs) fun D σ H h => by
  obtain ⟨m, Γ, Ω, s, h⟩ := h
  refine ⟨m, Γ, Ω, s, ?_⟩
  unfold sPar at h
  cases e : r Γ Ω with
  | none => rw [e] at h; exact h
  | some z =>
    obtain ⟨q, Ω'⟩ := z
    rw [e] at h
    cases q with
    | ok ds =>
      intro m' vs H' g2 rr
      match ds, h, rr with
      | [d1, d2, d3], h, rr =>
        unfold RlL at rr
        obtain ⟨v1, w1, e1, r1, q1⟩ := rr
        unfold RlL at q1
        obtain ⟨v2, w2, e2, r2, q2⟩ := q1
        unfold RlL at q2
        obtain ⟨v3, w3, e3, r3, q3⟩ := q2
        unfold RlL at q3
        subst q3 e3 e2 e1
        exact ⟨v1, v2, v3, rfl, h m' _ _ g2 ((((s.go g2).slots.set r1).set r2).set r3)⟩
      | [], h, rr => exact h.elim
      | [_], h, rr => exact h.elim
      | [_, _], h, rr => exact h.elim
      | _ :: _ :: _ :: _ :: _, h, rr => exact h.elim
    | ex e => exact fun m' H' cls dd g2 r => h m' σ H' cls dd g2 (s.go g2).slots r
end

/-! ### walks -/
/-- J gives the items, one by one -/
def Yields (K : PySem.W.Frag) (m : Mp) (Ω : Om) (H : Hp) (ds : List D) (J : It) : Prop := ∀ (i : Nat) (m' : Mp) (Ω' : Om) (H' : Hp), Gw K m Ω H m' Ω' H' → CellsOk K m' Ω' H' →
  (∀ d, ds[i]? = some d → J.go i H' ∧ ∀ x H'', J.yld i H' x H'' → Go K m' Ω' H' m' Ω' H'' ∧ Rl K m' Ω' H'' d x) ∧ (ds.length ≤ i → J.stop i H')
def tIt (K : PySem.W.Frag) (E : St → XK) (f : Den (List D)) : TI := fun σ H R => tG K (fun m Ω H ds J => Yields K m Ω H ds J) E f σ H fun J H' => R J H'
abbrev DI (X : Cx) (E : St → XK) (tg iter : Expr) (f : Den (List D)) : Prop := PI X tg iter (tIt X.K E f)
def loopS (t : DenG) (b : DenS) : List D → Gm → Om → Option (Fl × Gm × Om)
  | [], Γ, Ω => some (.nx, Γ, Ω)
  | d :: r, Γ, Ω => match t d Γ with
    | none => none
    | some Γ1 => match b Γ1 Ω with
      | none => none
      | some (.nx, Γ2, Ω2) => loopS t b r Γ2 Ω2
      | some (.ct, Γ2, Ω2) => loopS t b r Γ2 Ω2
      | some (.bk, Γ2, Ω2) => some (.nx, Γ2, Ω2)
      | some x => some x
def sFor (f : Den (List D)) (t : DenG) (b : DenS) : DenS := fun Γ Ω => match f Γ Ω with
  | none => none
  | some (.ok ds, Ω1) => loopS t b ds Γ Ω1
  | some (.ex e, Ω1) => some (.ex e, Γ, Ω1)
section
variable {X : Cx} {E : St → XK} {tg iter : Expr} {body : List Stmt} {pos : Pos} {t : DenG} {f : Den (List D)} {b : DenS}
theorem ds_for (hp : PassesOwn (model X.prog X.w) X.A X.env X.xe) (hc : X.calm = true) (hi : DI X E tg iter f) (hg : DG X tg t) (hb : DSs X E body b)
    (hs : ∀ x, foldedSetIterable iter X.env x = pure x := by intro _; rfl) : DS X E (.For tg iter body [] pos) (sFor f t b) := PS.mono (ps_for hp hc hi hg hb hs) fun D σ H h => by
  obtain ⟨m, Γ, Ω, s, h⟩ := h
  refine ⟨m, Γ, Ω, s, ?_⟩
  unfold sFor at h
  cases e : f Γ Ω with
  | none => rw [e] at h; exact h
  | some z =>
    obtain ⟨q, Ω0⟩ := z
    rw [e] at h
    cases q with
    | ex e => exact fun m' H' cls dd g2 r => h m' σ H' cls dd g2 (s.go g2).slots r
    | ok ds =>
      intro m0 J H0 g0 Y
      have h : AfS X.K E D m Ω H (loopS t b ds Γ Ω0) := h
      refine ⟨fun i k σ' H' => k = ds.length - i ∧ i ≤ ds.length ∧ ∃ m' Γ' Ω', Go X.K m0 Ω0 H0 m' Ω' H' ∧ SR X.K m' Γ' Ω' σ' H' ∧ AfS X.K E D m' Ω' H' (loopS t b (ds.drop i) Γ' Ω'), ⟨ds.length, rfl, Nat.zero_le _, m0, Γ, Ω0, Go.refl g0.ok, s.go g0, AfS.go g0 h⟩, ?_⟩
      rintro i k σ' H' ⟨rfl, hi, m', Γ', Ω', g', s', a'⟩
      by_cases hlt : i < ds.length
      · right
        have e1 : ds[i]? = some ds[i] := List.getElem?_eq_getElem hlt
        obtain ⟨y1, _⟩ := Y i m' Ω' H' g'.toGw g'.ok
        obtain ⟨go1, yl⟩ := y1 _ e1
        rw [List.drop_eq_getElem_cons hlt] at a'
        refine ⟨go1, fun σ2 H2 => ∃ m2 Γ2 Ω2, Go X.K m0 Ω0 H0 m2 Ω2 H2 ∧ SR X.K m2 Γ2 Ω2 σ2 H2 ∧ AfS X.K E D m2 Ω2 H2 (loopS t b (ds.drop (i + 1)) Γ2 Ω2), fun σ2 H2 ⟨m2, Γ2, Ω2, z1, z2, z3⟩ => ⟨ds.length - (i + 1), by omega, rfl, hlt, m2, Γ2, Ω2, z1, z2, z3⟩, fun x H2 y2 => ?_⟩
        obtain ⟨g2, r2⟩ := yl x H2 y2
        have a2 : AfS X.K E D m' Ω' H2 (loopS t b (ds[i] :: ds.drop (i + 1)) Γ' Ω') := AfS.go g2 a'
        unfold loopS at a2
        cases e2 : t ds[i] Γ' with
        | none => rw [e2] at a2; exact a2.elim
        | some Γ1 =>
          rw [e2] at a2
          refine ⟨m', Γ', Ω', ds[i], Γ1, s'.go g2, r2, e2, fun σ3 sl3 => ⟨m', Γ1, Ω', ⟨g2.ok, sl3⟩, ?_⟩⟩
          dsimp only at a2
          cases e3 : b Γ1 Ω' with
          | none => rw [e3] at a2; exact a2.elim
          | some z =>
            obtain ⟨fl, Γ2, Ω2⟩ := z
            rw [e3] at a2
            cases fl with
            | nx => exact fun m3 σ4 H3 g3 sl4 => ⟨m3, Γ2, Ω2, (g'.trans g2).trans g3, ⟨g3.ok, sl4⟩, AfS.go g3 a2⟩
            | ct => exact fun m3 σ4 H3 g3 sl4 => ⟨m3, Γ2, Ω2, (g'.trans g2).trans g3, ⟨g3.ok, sl4⟩, AfS.go g3 a2⟩
            | bk => exact a2
            | rt d => exact a2
            | ex e => exact a2
      · left
        have ei : i = ds.length := by omega
        obtain ⟨_, y2⟩ := Y i m' Ω' H' g'.toGw g'.ok
        refine ⟨y2 (by omega), ?_⟩
        rw [List.drop_of_length_le (by omega)] at a'
        exact a' m' σ' H' (Go.refl s'.cells) s'.slots
end
end Dn


set_option Elab.async false
set_option linter.all false
set_option maxRecDepth 100000
/-! DnGuard: room without a repr under way; a def's promise under it. (The layer's FnOk knows nothing of what is shown at the time.) -/
namespace Dn
open PySem PySem.Spec PyProof.Rows L2
structure RoomG (k : Nat) (A : Around) : Prop extends Room k A where
  gd : A.guards = some []
theorem RoomG.mono {j k : Nat} {A : Around} (r : RoomG k A) (h : j ≤ k) : RoomG j A := ⟨r.toRoom.mono h, r.gd⟩
theorem RoomG.deeper {k : Nat} {A : Around} (r : RoomG (k + 1) A) (env : Env) : RoomG k (A.deeper env) := ⟨r.toRoom.deeper env, r.gd⟩
theorem RoomG.make {k : Nat} {A : Around} (r : RoomG (k + 1) A) (C : Addr) (us : List Value) (kw : List (Str × Value)) : RoomG k (A.under (.builtin "type.__call__" ⟨.ref C :: us, kw⟩)) :=
  ⟨r.toRoom.make C us kw, by
    have g := r.gd
    have no : ¬ ("type.__call__" ∈ guardIds) := by decide
    simp [Around.under, Code.guards, Code.isGuard, pushGuards, g, no]⟩
structure FnOkG (P : Program) (w : World) (K : PySem.W.Frag) (mg : Str → Option Value) (base : Heap) (T : CXT) (k : Nat) (f : Addr) (fd : FuncData) (ps : List Str) (sp : Sp) : Prop where
  len : ∀ vs H Q E, sp vs H Q E → vs.length = ps.length
  run : ∀ (A : Around) (out : List Env) (s : Shared) (H : Hp) (ar : Args) (us : List Value) (vs : List V) (Q : VK) (E : XK), RoomG k A → Env0 P w K mg base A out s H → BindsTo s fd ar (ps.zip us) → Vals vs us →
    sp vs H Q E → codeAny (model P w) A (.call (.ref f) ar) (CR T out P w H s Q E) s
section
variable {P : Program} {w : World} {K : PySem.W.Frag} {mg : Str → Option Value} {base : Heap} {T : CXT} {k : Nat} {f : Addr} {fd : FuncData} {ps : List Str} {sp sp' : Sp}
theorem FnOkG.imp (F : FnOkG P w K mg base T k f fd ps sp) (i : ∀ vs H Q E, sp' vs H Q E → sp vs H Q E) : FnOkG P w K mg base T k f fd ps sp' where
  len := fun vs H Q E z => F.len vs H Q E (i _ _ _ _ z)
  run := fun A out s H ar us vs Q E r0 r1 r2 r3 z => F.run A out s H ar us vs Q E r0 r1 r2 r3 (i _ _ _ _ z)
/-- a def by its body -/
theorem fn_ofG {x qual : Str} {params : Arguments} {body : List Stmt} {scope : Scope} {dvs : List V} {kws : List (Str × V)} {N : List Str} (G : FunD K x qual params body scope dvs kws f fd) (S : FnScope N ps scope)
    (hlen : ∀ vs H Q E, sp vs H Q E → vs.length = ps.length)
    (hbody : ∀ (cdv : Value) (A : Around) (out : List Env) (s : Shared) (H : Hp) (vs : List V) (Q : VK) (E : XK), RoomG k (A.deeper (envOfC qual scope s.heap.objs.size f cdv)) → sp vs H Q E →
      ∃ t, PSs (cxOf T P w K mg base N qual scope f cdv A out s H E) body t ∧ t { nx := fun _ Hz => Q .non Hz, rt := Q } (L2.start N vs) H) :
    FnOkG P w K mg base T (k + 1) f fd ps sp := by
  obtain ⟨oc, od, dV, kV, doc, pm, an, cdv, ct, osl, rfl, lk, hcd, _, _⟩ := G.ex
  refine ⟨hlen, fun A out s H ar us vs Q E room env bnd vals z => ?_⟩
  have nps := hlen _ _ _ _ z
  have kin : K.In s.heap := env.mod.kin.keeps fun b o q => (env.bs b o q).1
  have nolim : s.heap.NoLimit := env.mod.nolimit.keeps fun b o q => (env.bs b o q).1
  have kinds : ∀ y ∈ ps.zip us, scope.names.lookup y.1 = some .local ∨
      (scope.names.lookup y.1 = some .cell ∧ ((cellsFrom (s.heap.objs.size + 1) scope.names []).lookup y.1).isSome = true) := fun y hy =>
    (S.par y.1 (List.of_mem_zip (a := y.1) (b := y.2) hy).1).imp (fun z => z) fun z => ⟨z, PySem.W.cellsFrom_some _ _ _ (.inl z)⟩
  refine codeAny_call_function room.depth (kin _ _ lk) rfl S.co S.gen rfl (PySem.W.codeRec_of kin hcd)
    (bnd _ _ _ _ (wpAny_newFunctionEnv_cells S.kind kinds fun ev hev s1 ic => ?_))
  subst hev
  obtain ⟨t, ht, hz⟩ := hbody cdv A out s H vs Q E (room.deeper _) z
  have inv : Inv (cxOf T P w K mg base N qual scope f cdv A out s H E) [] (L2.start N vs) H s1 :=
    inv_start S room.hd env nps vals ic
  refine ⟨nolim.keeps ic.toInCall.keep, codeAny_func (wpAny_mono (ht.run [] s1 _ H _ inv hz) (fun fl s' q => ?_) fun _ _ q => q)⟩
  match fl, q with
  | .ret u, ⟨v, σ', H', J, rv, q⟩ => exact ⟨v, H', J.os, J.bare, J.base, J.hok, rv, q⟩
  | .next, ⟨σ', H', J, q⟩ => exact ⟨V.non, H', J.os, J.bare, J.base, J.hok, rfl, q⟩
  | .brk, ⟨_, _, _, q⟩ => exact q.elim
  | .cont, ⟨_, _, _, q⟩ => exact q.elim
end
section
variable {X : Cx} {T : CXT} {k : Nat} {f : Addr} {fd : FuncData} {ps : List Str} {sp : Sp} {E : L2.St → XK}
/-- the callee runs -/
theorem run_fnG {pins : List (Addr × Obj)} {σ : L2.St} {H : Hp} {s : Shared} {Q : VK} {us : List Value} {vs : List V} (F : FnOkG X.prog X.w X.K X.mg X.base T k f fd ps sp) (hr : RoomG k X.A) (hb : Binds X.K fd ps [])
    (hx : PassesAt T X σ (E σ)) (I : Inv X pins σ H s) (r : Vals vs us) (h : sp vs H Q (E σ)) : wpAny (model X.prog X.w) X.A (call (.ref f) us) (EP X pins σ Q) X.xe s := by
  have n1 := F.len _ _ _ _ h
  have n2 := r.length
  have b := hb s us I.kIn (by rw [List.append_nil]; omega)
  rw [List.append_nil] at b
  refine wpAny_call (codeAny_mono (F.run X.A X.stack s H ⟨us, []⟩ us vs Q (E σ) hr I.env0 b r h) fun out s' q => ?_)
  match out, q with
  | .error e, q => exact hx pins H s e s' I q
  | .ok (.ret u), q => exact I.after q
  | .ok .next, q => exact q.elim
  | .ok .brk, q => exact q.elim
  | .ok .cont, q => exact q.elim
theorem pe_callG {x : Str} {e : Expr} {es : List Expr} {t : TA} {p pos : Pos} (F : FnOkG X.prog X.w X.K X.mg X.base T k f fd ps sp) (hr : RoomG k X.A) (hg : Gl X x) (hm : X.mg x = some (.ref f)) (hk : PySem.W.keepIn X.K (.ref f) = true) (hb : Binds X.K fd ps [])
    (hx : ∀ σ, PassesAt T X σ (E σ)) (ha : PA X (e :: es) t) (hdb : (x == ("__debug__" : Str)) = false) (he : starEach (e :: es) X.env = (false, eval e X.env) :: starEach es X.env) (hpl : (backTo pos (starEach es X.env)).any (·.1) = false) :
    PE X (.Call (.Name x p) (e :: es) [] pos) (fun σ H Q => t σ H fun vs H1 => sp vs H1 Q (E σ)) := ⟨fun pins s σ H Q I h =>
  wpAny_Call_Name_kw (ld_glob I hg hm (PySem.W.callWith_K (h₀ := X.base) I.ok.mod.kin hk
    (thn (ha.run pos pins s σ H _ I h) fun us s1 ⟨vs, H1, I1, r, q⟩ => ⟨I1.kIn, run_fnG (E := E) F hr hb (hx σ) I1 r q⟩) he hpl) hdb)⟩
end
/-! ### the law's call -/
end Dn


set_option Elab.async false
set_option linter.all false
set_option maxRecDepth 100000
/-! DnCall: defs and calls. -/
namespace Dn
open PySem PySem.Spec PyProof.Rows L2

abbrev FD := List D → Om → Option (Rs D × Om)
/-- a def's promise by its denotation -/
def spD (K : PySem.W.Frag) (n : Nat) (F : FD) : Sp := fun vs H Q E => vs.length = n ∧ ∃ m Ω ds, CellsOk K m Ω H ∧ RlL K m Ω H ds vs ∧ Af K (Rl K) E Q m Ω H (F ds Ω)
def endF (r : Option (Fl × Gm × Om)) : Option (Rs D × Om) := match r with
  | none => none
  | some (.nx, _, Ω) => some (.ok .non, Ω)
  | some (.rt d, _, Ω) => some (.ok d, Ω)
  | some (.ex e, _, Ω) => some (.ex e, Ω)
  | _ => none
@[simp] theorem endF_none : endF none = none := rfl
@[simp] theorem endF_nx (Γ : Gm) (Ω : Om) : endF (some (.nx, Γ, Ω)) = some (.ok .non, Ω) := rfl
@[simp] theorem endF_rt (d : D) (Γ : Gm) (Ω : Om) : endF (some (.rt d, Γ, Ω)) = some (.ok d, Ω) := rfl
@[simp] theorem endF_ex (e : Xn) (Γ : Gm) (Ω : Om) : endF (some (.ex e, Γ, Ω)) = some (.ex e, Ω) := rfl
def startG (n : Nat) (ds : List D) : Gm := ds.map some ++ List.replicate (n - ds.length) none
def fnD (n : Nat) (b : DenS) : FD := fun ds Ω => endF (b (startG n ds) Ω)
theorem slots_start {K : PySem.W.Frag} {m : Mp} {Ω : Om} {H : Hp} {N : List Str} {ds : List D} {vs : List V} (r : RlL K m Ω H ds vs) : Slots K m Ω H (startG N.length ds) (L2.start N vs) := by
  have hl := r.length
  refine ⟨by unfold startG L2.start; simp [hl], fun i d h => ?_⟩
  unfold startG at h
  by_cases hi : i < ds.length
  · rw [List.getElem?_append_left (by simpa using hi), List.getElem?_map] at h
    cases e : ds[i]? with
    | none => rw [e] at h; cases h
    | some x =>
      rw [e] at h
      cases h
      obtain ⟨v, h1, h2⟩ := r.get e
      refine ⟨v, ?_, h2⟩
      unfold L2.start
      rw [List.getElem?_append_left (by simp; omega), List.getElem?_map, h1]
      rfl
  · rw [List.getElem?_append_right (by simpa using hi), List.getElem?_replicate] at h
    split at h <;> cases h
section
variable {P : Program} {w : World} {K : PySem.W.Frag} {mg : Str → Option Value} {base : Heap} {x qual : Str} {params : Arguments} {body : List Stmt} {scope : Scope} {f : Addr} {fd : FuncData}
/-- a def by its body's denotation -/
theorem fn_def {N ps : List Str} {k : Nat} {b : DenS} {dvs : List V} {kws : List (Str × V)} (F : FunD K x qual params body scope dvs kws f fd) (S : FnScope N ps scope)
    (hb : ∀ (cdv : Value) (A : Around) (outer : List Env) (s : Shared) (H : Hp) (E : XK), RoomG k (A.deeper (envOfC qual scope s.heap.objs.size f cdv)) → DSs (cxOf (L2N.CX P w) P w K mg base N qual scope f cdv A outer s H E) (fun _ => E) body b) :
    FnOkG P w K mg base (L2N.CX P w) (k + 1) f fd ps (spD K ps.length (fnD N.length b)) := by
  refine fn_ofG F S (fun vs H Q E h => h.1) (fun cdv A outer s H vs Q E hr h => ⟨_, hb cdv A outer s H E hr, ?_⟩)
  obtain ⟨hl, m, Ω, ds, c, r, q⟩ := h
  refine ⟨m, startG N.length ds, Ω, ⟨c, slots_start r⟩, ?_⟩
  unfold fnD at q
  show AfS K (fun _ => E) _ m Ω H (b (startG N.length ds) Ω)
  cases e : b (startG N.length ds) Ω with
  | none => rw [e] at q; exact q
  | some z =>
    obtain ⟨fl, Γ', Ω'⟩ := z
    rw [e] at q
    cases fl with
    | nx => exact fun m' σ' H' g sl => q m' .non H' g (by unfold Rl; rfl)
    | rt d => exact q
    | ex e => exact fun m' σ' H' cls dd g sl r => q m' H' cls dd g r
    | bk => exact q.elim
    | ct => exact q.elim
end
/-! ### the local cells are left behind -/
def frz (k : Nat) (Ω : Om) (d : D) : D := match d with
  | .ref n => if n < k then .ref n else match Ω[n]? with
    | some (.lst xs) => .lst xs
    | some (.dct kvs) => .dct kvs
    | some (.dcT kvs) => .dcT kvs
    | some (.dcN w kvs) => .dcN w kvs
    | some (.ins c fs) => .obj c fs
    | _ => .ref n
  | d => d
def clean (F : FD) : FD := fun ds Ω => match F ds Ω with
  | none => none
  | some (Rs.ok d, Ω') => if below Ω.length (frz Ω.length Ω' d) = true ∧ cellsBelow Ω.length Ω' = true then some (.ok (frz Ω.length Ω' d), Ω'.take Ω.length) else none
  | some (.ex e, Ω') => if belowF Ω.length e.fs = true ∧ cellsBelow Ω.length Ω' = true then some (.ex e, Ω'.take Ω.length) else none
section
variable {K : PySem.W.Frag} {m : Mp} {Ω : Om} {H : Hp} {E : XK} {Q : VK}
theorem frz_ok {k : Nat} (c : CellsOk K m Ω H) {d : D} {v : V} (r : Rl K m Ω H d v) (hb : below k (frz k Ω d) = true) : Rl K (Mp.take k m) (Ω.take k) H (frz k Ω d) v := by
  cases d with
  | ref n =>
    unfold frz at hb ⊢
    dsimp only at hb ⊢
    by_cases hn : n < k
    · rw [if_pos hn] at hb ⊢
      exact Rl.take _ v hb r
    · rw [if_neg hn] at hb ⊢
      unfold Rl at r
      obtain ⟨a, ev, ha⟩ := r
      have hl : ¬ Live (Mp.take k m) (Ω.take k) a := fun l => by
        rcases l with ⟨i, x, h1, _⟩ | l
        · have h1 : (m.l.take k)[i]? = some a := h1
          rw [List.getElem?_take] at h1
          by_cases hi : i < k
          · rw [if_pos hi] at h1
            exact hn (c.nodup_ix h1 ha ▸ hi)
          · rw [if_neg hi] at h1
            cases h1
        · exact (c.hl a l).2 (List.mem_of_getElem? ha)
      cases e : Ω[n]? with
      | none =>
        rw [e] at hb
        have z : below k (.ref n) = true := hb
        unfold below at z
        exact (hn (of_decide_eq_true z)).elim
      | some x =>
        rw [e] at hb
        have ck := c.at_ n x a e ha
        cases x with
        | lst xs =>
          obtain ⟨vs, h1, h2⟩ := ck
          have z : below k (.lst xs) = true := hb
          unfold below at z
          show Rl K (Mp.take k m) (Ω.take k) H (.lst xs) v
          unfold Rl
          exact ⟨a, vs, ev, h1, hl, RlL.take xs vs z h2⟩
        | dct xs =>
          obtain ⟨vs, h1, h2⟩ := ck
          have z : below k (.dct xs) = true := hb
          unfold below at z
          show Rl K (Mp.take k m) (Ω.take k) H (.dct xs) v
          unfold Rl
          exact ⟨a, vs, ev, .inl h1, hl, RlK.take xs vs z h2⟩
        | dcT xs =>
          obtain ⟨vs, h1, h2⟩ := ck
          have z : below k (.dcT xs) = true := hb
          unfold below at z
          show Rl K (Mp.take k m) (Ω.take k) H (.dcT xs) v
          unfold Rl
          exact ⟨a, vs, ev, .inl h1, hl, RlT.take xs vs z h2⟩
        | dcN ww xs =>
          obtain ⟨vs, h1, hk, h2⟩ := ck
          have z : below k (.dcN ww xs) = true := hb
          unfold below at z
          show Rl K (Mp.take k m) (Ω.take k) H (.dcN ww xs) v
          unfold Rl
          exact ⟨a, vs, ev, h1, hk, hl, RlN.take xs vs z h2⟩
        | ins cc xs =>
          obtain ⟨dx, vs, h1, h2⟩ := ck
          have z : below k (.obj cc xs) = true := hb
          unfold below at z
          show Rl K (Mp.take k m) (Ω.take k) H (.obj cc xs) v
          unfold Rl
          exact ⟨a, dx, vs, ev, h1, hl, RlF.take xs vs z h2⟩
        | dead =>
          have z : below k (.ref n) = true := hb
          unfold below at z
          exact (hn (of_decide_eq_true z)).elim
  | _ => exact Rl.take _ v hb r
theorem XRel.take {k : Nat} {e : Xn} {cls : Value} {dd : Option Addr} (r : XRel K m Ω H e cls dd) (hb : belowF k e.fs = true) : XRel K (Mp.take k m) (Ω.take k) H e cls dd := by
  obtain ⟨h1, h2⟩ := r
  refine ⟨h1, h2.imp (fun z => z) fun ⟨d, gs, z1, z2, z3⟩ => ⟨d, gs, z1, z2, RlF.take _ _ hb z3⟩⟩
theorem clean_ok {F : FD} {ds : List D} (c : CellsOk K m Ω H) (h : Af K (Rl K) E Q m Ω H (clean F ds Ω)) : Af K (Rl K) E Q m Ω H (F ds Ω) := by
  unfold clean at h
  cases e : F ds Ω with
  | none => rw [e] at h; exact h
  | some z =>
    obtain ⟨r, Ω'⟩ := z
    rw [e] at h
    cases r with
    | ok d =>
      obtain ⟨⟨b1, b2⟩, h⟩ := Af.guard h
      intro m' v H' g r
      exact h (Mp.take Ω.length m') v H' (Go.take g (by rw [c.len]; exact Nat.le_refl _) b2) (frz_ok g.ok r b1)
    | ex e =>
      obtain ⟨⟨b1, b2⟩, h⟩ := Af.guard h
      intro m' H' cls dd g r
      exact h (Mp.take Ω.length m') H' cls dd (Go.take g (by rw [c.len]; exact Nat.le_refl _) b2) (r.take b1)
theorem spD_clean {n : Nat} {F : FD} {vs : List V} (h : spD K n (clean F) vs H Q E) : spD K n F vs H Q E := by
  obtain ⟨hl, m, Ω, ds, c, r, q⟩ := h
  exact ⟨hl, m, Ω, ds, c, r, clean_ok c q⟩
end
theorem FnOkG.clean {P : Program} {w : World} {K : PySem.W.Frag} {mg : Str → Option Value} {base : Heap} {CX : CXT} {k n : Nat} {f : Addr} {fd : FuncData} {ps : List Str} {F : FD} (G : FnOkG P w K mg base CX k f fd ps (spD K n F)) : FnOkG P w K mg base CX k f fd ps (spD K n (Dn.clean F)) := G.imp fun _ _ _ _ h => spD_clean h

/-! ### calls -/
/-- the module's name x is a def with this denotation -/
structure FnG (P : Program) (w : World) (K : PySem.W.Frag) (mg : Str → Option Value) (base : Heap) (x : Str) (ps : List Str) (k : Nat) (F : FD) : Prop where
  ex : ∃ f fd, mg x = some (.ref f) ∧ FnOkG P w K mg base (L2N.CX P w) k f fd ps (spD K ps.length F) ∧ PySem.W.keepIn K (.ref f) = true ∧ Binds K fd ps []
def fCall (n : Nat) (F : FD) (r : Den (List D)) : Den D := bnd r fun ds _ Ω => if ds.length = n then F ds Ω else none
section
variable {X : Cx} {E : L2.St → XK} {x : Str} {ps : List Str} {k : Nat} {F : FD} {e : Expr} {es : List Expr} {r : Den (List D)} {p pos : Pos}
theorem sp_of {n : Nat} {σ : L2.St} {H : Hp} {Q : VK} {m : Mp} {Ω : Om} {ds : List D} {vs : List V} (c : CellsOk X.K m Ω H) (rr : RlL X.K m Ω H ds vs) (q : Af X.K (Rl X.K) (E σ) Q m Ω H (if ds.length = n then F ds Ω else none)) : spD X.K n F vs H Q (E σ) := by
  obtain ⟨hl, q⟩ := Af.guard q
  exact ⟨by rw [← rr.length]; exact hl, m, Ω, ds, c, rr, q⟩
theorem de_call (G : FnG X.prog X.w X.K X.mg X.base x ps k F) (hr : RoomG k X.A) (hx : ∀ σ, PassesAt (L2N.CX X.prog X.w) X σ (E σ)) (ha : DA X E (e :: es) r) (hg : Gl X x := by rfl)
    (hdb : (x == ("__debug__" : Str)) = false := by decide) (he : starEach (e :: es) X.env = (false, eval e X.env) :: starEach es X.env := by rfl) (hpl : (backTo pos (starEach es X.env)).any (·.1) = false := by rfl) :
    DE X E (.Call (.Name x p) (e :: es) [] pos) (fCall ps.length F r) := by
  obtain ⟨f, fd, hm, ok, kp, bi⟩ := G.ex
  refine PE.mono (pe_callG (E := E) ok hr hg hm kp bi hx ha hdb he hpl) fun σ H Q h => ?_
  obtain ⟨m, Γ, Ω, s, h⟩ := h
  refine ⟨m, Γ, Ω, s, (Af.bind (R := RlL X.K) h).imp fun _ _ _ _ _ _ _ _ ⟨m1, Ω1, ds, g1, r1, q⟩ => ?_⟩
  exact sp_of g1.ok r1 q
end
/-- nothing is let out of a comprehension's block -/
abbrev E0S : L2.St → XK := fun _ _ _ _ => False
theorem pass00 {X : Cx} (σ : L2.St) : PassesAt (L2N.CX X.prog X.w) X σ (E0S σ) := fun _ _ _ _ _ _ h => by
  obtain ⟨_, _, _, _, _, _, _, _, _, _, _, _, z⟩ := h
  exact z.elim
end Dn


set_option Elab.async false
set_option linter.all false
set_option maxRecDepth 100000
/-! DnEq: == of data. -/
namespace Dn
open PySem L2

section
variable (g : Nat → Option PyData)
mutual
def toPg : D → Option PyData
  | .non => some .none
  | .bl b => some (.bool b)
  | .int i => some (.int i)
  | .str x => some (.str x)
  | .tup xs => (toPLg xs).map .tuple
  | .tpk xs => (toPLg xs).map .tuple
  | .lst xs => (toPLg xs).map .list
  | .ref n => g n
  | .dct _ => none
  | .dcT _ => none
  | .dcN _ _ => none
  | .obj _ _ => none
  | .scr _ => none
  | .cl _ => none
  | .clo _ _ _ => none
def toPLg : List D → Option (List PyData)
  | [] => some []
  | d :: ds => match toPg d with
    | none => none
    | some p => match toPLg ds with
      | none => none
      | some ps => some (p :: ps)
end
end
def toP (Ω : Om) : Nat → D → Option PyData
  | 0 => toPg fun _ => none
  | k + 1 => toPg fun n => match Ω[n]? with
    | some (.lst xs) => (toPLg (fun n => toP Ω k (.ref n)) xs).map .list
    | _ => none
section
variable {K : PySem.W.Frag} {m : Mp} {Ω : Om} {H : Hp} {g : Nat → Option PyData}
mutual
theorem toPg_ok (c : CellsOk K m Ω H) (hg : ∀ n p v, Rl K m Ω H (.ref n) v → g n = some p → Dp K H v p) : ∀ (d : D) (v : V) (p : PyData), Rl K m Ω H d v → toPg g d = some p → Dp K H v p
  | .non, v, p, r, e => by unfold Rl at r; unfold toPg at e; cases e; subst r; exact .non
  | .bl b, v, p, r, e => by unfold Rl at r; unfold toPg at e; cases e; subst r; exact .bl b
  | .int b, v, p, r, e => by unfold Rl at r; unfold toPg at e; cases e; subst r; exact .int b
  | .str b, v, p, r, e => by unfold Rl at r; unfold toPg at e; cases e; subst r; exact .str b
  | .tpk xs, v, p, r, e => by
    unfold Rl at r
    unfold toPg at e
    obtain ⟨a, vs, ev, h1, h2⟩ := r
    cases q : toPLg g xs with
    | none => rw [q] at e; cases e
    | some ps =>
      rw [q] at e
      cases e
      subst ev
      exact .tup h1.sq (toPLg_ok c hg xs vs ps h2 q)
  | .tup xs, v, p, r, e => by
    unfold Rl at r
    unfold toPg at e
    obtain ⟨a, vs, ev, h1, h2⟩ := r
    cases q : toPLg g xs with
    | none => rw [q] at e; cases e
    | some ps =>
      rw [q] at e
      cases e
      subst ev
      exact .tup h1.sq (toPLg_ok c hg xs vs ps h2 q)
  | .lst xs, v, p, r, e => by
    unfold Rl at r
    unfold toPg at e
    obtain ⟨a, vs, ev, h1, _, h2⟩ := r
    cases q : toPLg g xs with
    | none => rw [q] at e; cases e
    | some ps =>
      rw [q] at e
      cases e
      subst ev
      exact .lst (SqL.of h1) (toPLg_ok c hg xs vs ps h2 q)
  | .ref n, v, p, r, e => by unfold toPg at e; exact hg n p v r e
  | .dct _, v, p, r, e => by unfold toPg at e; cases e
  | .dcT _, v, p, r, e => by unfold toPg at e; cases e
  | .dcN _ _, v, p, r, e => by unfold toPg at e; cases e
  | .obj _ _, v, p, r, e => by unfold toPg at e; cases e
  | .scr _, v, p, r, e => by unfold toPg at e; cases e
  | .cl _, v, p, r, e => by unfold toPg at e; cases e
  | .clo _ _ _, v, p, r, e => by unfold toPg at e; cases e
theorem toPLg_ok (c : CellsOk K m Ω H) (hg : ∀ n p v, Rl K m Ω H (.ref n) v → g n = some p → Dp K H v p) : ∀ (ds : List D) (vs : List V) (ps : List PyData), RlL K m Ω H ds vs → toPLg g ds = some ps → DpAll K H vs ps
  | [], vs, ps, r, e => by unfold RlL at r; unfold toPLg at e; cases e; subst r; exact .nil
  | d :: ds, vs, ps, r, e => by
    unfold RlL at r
    unfold toPLg at e
    obtain ⟨v, w, ev, h1, h2⟩ := r
    subst ev
    cases q : toPg g d with
    | none => rw [q] at e; cases e
    | some p =>
      rw [q] at e
      dsimp only at e
      cases q2 : toPLg g ds with
      | none => rw [q2] at e; cases e
      | some qs =>
        rw [q2] at e
        cases e
        exact .cons (toPg_ok c hg d v p h1 q) (toPLg_ok c hg ds w qs h2 q2)
end
theorem toP_ok (c : CellsOk K m Ω H) : ∀ (k : Nat) (d : D) (v : V) (p : PyData), Rl K m Ω H d v → toP Ω k d = some p → Dp K H v p
  | 0, d, v, p, r, e => toPg_ok c (fun n p v _ e => by cases e) d v p r e
  | k + 1, d, v, p, r, e => by
    refine toPg_ok c (fun n p v r e => ?_) d v p r e
    cases q : Ω[n]? with
    | none => rw [q] at e; cases e
    | some x =>
      rw [q] at e
      cases x with
      | lst xs =>
        dsimp only at e
        cases q2 : toPLg (fun n => toP Ω k (.ref n)) xs with
        | none => rw [q2] at e; cases e
        | some ps =>
          rw [q2] at e
          cases e
          unfold Rl at r
          obtain ⟨a, ev, ha⟩ := r
          obtain ⟨vs, h1, h2⟩ := c.at_ n _ a q ha
          subst ev
          exact .lst (SqL.of h1) (toPLg_ok c (fun n p v r e => toP_ok c k (.ref n) v p r e) xs vs ps h2 q2)
      | _ => cases e
def eqG (b : Bool → D) : Op2 := fun x y Ω => match x, y with
  | .int i, .int j => some (.ok (b (decide (i = j))), Ω)
  | x, y => match toP Ω 3 x with
    | some p => match toP Ω 3 y with
      | some q => if SeqAt.shaped p = true ∧ SeqAt.shaped q = true then some (.ok (b (PyData.eqv p q)), Ω) else none
      | none => none
    | none => none
def dEq : Op2 := eqG fun b => .bl b
def dNe : Op2 := eqG fun b => .bl (!b)
theorem eqG_ok {b : Bool → D} {E : XK} {x y : D} {v u : V} {Q : VK} (c : CellsOk K m Ω H) (rx : Rl K m Ω H x v) (ry : Rl K m Ω H y u) (q : Af K (Rl K) E Q m Ω H (eqG b x y Ω)) :
    ∃ d e, Dp K H v d ∧ Dp K H u e ∧ SeqAt.shaped d = true ∧ SeqAt.shaped e = true ∧ Af K (Rl K) E Q m Ω H (some (.ok (b (PyData.eqv d e)), Ω)) := by
  have gen : ∀ x' y', x' = x → y' = y → Af K (Rl K) E Q m Ω H (match toP Ω 3 x' with
    | some p => match toP Ω 3 y' with
      | some q => if SeqAt.shaped p = true ∧ SeqAt.shaped q = true then some (.ok (b (PyData.eqv p q)), Ω) else none
      | none => none
    | none => none) → ∃ d e, Dp K H v d ∧ Dp K H u e ∧ SeqAt.shaped d = true ∧ SeqAt.shaped e = true ∧ Af K (Rl K) E Q m Ω H (some (.ok (b (PyData.eqv d e)), Ω)) := fun x' y' e1 e2 qq => by
    clear q
    subst e1 e2
    cases h1 : toP Ω 3 x' with
    | none => rw [h1] at qq; exact qq.elim
    | some p =>
      rw [h1] at qq
      dsimp only at qq
      cases h2 : toP Ω 3 y' with
      | none => rw [h2] at qq; exact qq.elim
      | some z =>
        rw [h2] at qq
        obtain ⟨⟨s1, s2⟩, qq⟩ := Af.guard qq
        exact ⟨p, z, toP_ok c 3 _ _ _ rx h1, toP_ok c 3 _ _ _ ry h2, s1, s2, qq⟩
  cases x with
  | int i =>
    cases y with
    | int j =>
      unfold Rl at rx ry
      subst rx ry
      exact ⟨_, _, .int i, .int j, rfl, rfl, by
        have e : PyData.eqv (.int i) (.int j) = decide (i = j) := by
          simp only [PyData.eqv]
          by_cases h : i = j
          · simp [h]
          · simp [h]
        rw [e]
        exact q⟩
    | _ => exact gen _ _ rfl rfl q
  | _ => cases y <;> exact gen _ _ rfl rfl q
theorem od_eq : OpD K dEq (rEqD K) := by
  intro E m Ω H x y v u Q c rx ry q
  obtain ⟨d, e, h1, h2, s1, s2, q⟩ := eqG_ok c rx ry q
  exact ⟨d, e, h1, h2, s1, s2, q.now c rl_bl⟩
theorem od_ne : OpD K dNe (rNeD K) := by
  intro E m Ω H x y v u Q c rx ry q
  obtain ⟨d, e, h1, h2, s1, s2, q⟩ := eqG_ok c rx ry q
  exact ⟨d, e, h1, h2, s1, s2, q.now c rl_bl⟩
end
section
variable {X : Cx} {E : St → XK} {a b e : Expr} {f g : Den D} {pos : Pos} {k : Nat}
theorem de_eq (hr : RoomG k X.A) (ha : DE X E a f) (hb : DE X E b g) : DE X E (.Compare a [.Eq] [b] pos) (fBin dEq f g) := de_cmp (op_eqD hr.units) od_eq ha hb (nomark _)
theorem dt_ne (hr : RoomG k X.A) (ha : DE X E a f) (hb : DE X E b g) : DT X E (.Compare a [.NotEq] [b] pos) (fT (fBin dNe f g)) := dt_cmp (op_neD hr.units) od_ne ha hb (nomark _)
/-- a < b < c -/
def fChain (o o' : Op2) (f g h : Den D) : Den D := bnd f fun x => bnd g fun y => bnd (fT fun _ Ω => o x y Ω) fun b => if b = true then bnd h fun z _ Ω => o' y z Ω else fC (.bl false)
theorem chain_of {o o' : Op2} {r r' : R2} {f g h : Den D} (od : OpD X.K o r) (od' : OpD X.K o' r') {σ : St} {H : Hp} {Q : VK} (hh : tD X.K E (fChain o o' f g h) σ H Q) : tChain r r' (tD X.K E f) (tD X.K E g) (tD X.K E h) σ H Q := by
  obtain ⟨m, Γ, Ω, s, hh⟩ := hh
  refine ⟨m, Γ, Ω, s, (Af.bind (R := Rl X.K) hh).imp fun _ _ _ _ _ _ _ _ ⟨m1, Ω1, x, g1, r1, q⟩ => ⟨m1, Γ, Ω1, s.go g1, (Af.bind (R := Rl X.K) q).imp fun _ _ _ _ _ _ _ _ ⟨m2, Ω2, y, g2, r2, q2⟩ => ?_⟩⟩
  refine od (E σ) m2 Ω2 _ x y _ _ _ g2.ok (Rl.go g2.toGw g1.ok x _ r1) r2 ?_
  have q3 := Af.bind (R := fun _ _ _ a b => a = b) (β := Bool) q2
  have q4 := Af.bind (R := Rl X.K) q3
  refine q4.imp fun _ _ H3 _ v3 _ _ _ ⟨m3, Ω3, d3, g3, r3, q5⟩ => ?_
  cases d3 with
  | bl b =>
    unfold Rl at r3
    refine ⟨b, r3, ?_⟩
    obtain ⟨m4, Ω4, b4, g4, e4, q6⟩ := q5 m3 b H3 (Go.refl g3.ok) rfl
    subst e4
    cases b4 with
    | false => exact q6.now g4.ok rl_bl
    | true =>
      show tD X.K E h σ H3 _
      refine ⟨m4, Γ, Ω4, ((s.go g1).go g2).go g4, (Af.bind (R := Rl X.K) q6).imp fun _ _ _ _ _ _ _ _ ⟨m5, Ω5, z, g5, r5, q7⟩ => ?_⟩
      exact od' (E σ) m5 Ω5 _ y z _ _ _ g5.ok (Rl.go (g4.trans g5).toGw g2.ok y _ r2) r5 q7
  | _ => exact q5.elim
theorem dt_chain {c : Expr} {op op' : CmpOp} {o o' : Op2} {r r' : R2} {h : Den D} (hr : OpR X (compareOp op) r) (hr' : OpR X (compareOp op') r') (od : OpD X.K o r) (od' : OpD X.K o' r') (ha : DE X E a f) (hb : DE X E b g) (hc : DE X E c h)
    (hl : lastMarks [op, op'] [b, c] = false := by rfl) : DT X E (.Compare a [op, op'] [b, c] pos) (fT (fChain o o' f g h)) := PT.mono (pt_chain hr hr' ha hb hc hl) fun _ _ _ hh => by
  have h2 := tT_of hh
  exact chain_of od od' h2
theorem dt_leLt {c : Expr} {h : Den D} (ha : DE X E a f) (hb : DE X E b g) (hc : DE X E c h) (hl : lastMarks [CmpOp.LtE, CmpOp.Lt] [b, c] = false := by rfl) : DT X E (.Compare a [.LtE, .Lt] [b, c] pos) (fT (fChain dLe dLt f g h)) := dt_chain op_le op_lt od_le od_lt ha hb hc hl
end
end Dn


set_option Elab.async false
set_option linter.all false
set_option maxRecDepth 100000
set_option maxHeartbeats 1000000
/-! DnEnumT: enumerate(tuple). -/
namespace Dn
open PySem PySem.Spec PyProof.Rows L2
/-- the tuple at a, each item in a new pair -/
def IteT (K : PySem.W.Frag) (a : Addr) : It :=
  ⟨fun i H => ∃ (xs : List V) (x : V), SqT K H a xs ∧ xs[i]? = some x, fun i H v H' => ∃ T x, v = .ref T ∧ H T = none ∧ H' = upd H T (.tup [.int (i : Nat), x]) ∧ ∀ xs, SqT K H a xs → xs[i]? = some x, fun i H => ∃ xs : List V, SqT K H a xs ∧ xs.length ≤ i⟩
theorem turn_enumT {P : Program} {w : World} {K : PySem.W.Frag} {elts : List Expr} {kk : Nat} {tpos : Pos} (a e it : Addr) :
    Turn P w K (.Tuple elts kk tpos) (IteT K a) [e, it] e (fun i h => (∃ old, IsEnum h e it ((i : Nat) : Int) old) ∧ h.IsTupleIter it a i ∧ e ≠ it) where
  mem := by simp
  obj := fun i h st b hb => by
    obtain ⟨⟨old, he⟩, ⟨o, ho, hc, hd⟩, _⟩ := st
    have e' : b = e ∨ b = it := by simpa using hb
    rcases e' with z | z
    · rw [z]; exact ⟨_, he, fun v q => nomatch q⟩
    · rw [z]; exact ⟨o, ho, fun v q => by rw [hd] at q; cases q⟩
  keep := fun i h h' st k => let ⟨⟨old, he⟩, hi, hne⟩ := st; ⟨⟨old, k e (by simp) _ he⟩, hi.at fun o q => k it (by simp) o q, hne⟩
  item := by
    intro X hP hw hK hc i pins s σ H E I hf st hg
    subst hP hw hK
    obtain ⟨⟨old, he⟩, hit, hne⟩ := st
    obtain ⟨xs, x, hq, hx⟩ := hg
    obtain ⟨its, rv, p, hz⟩ := I.tuple hq
    obtain ⟨u, hu, ru⟩ := rv.get hx
    have hel : e < s.heap.objs.size := Heap.lt_size he
    have hil : it < s.heap.objs.size := by obtain ⟨_, q, _⟩ := hit; exact Heap.lt_size q
    obtain ⟨oa, ha, hca, na, hda⟩ := p
    have hai : a ≠ it := fun z => by
      obtain ⟨o, ho, hco, _⟩ := hit
      rw [← z, ha] at ho
      cases ho
      rw [hca] at hco
      exact absurd (Value.type.inj hco) (by decide)
    have hae : e ≠ a := fun z => by
      have he2 := he
      unfold IsEnum at he2
      rw [z, ha] at he2
      cases he2
      exact absurd (Value.type.inj hca) (by decide)
    have hlt : i < its.toArray.size := by
      have := (List.getElem?_eq_some_iff.mp hu).1
      simpa using this
    refine wpAny_pyNext_enum_itemD (Draws.tuple (prog := X.prog) (w := X.w) (A := X.A.in1) (I.ok.hd hc) it a hai its.toArray) he ⟨hit, ⟨oa, ha, hca, na, hda⟩⟩ hlt hne (by simp [hne, hae]) fun x' h' tk hP' ho hst' hT hsz hk => ?_
    have ex : x' = u := by
      have h1 : its.toArray[i]? = some u := by simpa using hu
      rw [h1] at hP'
      exact (Option.some.inj hP').symm
    subst ex
    have hit' := hst'.1
    refine ⟨_, rfl, wpAny_letOwnedTupleGo_enum (s := { s with heap := h', toks := tk + 1 }) ho fun h'' he' sb => ?_⟩
    have hT2 : h''.get? s.heap.objs.size = some { cls := .type "tuple", data := .seq #[.int i tk, x'] } := (sb.2 _ (Nat.ne_of_gt hel)).trans hT
    have new : ObjOk X.prog X.w (upd H s.heap.objs.size (.tup [.int (i : Nat), x])) h'' s.heap.objs.size (.tup [.int (i : Nat), x]) :=
      ⟨by show 2 ≤ sizeLine; decide, [.int i tk, x'], .cons ⟨_, rfl⟩ (.cons ru .nil), ⟨_, hT2, rfl, _, rfl⟩⟩
    have I1 : Inv X pins σ (upd H s.heap.objs.size (.tup [.int (i : Nat), x])) { s with heap := h'', toks := tk + 1 } :=
      I.turnedNew (ch := [e, it]) (fun b ob hb q => (sb.2 b (fun z => hb (by simp [z]))).trans (hk b ob (fun z => hb (by simp [z])) (fun z => hb (by simp [z])) q)) hf (Nat.le_refl _) new
    refine ⟨.ref s.heap.objs.size, _, I1, rfl, ⟨_, x, rfl, I.hok.fresh (Nat.le_refl _), rfl, fun ys hy => by rw [I.tuple_inj hy hq]; exact hx⟩, ⟨⟨x', ?_⟩, hit'.at fun o q => (sb.2 it (Ne.symm hne)).trans q, hne⟩, fun b hb => ?_⟩
    · have e1 : ((i + 1 : Nat) : Int) = (i : Int) + 1 := by omega
      rw [e1]; exact he'
    · have hb' : b < s.heap.objs.size := by
        have e' : b = e ∨ b = it := by simpa using hb
        rcases e' with z | z
        · rw [z]; exact hel
        · rw [z]; exact hil
      rw [upd_ne (Nat.ne_of_lt hb')]
      exact (hf b hb).1
  done := by
    intro X hP hw hK hc i pins s σ H E I hf st hg
    subst hP hw hK
    obtain ⟨⟨old, he⟩, hit, hne⟩ := st
    obtain ⟨xs, hq, hx⟩ := hg
    obtain ⟨its, rv, p, hz⟩ := I.tuple hq
    obtain ⟨f0, f1, f2, f3, f4, f5⟩ := hf it (by simp)
    have hl := rv.length
    obtain ⟨oa, ha, hca, na, hda⟩ := p
    have hT : s.TypeIs (.ref e) "enumerate" := ⟨_, he, rfl⟩
    unfold pyNext
    refine wpAny_bind (wpAny_attempt (wpAny_callSpecial?_slot (name := Str.ofString "__next__") hT F.slot_enumerate_next
      (wpAny_call_entry F.slot_enumerate_next hT F.entry_enumerate_next ?_ (F.args_enumerate_next_1 _))))
    show wpAny _ _ (PySem.field (.ref e) 2 >>= _) _ _ _
    refine wpAny_bind (wpAny_field he rfl (x := .ref it) rfl ?_)
    refine wpAny_bind (wpAny_nextOf_tuple_end (I.ok.hd hc) hit ⟨oa, ha, hca, na, hda⟩ (by simp; omega) fun h' x he' hx' => ?_)
    obtain ⟨o, ho, hco⟩ := hx'
    refine wpAny_bind (wpAny_isInstance (T := "StopIteration") (b := true) ⟨o, ho, hco⟩ isSubtype_stop ?_)
    exact wpAny_pure ⟨rfl, I.turned (t' := s.toks) (fun b o hb q => he' b o hb q) f0 f1 f3 f4 f5⟩
  self := fun A i s Q E st h => let ⟨⟨_, he⟩, _⟩ := st; wpAny_pyIter_enum he h
theorem meets_enumerate_newT {v : Value} {o : Obj} {H : Heap → Prop} (B : Begins v o H) :
    Meets (Builtin.«enumerate.__new__» ⟨[.type "enumerate", v], []⟩) (fun _ R s => H s.heap ∧
      R (.ok (.ret (.ref (s.heap.push o).objs.size))) { s with heap := (s.heap.push o).push { cls := .type "enumerate", data := .fields #[.none, .bool false, .ref s.heap.objs.size, rawInt 0, .none, .none] } }) :=
  .of_wp fun prog w A R s h => by
    obtain ⟨hp, g, d, tk, os⟩ := s; obtain ⟨h1, h⟩ := h
    have hsub := sub_enumerate
    have q1 : ∀ {A' : Around} {E : Value → Shared → Prop} {Q : Value → Shared → Prop}, Q (.ref hp.objs.size) ⟨hp.push o, g, d, tk, os⟩ → wpAny (model prog w) A' (pyIter v) Q E ⟨hp, g, d, tk, os⟩ :=
      fun q => B.iter prog w _ _ ⟨hp, g, d, tk, os⟩ _ h1 q
    wp_walk using q1
    refine wpAny_stack_any fun st => wpAny_pure ?_
    split
    · rename_i c _ _ _ _ _
      cases (c == Value.type "enumerate")
      · wp_walk using q1
        exact ⟨_, rfl, h⟩
      · wp_walk using q1
        exact ⟨_, rfl, h⟩
    · wp_walk using q1
      exact ⟨_, rfl, h⟩
theorem enum_beginsT {prog : Program} {w : World} {A : Around} {E : Value → Shared → Prop} {s : Shared} {v : Value} {o : Obj} {H : Heap → Prop} {Q : Value → Shared → Prop} (B : Begins v o H) (h1 : H s.heap)
    (h : ∀ h', IsEnum h' (s.heap.objs.size + 1) s.heap.objs.size 0 .none → h'.get? s.heap.objs.size = some o → h'.objs.size = s.heap.objs.size + 2 →
      (∀ b o, s.heap.get? b = some o → h'.get? b = some o) → Q (.ref (s.heap.objs.size + 1)) { s with heap := h' }) :
    wpAny (model prog w) A (call (.type "enumerate") [v]) Q E s := by
  refine callType_new F.called_enumerate (by decide) (F.typeCall_enumerate_1 _) (F.newCall_enumerate_1 _) (fun obj => F.args_object_init_2 obj _) F.entry_enumerate_new
    (meets_enumerate_newT B) ⟨h1, ?_⟩
  have hz : (s.heap.push o).objs.size = s.heap.objs.size + 1 := Heap.size_push ..
  show _ ∧ _
  rw [hz]
  have he : IsEnum ((s.heap.push o).push { cls := .type "enumerate", data := .fields #[.none, .bool false, .ref s.heap.objs.size, rawInt 0, .none, .none] }) (s.heap.objs.size + 1) s.heap.objs.size 0 .none := by
    have := Heap.get?_push_size (s.heap.push o) (o := { cls := .type "enumerate", data := .fields #[.none, .bool false, .ref s.heap.objs.size, rawInt 0, .none, .none] }) rfl
    rw [hz] at this; exact this
  refine ⟨⟨_, he, rfl⟩, h _ he (Heap.get?_push_of_some _ (Heap.get?_push_size _ B.free)) (by rw [Heap.size_push, hz]) fun b o x => Heap.get?_push_of_some _ (Heap.get?_push_of_some _ x)⟩
def iEnumT (K : PySem.W.Frag) (ta : TA) : TI := fun σ H R => ta σ H fun vs H1 => ∃ a xs, vs = [.ref a] ∧ SqT K H1 a xs ∧ R (IteT K a) H1
theorem pi_enumT {X : Cx} {e : Expr} {ta : TA} {p pos tpos : Pos} {elts : List Expr} {kk : Nat} (hg : Gl X "enumerate") (hm : X.mg "enumerate" = none) (ha : PA X [e] ta) (hs : starEach [e] X.env = [(false, eval e X.env)] := by rfl) :
    PI X (.Tuple elts kk tpos) (.Call (.Name "enumerate" p) [e] [] pos) (iEnumT X.K ta) := by
  refine ⟨fun pins s σ H R I h => ?_⟩
  refine Call_ (ld_blt I hg hm boot_enumerate (PyProof.Rows.callWith_type1 (thn (ha.run pos pins s σ H _ I h) fun us s1 ⟨vs, H1, I1, r1, q1⟩ => ?_) hs rfl))
  obtain ⟨a, xs, ex, hq, q⟩ := q1
  subst ex
  cases r1 with
  | cons r rr =>
    cases rr
    cases r
    obtain ⟨its, rv, p', hz⟩ := I1.tuple hq
    refine enum_beginsT (begins_tuple a its.toArray) p' fun h' he hit hsz hk => wpAny_pyIter_enum he ?_
    have I2 : Inv X pins σ H1 { s1 with heap := h' } := I1.kept (t' := s1.toks) hk
    refine ⟨s1.heap.objs.size + 1, [s1.heap.objs.size + 1, s1.heap.objs.size], _, _, H1, rfl, I2, turn_enumT a (s1.heap.objs.size + 1) s1.heap.objs.size, ⟨⟨.none, he⟩, ⟨_, hit, rfl, rfl⟩, Nat.succ_ne_self _⟩, fun b hb => ?_, q⟩
    have e' : b = s1.heap.objs.size + 1 ∨ b = s1.heap.objs.size := by simpa using hb
    have hle : s1.heap.objs.size ≤ b := by
      rcases e' with z | z
      · rw [z]; exact Nat.le_add_right _ _
      · rw [z]; exact Nat.le_refl _
    exact I1.fpOk hle (I1.hok.fresh hle)
end Dn


set_option Elab.async false
set_option linter.all false
set_option maxRecDepth 100000
/-! DnIter: what is walked; list comprehensions. -/
namespace Dn
open PySem L2
theorem PI.mono {X : Cx} {tg iter : Expr} {w w' : TI} (h : PI X tg iter w) (i : ∀ σ H R, w' σ H R → w σ H R) : PI X tg iter w' := ⟨fun pins s σ H R I q => h.run pins s σ H R I (i σ H R q)⟩
theorem PI.or {X : Cx} {tg iter : Expr} {w w' : TI} (h : PI X tg iter w) (h' : PI X tg iter w') : PI X tg iter (fun σ H R => w σ H R ∨ w' σ H R) := ⟨fun pins s σ H R I q => q.elim (h.run pins s σ H R I) (h'.run pins s σ H R I)⟩
section
variable {K : PySem.W.Frag} {m : Mp} {Ω : Om} {H : Hp}
theorem yields_list {a : Addr} {vs : List V} {ds : List D} (c : CellsOk K m Ω H) (h1 : H a = some (.lst vs)) (hl : ¬ Live m Ω a) (h2 : RlL K m Ω H ds vs) : Yields K m Ω H ds (Itl K a) := fun i m' Ω' H' g ok => by
  have e1 := g.frame _ _ h1 hl
  have e2 := RlL.go g c ds vs h2
  refine ⟨fun d hd => ?_, fun hi => ⟨vs, SqL.of e1, by rw [← h2.length]; exact hi⟩⟩
  obtain ⟨v, hv, rv⟩ := e2.get hd
  refine ⟨⟨vs, v, SqL.of e1, hv⟩, fun x H'' y => ?_⟩
  obtain ⟨e, y⟩ := y
  subst e
  have z := y vs (SqL.of e1)
  rw [hv] at z
  cases z
  exact ⟨Go.refl ok, rv⟩
theorem yields_tup {a : Addr} {vs : List V} {ds : List D} (c : CellsOk K m Ω H) (h1 : SqT K H a vs) (h2 : RlL K m Ω H ds vs) : Yields K m Ω H ds (Itt K a) := fun i m' Ω' H' g ok => by
  have e1 := g.sqT c h1
  have e2 := RlL.go g c ds vs h2
  refine ⟨fun d hd => ?_, fun hi => ⟨vs, e1, by rw [← h2.length]; exact hi⟩⟩
  obtain ⟨v, hv, rv⟩ := e2.get hd
  refine ⟨⟨vs, v, e1, hv⟩, fun x H'' y => ?_⟩
  obtain ⟨e, y⟩ := y
  subst e
  have z := y vs e1
  rw [hv] at z
  cases z
  exact ⟨Go.refl ok, rv⟩
def rangeD (lo : Int) (n : Nat) : List D := (List.range n).map fun (i : Nat) => .int (lo + (i : Int))
theorem yields_range {lo : Int} {n : Nat} : Yields K m Ω H (rangeD lo n) (Itr lo n) := fun i m' Ω' H' g ok => by
  refine ⟨fun d hd => ?_, fun hi => by unfold rangeD at hi; rw [List.length_map, List.length_range] at hi; exact hi⟩
  unfold rangeD at hd
  rw [List.getElem?_map] at hd
  cases e : (List.range n)[i]? with
  | none => rw [e] at hd; cases hd
  | some j =>
    rw [e] at hd
    have hi : i < n := by simpa using (List.getElem?_eq_some_iff.mp e).1
    have ej : j = i := by
      have := (List.getElem?_eq_some_iff.mp e).2
      simpa using this.symm
    subst ej
    cases hd
    refine ⟨hi, fun x H'' y => ?_⟩
    obtain ⟨e1, e2⟩ := y
    subst e1 e2
    exact ⟨Go.refl ok, rl_int⟩
def enumD (k : Nat) : List D → List D
  | [] => []
  | d :: ds => .tup [.int (k : Int), d] :: enumD (k + 1) ds
theorem enumD_get : ∀ (ds : List D) (k i : Nat) (d : D), (enumD k ds)[i]? = some d → ∃ e, ds[i]? = some e ∧ d = .tup [.int ((k + i : Nat) : Int), e]
  | [], k, i, d, h => by unfold enumD at h; simp at h
  | e :: ds, k, 0, d, h => by
    unfold enumD at h
    simp at h
    exact ⟨e, rfl, by rw [← h]; rfl⟩
  | e :: ds, k, i + 1, d, h => by
    unfold enumD at h
    obtain ⟨x, h1, h2⟩ := enumD_get ds (k + 1) i d (by simpa using h)
    exact ⟨x, by simpa using h1, by rw [h2, show k + 1 + i = k + (i + 1) by omega]⟩
theorem enumD_length : ∀ (ds : List D) (k : Nat), (enumD k ds).length = ds.length
  | [], k => rfl
  | e :: ds, k => by unfold enumD; rw [List.length_cons, List.length_cons, enumD_length ds]
theorem yields_enum {a : Addr} {vs : List V} {ds : List D} (c : CellsOk K m Ω H) (h1 : H a = some (.lst vs)) (hl : ¬ Live m Ω a) (h2 : RlL K m Ω H ds vs) : Yields K m Ω H (enumD 0 ds) (Ite K a) := fun i m' Ω' H' g ok => by
  have e1 := g.frame _ _ h1 hl
  have e2 := RlL.go g c ds vs h2
  refine ⟨fun d hd => ?_, fun hi => ⟨vs, SqL.of e1, by rw [← h2.length]; rw [enumD_length] at hi; exact hi⟩⟩
  obtain ⟨e, hd, ed⟩ := enumD_get ds 0 i d hd
  obtain ⟨v, hv, rv⟩ := e2.get hd
  refine ⟨⟨vs, v, SqL.of e1, hv⟩, fun x H'' y => ?_⟩
  obtain ⟨T, x', ex, hT, eH, y⟩ := y
  have z := y vs (SqL.of e1)
  rw [hv] at z
  cases z
  subst ex eH ed
  refine ⟨Go.new ok hT, ?_⟩
  unfold Rl
  refine ⟨T, _, rfl, .inl upd_same, ?_⟩
  unfold RlL
  refine ⟨_, _, rfl, by rw [Nat.zero_add]; exact rl_int, RlL.new ok hT (RlL.one rv)⟩
theorem yields_enumT {a : Addr} {vs : List V} {ds : List D} (c : CellsOk K m Ω H) (h1 : SqT K H a vs) (h2 : RlL K m Ω H ds vs) : Yields K m Ω H (enumD 0 ds) (IteT K a) := fun i m' Ω' H' g ok => by
  have e1 := g.sqT c h1
  have e2 := RlL.go g c ds vs h2
  refine ⟨fun d hd => ?_, fun hi => ⟨vs, e1, by rw [← h2.length]; rw [enumD_length] at hi; exact hi⟩⟩
  obtain ⟨e, hd, ed⟩ := enumD_get ds 0 i d hd
  obtain ⟨v, hv, rv⟩ := e2.get hd
  refine ⟨⟨vs, v, e1, hv⟩, fun x H'' y => ?_⟩
  obtain ⟨T, x', ex, hT, eH, y⟩ := y
  have z := y vs e1
  rw [hv] at z
  cases z
  subst ex eH ed
  refine ⟨Go.new ok hT, ?_⟩
  unfold Rl
  refine ⟨T, _, rfl, .inl upd_same, ?_⟩
  unfold RlL
  refine ⟨_, _, rfl, by rw [Nat.zero_add]; exact rl_int, RlL.new ok hT (RlL.one rv)⟩
end
def fSeq (f : Den D) : Den (List D) := bnd f fun d _ Ω => match d with
  | .lst xs => some (.ok xs, Ω)
  | .tup xs => some (.ok xs, Ω)
  | _ => none
def fRange1 (r : Den (List D)) : Den (List D) := bnd r fun ds _ Ω => match ds with
  | [d] => match d with
    | .int j => if -(2 ^ 62) ≤ j ∧ j < 2 ^ 62 then some (.ok (rangeD 0 j.toNat), Ω) else none
    | _ => none
  | _ => none
def fEnum (r : Den (List D)) : Den (List D) := bnd r fun ds _ Ω => match ds with
  | [d] => match d with
    | .lst xs => some (.ok (enumD 0 xs), Ω)
    | .tup xs => some (.ok (enumD 0 xs), Ω)
    | .tpk xs => some (.ok (enumD 0 xs), Ω)
    | _ => none
  | _ => none
section
variable {X : Cx} {E : St → XK} {tg e a b : Expr} {f : Den D} {r : Den (List D)} {p pos : Pos}
theorem di_seq (h : DE X E e f) : DI X E tg e (fSeq f) := PI.mono (PI.or (pi_list h) (pi_tup h)) fun σ H R h => by
  obtain ⟨m, Γ, Ω, s, h⟩ := h
  unfold fSeq bnd at h
  cases e : f Γ Ω with
  | none => rw [e] at h; exact h.elim
  | some z =>
    obtain ⟨q, Ω1⟩ := z
    rw [e] at h
    cases q with
    | ex x =>
      refine .inl ⟨m, Γ, Ω, s, ?_⟩
      rw [e]
      exact h
    | ok d =>
      cases d with
      | lst xs =>
        refine .inl ⟨m, Γ, Ω, s, ?_⟩
        rw [e]
        intro m1 v H1 g1 r1
        unfold Rl at r1
        obtain ⟨a, vs, ev, h1, hl, h2⟩ := r1
        exact ⟨a, ev, ⟨vs, SqL.of h1⟩, h m1 _ H1 g1 (yields_list g1.ok h1 hl h2)⟩
      | tup xs =>
        refine .inr ⟨m, Γ, Ω, s, ?_⟩
        rw [e]
        intro m1 v H1 g1 r1
        unfold Rl at r1
        obtain ⟨a, vs, ev, h1, h2⟩ := r1
        exact ⟨a, ev, ⟨vs, h1.sq⟩, h m1 _ H1 g1 (yields_tup g1.ok h1.sq h2)⟩
      | _ => exact h.elim
theorem di_range1 (ha : DA X E [a] r) (hm : X.mg "range" = none) (hg : Gl X "range" := by rfl) (hs : starEach [a] X.env = [(false, eval a X.env)] := by rfl) : DI X E tg (.Call (.Name "range" p) [a] [] pos) (fRange1 r) := PI.mono (pi_range1 hg hm ha hs) fun σ H R h => by
  obtain ⟨m, Γ, Ω, s, h⟩ := h
  refine ⟨m, Γ, Ω, s, (Af.bind (R := RlL X.K) h).imp fun _ _ H1 _ vs _ _ _ ⟨m1, Ω1, ds, g1, r1, q⟩ => ?_⟩
  match ds, q, r1 with
  | [.int j], q, r1 =>
    obtain ⟨⟨b1, b2⟩, q⟩ := Af.guard q
    unfold RlL at r1
    obtain ⟨v, w, ev, q1, q2⟩ := r1
    unfold RlL at q2
    unfold Rl at q1
    subst q2 q1 ev
    exact ⟨j, rfl, b1, b2, q m1 _ H1 (Go.refl g1.ok) yields_range⟩
  | [], q, _ => exact q.elim
  | _ :: _ :: _, q, _ => exact q.elim
  | [.non], q, _ | [.bl _], q, _ | [.str _], q, _ | [.tup _], q, _ | [.tpk _], q, _ | [.lst _], q, _ | [.dct _], q, _ | [.dcT _], q, _ | [.dcN _ _], q, _ | [.obj _ _], q, _ | [.ref _], q, _ | [.scr _], q, _ | [.cl _], q, _ | [.clo _ _ _], q, _ => exact q.elim
theorem RlL.two {K : PySem.W.Frag} {m : Mp} {Ω : Om} {H : Hp} {x y : D} {vs : List V} (r : RlL K m Ω H [x, y] vs) : ∃ v w, vs = [v, w] ∧ Rl K m Ω H x v ∧ Rl K m Ω H y w := by
  unfold RlL at r
  obtain ⟨v, r1, e1, h1, r⟩ := r
  unfold RlL at r
  obtain ⟨w, r2, e2, h2, r⟩ := r
  unfold RlL at r
  subst r e2 e1
  exact ⟨v, w, rfl, h1, h2⟩
theorem RlL.single {K : PySem.W.Frag} {m : Mp} {Ω : Om} {H : Hp} {x : D} {vs : List V} (r : RlL K m Ω H [x] vs) : ∃ v, vs = [v] ∧ Rl K m Ω H x v := by
  unfold RlL at r
  obtain ⟨v, r1, e1, h1, r⟩ := r
  unfold RlL at r
  subst r e1
  exact ⟨v, rfl, h1⟩
theorem di_enum {elts : List Expr} {kk : Nat} {tpos : Pos} (ha : DA X E [e] r) (hm : X.mg "enumerate" = none) (hg : Gl X "enumerate" := by rfl) (hs : starEach [e] X.env = [(false, eval e X.env)] := by rfl) : DI X E (.Tuple elts kk tpos) (.Call (.Name "enumerate" p) [e] [] pos) (fEnum r) := PI.mono (PI.or (pi_enum hg hm ha hs) (pi_enumT hg hm ha hs)) fun σ H R h => by
  obtain ⟨m, Γ, Ω, s, h⟩ := h
  unfold fEnum bnd at h
  cases e : r Γ Ω with
  | none => rw [e] at h; exact h.elim
  | some z =>
    obtain ⟨q, Ω1⟩ := z
    rw [e] at h
    cases q with
    | ex x =>
      refine .inl ⟨m, Γ, Ω, s, ?_⟩
      rw [e]
      exact h
    | ok ds =>
      match ds, e, h with
      | [.lst xs], e, h =>
        refine .inl ⟨m, Γ, Ω, s, ?_⟩
        rw [e]
        intro m1 vs H1 g1 r1
        obtain ⟨v, ev, h1⟩ := r1.single
        unfold Rl at h1
        obtain ⟨a, ws, e1, h2, hl, h3⟩ := h1
        subst e1 ev
        exact ⟨a, ws, rfl, SqL.of h2, h m1 _ H1 g1 (yields_enum g1.ok h2 hl h3)⟩
      | [.tup xs], e, h =>
        refine .inr ⟨m, Γ, Ω, s, ?_⟩
        rw [e]
        intro m1 vs H1 g1 r1
        obtain ⟨v, ev, h1⟩ := r1.single
        unfold Rl at h1
        obtain ⟨a, ws, e1, h2, h3⟩ := h1
        subst e1 ev
        exact ⟨a, ws, rfl, h2.sq, h m1 _ H1 g1 (yields_enumT g1.ok h2.sq h3)⟩
      | [.tpk xs], e, h =>
        refine .inr ⟨m, Γ, Ω, s, ?_⟩
        rw [e]
        intro m1 vs H1 g1 r1
        obtain ⟨v, ev, h1⟩ := r1.single
        unfold Rl at h1
        obtain ⟨a, ws, e1, h2, h3⟩ := h1
        subst e1 ev
        exact ⟨a, ws, rfl, h2.sq, h m1 _ H1 g1 (yields_enumT g1.ok h2.sq h3)⟩
      | [], _, h => exact h.elim
      | _ :: _ :: _, _, h => exact h.elim
      | [.non], _, h | [.bl _], _, h | [.int _], _, h | [.str _], _, h | [.dct _], _, h | [.dcT _], _, h | [.dcN _ _], _, h | [.obj _ _], _, h | [.ref _], _, h | [.scr _], _, h | [.cl _], _, h | [.clo _ _ _], _, h => exact h.elim
end

/-! ### comprehensions -/
def wipeG (Γ : Gm) : List Nat → Gm
  | [] => Γ
  | v :: vs => (wipeG Γ vs).set v none
def setAll (Γ : Gm) : List Nat → List D → Gm
  | i :: is, d :: ds => setAll (Γ.set i (some d)) is ds
  | _, _ => Γ
def setAllV (σ : St) : List Nat → List V → St
  | i :: is, v :: vs => setAllV (σ.set i (some v)) is vs
  | _, _ => σ
/-- the target: one name, or a tuple of names -/
inductive Tg where
  | nm (i : Nat) | tp (is : List Nat)
def Tg.slots : Tg → List Nat
  | .nm i => [i]
  | .tp is => is
def Tg.den : Tg → DenG
  | .nm i => fun d Γ => some (Γ.set i (some d))
  | .tp is => fun d Γ => match d with
    | .tup ds => if ds.length = is.length then some (setAll Γ is ds) else none
    | _ => none
def gNames : List Nat → TGs
  | [] => L2.gNil
  | i :: is => L2.gCons (L2.gName i) (gNames is)
def Tg.rd (K : PySem.W.Frag) : Tg → TG
  | .nm i => L2.gName i
  | .tp is => L2.gTup K is.length (gNames is)
def loopC (t : DenG) (ft : Den Bool) (fe : Den D) (Γ : Gm) : List D → List D → Om → Option (Rs D × Om)
  | [], acc, Ω => some (.ok (.lst acc), Ω)
  | d :: r, acc, Ω => match t d Γ with
    | none => none
    | some Γ1 => match ft Γ1 Ω with
      | some (.ok true, Ω1) => match fe Γ1 Ω1 with
        | some (.ok y, Ω2) => if acc.length < 100000 then loopC t ft fe Γ r (acc ++ [y]) Ω2 else none
        | _ => none
      | some (.ok false, Ω1) => loopC t ft fe Γ r acc Ω1
      | _ => none
def fLc (fi : Den (List D)) (t : Tg) (ft : Den Bool) (fe : Den D) (vs : List Nat) : Den D := fun Γ Ω => bR (fi Γ Ω) fun ds Ω1 => loopC t.den ft fe (wipeG Γ vs) ds [] Ω1
section
variable {K : PySem.W.Frag} {m : Mp} {Ω : Om} {H : Hp} {Γ : Gm} {σ : St}
theorem Slots.wipe (s : Slots K m Ω H Γ σ) : ∀ vs : List Nat, Slots K m Ω H (wipeG Γ vs) (L2.wipe σ vs)
  | [] => s
  | v :: vs => by
    have ih := Slots.wipe s vs
    refine ⟨by unfold wipeG L2.wipe; rw [List.length_set, List.length_set, ih.1], fun i d h => ?_⟩
    unfold wipeG at h
    by_cases hi : i = v
    · subst hi
      by_cases hl : i < (wipeG Γ vs).length
      · rw [List.getElem?_set_self hl] at h; cases h
      · have := (List.getElem?_eq_some_iff.mp h).1
        rw [List.length_set] at this
        exact (hl this).elim
    · rw [List.getElem?_set_ne (Ne.symm hi)] at h
      obtain ⟨x, h1, h2⟩ := ih.2 i d h
      refine ⟨x, ?_, h2⟩
      unfold L2.wipe
      rw [List.getElem?_set_ne (Ne.symm hi)]
      exact h1
theorem wipe_set {i : Nat} {o : Option V} : ∀ {vs : List Nat} {σ : St}, i ∈ vs → L2.wipe (σ.set i o) vs = L2.wipe σ vs
  | v :: vs, σ, h => by
    unfold L2.wipe
    by_cases hi : i ∈ vs
    · rw [wipe_set hi]
    · have e : i = v := by
        rcases List.mem_cons.mp h with h | h
        · exact h
        · exact (hi h).elim
      subst e
      have z : ∀ (vs : List Nat), L2.wipe (σ.set i o) vs = (L2.wipe σ vs).set i (((L2.wipe (σ.set i o) vs)[i]?).getD none) ∨ True := fun _ => .inr trivial
      have y : ∀ (vs : List Nat), (L2.wipe (σ.set i o) vs).set i none = (L2.wipe σ vs).set i none := by
        intro vs
        induction vs with
        | nil => unfold L2.wipe; rw [List.set_set]
        | cons v vs ih =>
          unfold L2.wipe
          by_cases hv : v = i
          · subst hv; rw [List.set_set, List.set_set]; exact ih
          · rw [List.set_comm _ _ hv, ih, List.set_comm _ _ (Ne.symm hv)]
      exact y vs
theorem wipe_wipe : ∀ (vs : List Nat) (σ : St), L2.wipe (L2.wipe σ vs) vs = L2.wipe σ vs := by
  intro vs
  have key : ∀ (us : List Nat) (σ : St), (∀ u ∈ us, u ∈ vs) → L2.wipe (L2.wipe σ us) vs = L2.wipe σ vs := by
    intro us
    induction us with
    | nil => intro σ _; rfl
    | cons u us ih =>
      intro σ h
      show L2.wipe ((L2.wipe σ us).set u none) vs = _
      rw [wipe_set (h u (List.mem_cons_self ..))]
      exact ih σ fun x hx => h x (List.mem_cons_of_mem _ hx)
  exact fun σ => key vs σ fun _ h => h
theorem wipe_setAll : ∀ {is : List Nat} {ws : List V} {vs : List Nat} {σ : St}, (∀ i ∈ is, i ∈ vs) → L2.wipe (setAllV σ is ws) vs = L2.wipe σ vs
  | [], ws, vs, σ, _ => by unfold setAllV; rfl
  | i :: is, [], vs, σ, _ => by unfold setAllV; rfl
  | i :: is, w :: ws, vs, σ, h => by
    unfold setAllV
    rw [wipe_setAll fun x hx => h x (List.mem_cons_of_mem _ hx), wipe_set (h i (List.mem_cons_self ..))]
theorem Slots.setAll : ∀ {is : List Nat} {ds : List D} {ws : List V} {Γ : Gm} {σ : St}, Slots K m Ω H Γ σ → RlL K m Ω H ds ws → Slots K m Ω H (Dn.setAll Γ is ds) (setAllV σ is ws)
  | [], ds, ws, Γ, σ, s, _ => by unfold Dn.setAll setAllV; exact s
  | i :: is, [], ws, Γ, σ, s, r => by unfold RlL at r; subst r; unfold Dn.setAll setAllV; exact s
  | i :: is, d :: ds, ws, Γ, σ, s, r => by
    unfold RlL at r
    obtain ⟨w, r', e, h1, h2⟩ := r
    subst e
    unfold Dn.setAll setAllV
    exact Slots.setAll (s.set h1) h2
theorem gNames_of : ∀ {is : List Nat} {ws : List V} {σ : St} {Q : St → Hp → Prop}, ws.length = is.length → Q (setAllV σ is ws) H → gNames is ws σ H Q
  | [], ws, σ, Q, hl, q => ⟨List.eq_nil_of_length_eq_zero hl, by cases List.eq_nil_of_length_eq_zero hl; exact q⟩
  | i :: is, [], σ, Q, hl, q => by cases hl
  | i :: is, w :: ws, σ, Q, hl, q => ⟨w, ws, rfl, gNames_of (is := is) (Nat.succ.inj hl) q⟩
/-- the target's reading, from its denotation -/
theorem Tg.of {t : Tg} {d : D} {v : V} {Γ1 : Gm} {vs : List Nat} {Q : St → Hp → Prop} (s : Slots K m Ω H Γ σ) (r : Rl K m Ω H d v) (e : t.den d Γ = some Γ1) (hv : ∀ i ∈ t.slots, i ∈ vs)
    (q : ∀ σ', Slots K m Ω H Γ1 σ' → L2.wipe σ' vs = L2.wipe σ vs → Q σ' H) : t.rd K v σ H Q := by
  cases t with
  | nm i =>
    cases e
    exact q _ (s.set r) (wipe_set (hv i (List.mem_cons_self ..)))
  | tp is =>
    cases d with
    | tup ds =>
      have e : (if ds.length = is.length then some (Dn.setAll Γ is ds) else none) = some Γ1 := e
      by_cases hl : ds.length = is.length
      · rw [if_pos hl] at e
        cases e
        unfold Rl at r
        obtain ⟨a, ws, ev, h1, h2⟩ := r
        have hw : ws.length = is.length := by rw [← h2.length]; exact hl
        exact ⟨a, ws, ev, h1.sq, hw, gNames_of hw (q _ (s.setAll h2) (wipe_setAll hv))⟩
      · rw [if_neg hl] at e; cases e
    | _ => cases e
end
abbrev DTs (X : Cx) (E : St → XK) (ifs : List Expr) (f : Den Bool) : Prop := PTs X ifs (tDT X.K E f)
theorem PTs.mono {X : Cx} {e : List Expr} {t t' : TT} (h : PTs X e t) (i : ∀ σ H Q, t' σ H Q → t σ H Q) : PTs X e t' := ⟨fun pins s σ H Q I q => h.run pins s σ H Q I (i σ H Q q)⟩
theorem dts_nil {X : Cx} {E : St → XK} : DTs X E [] (fC true) := PTs.mono pts_nil fun σ H Q h => by
  obtain ⟨m, Γ, Ω, s, h⟩ := h
  exact h m true H (Go.refl s.cells) rfl
theorem pg_nm {X : Cx} (i : Nat) {x : Str} {pos : Pos} (hN : X.N.Nodup) (hi : X.N[i]? = some x := by rfl) (hx : Loc X.env.scope x := by first | exact Or.inl rfl | exact Or.inr rfl) (hf : X.fn x = true ∨ X.env.scope.names.lookup x = some .local := by first | exact .inl rfl | exact .inr rfl | assumption) : PG X (.Name x pos) ((Tg.nm i).rd X.K) := pg_name (i := i) hN hi hx hf
theorem pgs_n0 {X : Cx} : PGs X [] (gNames []) := pgs_nil
theorem pgs_n1 {X : Cx} (i : Nat) {is : List Nat} {x : Str} {pos : Pos} {es : List Expr} (hN : X.N.Nodup) (h2 : PGs X es (gNames is)) (hi : X.N[i]? = some x := by rfl) (hx : Loc X.env.scope x := by first | exact Or.inl rfl | exact Or.inr rfl) (hf : X.fn x = true ∨ X.env.scope.names.lookup x = some .local := by first | exact .inl rfl | exact .inr rfl | assumption)
    (hs : (assignEach (.Name x pos :: es) X.env).map (·.2) = assign (.Name x pos) X.env :: (assignEach es X.env).map (·.2) := by rfl) : PGs X (.Name x pos :: es) (gNames (i :: is)) := pgs_cons (pg_name (i := i) hN hi hx hf) h2 hs
theorem pg_tp {X : Cx} {es : List Expr} {is : List Nat} {k : Nat} {pos : Pos} (hc : X.calm = true) (h : PGs X es (gNames is)) (hn : (assignEach es X.env).length = is.length := by rfl) (hst : (assignEach es X.env).findIdx? (·.1) = none := by rfl) : PG X (.Tuple es k pos) ((Tg.tp is).rd X.K) := pg_tup hc h hn hst
/-- between two turns: the list at p is filled, hidden -/
structure LcI (K : PySem.W.Frag) (Γ : Gm) (σ : St) (m1 : Mp) (Ω1 : Om) (H1 : Hp) (p : Addr) (m2 : Mp) (Ω2 : Om) (acc : List D) (ws : List V) (H2 : Hp) : Prop where
  gw : Gw K m1 Ω1 H1 m2 Ω2 H2
  c : CellsOk K m2 Ω2 H2
  hh : ∀ a, m1.hid a → m2.hid a
  hk : ∀ a o, m1.hid a → H1 a = some o → H2 a = some o
  hD : m2.hid p
  eD : H2 p = some (.lst ws)
  racc : RlL K m2 Ω2 H2 acc ws
  sl : Slots K m2 Ω2 H2 Γ σ
theorem LcI.step {K : PySem.W.Frag} {Γ : Gm} {σ : St} {m1 : Mp} {Ω1 : Om} {H1 : Hp} {p : Addr} {m2 m3 : Mp} {Ω2 Ω3 : Om} {acc : List D} {ws : List V} {H2 H3 : Hp}
    (I : LcI K Γ σ m1 Ω1 H1 p m2 Ω2 acc ws H2) (g : Go K m2 Ω2 H2 m3 Ω3 H3) : LcI K Γ σ m1 Ω1 H1 p m3 Ω3 acc ws H3 :=
  ⟨I.gw.trans g.toGw, g.ok, fun a h => g.hs a (I.hh a h), fun a o h e => g.hk a o (I.hh a h) (I.hk a o h e), g.hs p I.hD, g.hk p _ I.hD I.eD, RlL.go g.toGw I.c _ _ I.racc, ((SR.mk I.c I.sl).go g).slots⟩
section
variable {X : Cx} {E : St → XK} {elt tg iter : Expr} {ifs : List Expr} {scope : Scope} {own : List (Str × Nat)} {pos : Pos} {fi : Den (List D)} {t : Tg} {ft : Den Bool} {fe : Den D}
theorem lc_of (hv : ∀ i ∈ t.slots, i ∈ own.map (·.2)) {σ : St} {H : Hp} {Q : VK} (h : tD X.K E (fLc fi t ft fe (own.map (·.2))) σ H Q) :
    tLc (tIt X.K E fi) (t.rd X.K) (tDT X.K E0S ft) (tD X.K E0S fe) (own.map (·.2)) σ H Q := by
  obtain ⟨m, Γ, Ω, s, h⟩ := h
  refine ⟨m, Γ, Ω, s, (Af.bind (R := fun m Ω H ds J => Yields X.K m Ω H ds J) h).imp fun _ _ H1 _ J _ _ _ ⟨m1, Ω1, ds, g1, Y, q⟩ => ?_⟩
  intro D hD
  have c1 := g1.ok
  refine ⟨fun i k H2 => k = ds.length - i ∧ i ≤ ds.length ∧ ∃ (m2 : Mp) (Ω2 : Om) (acc : List Dn.D) (ws : List V), LcI X.K (wipeG Γ (own.map (·.2))) (L2.wipe σ (own.map (·.2))) m1 Ω1 H1 D m2 Ω2 acc ws H2 ∧ Af X.K (Rl X.K) (E σ) Q m1 Ω1 H1 (loopC t.den ft fe (wipeG Γ (own.map (·.2))) (ds.drop i) acc Ω2), ⟨ds.length, rfl, Nat.zero_le _, ?_⟩, ?_⟩
  · have gw := Gw.hide (K := X.K) (o := .lst []) c1 hD
    have sl := (s.go g1).slots.wipe (own.map (·.2))
    exact ⟨m1.hide D, Ω1, [], [], ⟨gw, c1.hide hD, fun a h => .inl h, fun a o _ q => by rw [upd_ne (ne_of_none q hD)]; exact q, .inr rfl, upd_same, by unfold RlL; rfl, ⟨sl.1, fun i d h => let ⟨v, h1, h2⟩ := sl.2 i d h; ⟨v, h1, Rl.go gw c1 d v h2⟩⟩⟩, q⟩
  · rintro i k H2 ⟨rfl, hi, m2, Ω2, acc, ws, I2, q2⟩
    by_cases hlt : i < ds.length
    · right
      have e1 : ds[i]? = some ds[i] := List.getElem?_eq_getElem hlt
      obtain ⟨y1, _⟩ := Y i m2 Ω2 H2 I2.gw I2.c
      obtain ⟨go1, yl⟩ := y1 _ e1
      rw [List.drop_eq_getElem_cons hlt] at q2
      refine ⟨go1, fun H3 => ∃ (m3 : Mp) (Ω3 : Om) (acc : List Dn.D) (ws : List V), LcI X.K (wipeG Γ (own.map (·.2))) (L2.wipe σ (own.map (·.2))) m1 Ω1 H1 D m3 Ω3 acc ws H3 ∧ Af X.K (Rl X.K) (E σ) Q m1 Ω1 H1 (loopC t.den ft fe (wipeG Γ (own.map (·.2))) (ds.drop (i + 1)) acc Ω3), fun H3 z => ⟨ds.length - (i + 1), by omega, rfl, hlt, z⟩, fun x H3 y2 => ?_⟩
      obtain ⟨g3, r3⟩ := yl x H3 y2
      unfold loopC at q2
      cases e2 : t.den ds[i] (wipeG Γ (own.map (·.2))) with
      | none => rw [e2] at q2; exact q2.elim
      | some Γ1 =>
        rw [e2] at q2
        dsimp only at q2
        have sl3 := ((SR.mk I2.c I2.sl).go g3)
        refine Tg.of sl3.slots r3 e2 hv fun σ' sl' ew => ⟨by rw [ew, wipe_wipe], m2, Γ1, Ω2, ⟨g3.ok, sl'⟩, ?_⟩
        cases e3 : ft Γ1 Ω2 with
        | none => rw [e3] at q2; exact q2.elim
        | some z =>
          obtain ⟨rr, Ω3⟩ := z
          rw [e3] at q2
          cases rr with
          | ex e => exact q2.elim
          | ok b =>
            intro m4 b' H4 g4 eb
            subst eb
            have g24 := g3.trans g4
            cases b with
            | false => exact ⟨m4, Ω3, acc, ws, I2.step g24, q2⟩
            | true =>
              show tD X.K E0S fe σ' H4 _
              dsimp only at q2
              refine ⟨m4, Γ1, Ω3, ⟨g4.ok, ((SR.mk g3.ok sl').go g4).slots⟩, ?_⟩
              cases e4 : fe Γ1 Ω3 with
              | none => rw [e4] at q2; exact q2.elim
              | some z =>
                obtain ⟨rr, Ω5⟩ := z
                rw [e4] at q2
                cases rr with
                | ex e => exact q2.elim
                | ok y =>
                  obtain ⟨hz, q2⟩ := Af.guard q2
                  intro m5 v H5 g5 r5
                  have I5 := I2.step (g24.trans g5)
                  have hl : ws.length < sizeLine := by rw [← I5.racc.length]; exact Nat.lt_of_lt_of_le hz (by decide)
                  refine ⟨ws, I5.eD, hl, m5, Ω5, acc ++ [y], ws ++ [v], ?_⟩
                  have gf := Gw.fill (K := X.K) (o := .lst (ws ++ [v])) I5.c I5.hD
                  exact ⟨⟨I5.gw.trans gf, I5.c.fill I5.hD, I5.hh, fun a o h e => by rw [upd_ne (show a ≠ D from fun z => c1.freshH hD (by rw [← z]; exact h))]; exact I5.hk a o h e, I5.hD, upd_same, RlL.go gf I5.c _ _ (I5.racc.append (RlL.one r5)), ⟨I5.sl.1, fun i d h => let ⟨v, h1, h2⟩ := I5.sl.2 i d h; ⟨v, h1, Rl.go gf I5.c d v h2⟩⟩⟩, q2⟩
    · left
      have ei : i = ds.length := by omega
      obtain ⟨_, y2⟩ := Y i m2 Ω2 H2 I2.gw I2.c
      refine ⟨y2 (by omega), ?_⟩
      rw [List.drop_of_length_le (by omega)] at q2
      unfold loopC at q2
      refine q2 (m2.shown m1.hid) _ H2 ⟨I2.gw.toShown I2.hh, I2.c.shown I2.hh, I2.hk, fun _ h => h⟩ ?_
      unfold Rl
      refine ⟨D, ws, rfl, I2.eD, fun l => ?_, RlL.go (Gw.shown I2.hh) I2.c acc ws I2.racc⟩
      rcases l with ⟨n, cc, h1, _⟩ | l
      · exact (I2.c.hl D I2.hD).2 (List.mem_of_getElem? h1)
      · exact c1.freshH hD l
theorem de_lc (hc : X.calm = true) (hN : X.N.Nodup) (hi : DI X E tg iter fi) (ok : BlkOk X.N X.env.scope scope own) (hv : ∀ i ∈ t.slots, i ∈ own.map (·.2))
    (hg : ∀ (s : Shared) (H : Hp) (C : Addr) (cl : List (Str × Addr)) (fp : List Addr), PG (X.blk s H scope (compEnvC scope cl C X.env) fp) tg (t.rd X.K))
    (ht : ∀ (s : Shared) (H : Hp) (C : Addr) (cl : List (Str × Addr)) (fp : List Addr), DTs (X.blk s H scope (compEnvC scope cl C X.env) fp) E0S ifs ft)
    (he : ∀ (s : Shared) (H : Hp) (C : Addr) (cl : List (Str × Addr)) (fp : List Addr), DE (X.blk s H scope (compEnvC scope cl C X.env) fp) E0S elt fe)
    (hs : ∀ x, foldedSetIterable iter X.env x = pure x := by intro _; rfl) : DE X E (.ListComp elt [⟨tg, iter, ifs, 0⟩] scope pos) (fLc fi t ft fe (own.map (·.2))) :=
  PE.mono (pe_lc hc hN hi ok hg ht he hs) fun σ H Q h => lc_of hv h
end
end Dn


set_option Elab.async false
set_option linter.all false
set_option maxRecDepth 100000
/-! DnMore: built-ins, lists that change, dicts. -/
namespace Dn
open PySem L2
abbrev OpA := List D → Om → Option (Rs D × Om)
def CallD (K : PySem.W.Frag) (op : OpA) (r : List V → Hp → VK → Prop) : Prop := ∀ (E : XK) (m : Mp) (Ω : Om) (H : Hp) (ds : List D) (vs : List V) (Q : VK), CellsOk K m Ω H → RlL K m Ω H ds vs → Af K (Rl K) E Q m Ω H (op ds Ω) → r vs H Q
def fCB (op : OpA) (r : Den (List D)) : Den D := bnd r fun ds _ Ω => op ds Ω
section
variable {X : Cx} {E : St → XK} {x : Str} {e : Expr} {es : List Expr} {r : Den (List D)} {p pos : Pos} {op : OpA} {rr : List V → Hp → VK → Prop}
theorem cb_of (hd : CallD X.K op rr) {σ : St} {H : Hp} {Q : VK} (h : tD X.K E (fCB op r) σ H Q) : tCB rr (tDA X.K E r) σ H Q := by
  obtain ⟨m, Γ, Ω, s, h⟩ := h
  refine ⟨m, Γ, Ω, s, (Af.bind (R := RlL X.K) h).imp fun _ _ _ _ _ _ _ _ ⟨m1, Ω1, ds, g1, r1, q⟩ => ?_⟩
  exact hd (E σ) m1 Ω1 _ ds _ Q g1.ok r1 q
theorem de_callB {id : String} (hr : CallR X (.builtin id) rr) (hd : CallD X.K op rr) (hm : X.mg x = none) (hv : bootBuiltins x = some (.builtin id)) (ha : DA X E (e :: es) r) (hg : Gl X x := by rfl) (hn : x ≠ Str.ofString "__name__" := by decide)
    (hdb : (x == ("__debug__" : Str)) = false := by decide) (he : starEach (e :: es) X.env = (false, eval e X.env) :: starEach es X.env := by rfl) (hpl : (backTo pos (starEach es X.env)).any (·.1) = false := by rfl) : DE X E (.Call (.Name x p) (e :: es) [] pos) (fCB op r) :=
  PE.mono (pe_callB hr hg hm hv ha hn hdb he hpl) fun _ _ _ h => cb_of hd h
theorem de_callTy {T : String} (hr : CallR X (.type T) rr) (hd : CallD X.K op rr) (hm : X.mg x = none) (hv : bootBuiltins x = some (.type T)) (ha : DA X E (e :: es) r) (hg : Gl X x := by rfl) (hn : x ≠ Str.ofString "__name__" := by decide)
    (hdb : (x == ("__debug__" : Str)) = false := by decide) (he : starEach (e :: es) X.env = (false, eval e X.env) :: starEach es X.env := by rfl) (hpl : (backTo pos (starEach es X.env)).any (·.1) = false := by rfl) : DE X E (.Call (.Name x p) (e :: es) [] pos) (fCB op r) :=
  PE.mono (pe_callTy hr hg hm hv ha hn hdb he hpl) fun _ _ _ h => cb_of hd h
end
section
variable {K : PySem.W.Frag} {X : Cx}
/-- one argument, two arguments -/
def op1 (g : Op1) : OpA := fun ds Ω => match ds with
  | [d] => g d Ω
  | _ => none
def op2 (g : Op2) : OpA := fun ds Ω => match ds with
  | [d, e] => g d e Ω
  | _ => none
theorem op1_of {g : Op1} {E : XK} {m : Mp} {Ω : Om} {H : Hp} {ds : List D} {vs : List V} {Q : VK} (r : RlL K m Ω H ds vs) (q : Af K (Rl K) E Q m Ω H (op1 g ds Ω)) : ∃ d v, ds = [d] ∧ vs = [v] ∧ Rl K m Ω H d v ∧ Af K (Rl K) E Q m Ω H (g d Ω) := by
  match ds, q, r with
  | [d], q, r =>
    obtain ⟨v, ev, h⟩ := r.single
    exact ⟨d, v, rfl, ev, h, q⟩
  | [], q, _ => exact q.elim
  | _ :: _ :: _, q, _ => exact q.elim
theorem op2_of {g : Op2} {E : XK} {m : Mp} {Ω : Om} {H : Hp} {ds : List D} {vs : List V} {Q : VK} (r : RlL K m Ω H ds vs) (q : Af K (Rl K) E Q m Ω H (op2 g ds Ω)) : ∃ d e v w, ds = [d, e] ∧ vs = [v, w] ∧ Rl K m Ω H d v ∧ Rl K m Ω H e w ∧ Af K (Rl K) E Q m Ω H (g d e Ω) := by
  match ds, q, r with
  | [d, e], q, r =>
    obtain ⟨v, w, ev, h1, h2⟩ := r.two
    exact ⟨d, e, v, w, rfl, ev, h1, h2, q⟩
  | [], q, _ => exact q.elim
  | [_], q, _ => exact q.elim
  | _ :: _ :: _ :: _, q, _ => exact q.elim
/-! ### ints -/
def dAbs : OpA := op1 fun d Ω => match d with
  | .int i => some (.ok (.int (if i < 0 then -i else i)), Ω)
  | _ => none
theorem cd_abs : CallD K dAbs (fun xs H Q => ∃ i, xs = [.int i] ∧ Q (.int (if i < 0 then -i else i)) H) := by
  intro E m Ω H ds vs Q c r q
  obtain ⟨d, v, ed, ev, h, q⟩ := op1_of r q
  subst ed ev
  cases d with
  | int i => unfold Rl at h; subst h; exact ⟨i, rfl, q.now c rl_int⟩
  | _ => exact q.elim
def dMax : OpA := op2 fun d e Ω => match d, e with
  | .int i, .int j => some (.ok (.int (if j > i then j else i)), Ω)
  | _, _ => none
def dMin : OpA := op2 fun d e Ω => match d, e with
  | .int i, .int j => some (.ok (.int (if j < i then j else i)), Ω)
  | _, _ => none
theorem cd_max : CallD K dMax (fun xs H Q => ∃ i j, xs = [.int i, .int j] ∧ Q (.int (if j > i then j else i)) H) := by
  intro E m Ω H ds vs Q c r q
  obtain ⟨d, e, v, w, ed, ev, h, h2, q⟩ := op2_of r q
  subst ed ev
  cases d with
  | int i =>
    cases e with
    | int j => unfold Rl at h h2; subst h h2; exact ⟨i, j, rfl, q.now c rl_int⟩
    | _ => exact q.elim
  | _ => exact q.elim
theorem cd_min : CallD K dMin (fun xs H Q => ∃ i j, xs = [.int i, .int j] ∧ Q (.int (if j < i then j else i)) H) := by
  intro E m Ω H ds vs Q c r q
  obtain ⟨d, e, v, w, ed, ev, h, h2, q⟩ := op2_of r q
  subst ed ev
  cases d with
  | int i =>
    cases e with
    | int j => unfold Rl at h h2; subst h h2; exact ⟨i, j, rfl, q.now c rl_int⟩
    | _ => exact q.elim
  | _ => exact q.elim
def dInt : OpA := op1 fun d Ω => match d with
  | .int i => some (.ok (.int i), Ω)
  | .bl b => some (.ok (.int (if b then 1 else 0)), Ω)
  | _ => none
theorem cd_int : CallD K dInt (fun xs H Q => (∃ i, xs = [.int i] ∧ Q (.int i) H) ∨ ∃ k, xs = [.bl k] ∧ Q (.int (if k then 1 else 0)) H) := by
  intro E m Ω H ds vs Q c r q
  obtain ⟨d, v, ed, ev, h, q⟩ := op1_of r q
  subst ed ev
  cases d with
  | int i => unfold Rl at h; subst h; exact .inl ⟨i, rfl, q.now c rl_int⟩
  | bl b => unfold Rl at h; subst h; exact .inr ⟨b, rfl, q.now c rl_int⟩
  | _ => exact q.elim
def dDivmod : OpA := op2 fun d e Ω => match d, e with
  | .int i, .int j => if 0 < j ∧ j < 1073741824 then some (.ok (.tup [.int (i / j), .int (i % j)]), Ω) else none
  | _, _ => none
theorem rl_tupNew {m : Mp} {Ω : Om} {H : Hp} {p : Addr} {ds : List D} {vs : List V} (c : CellsOk K m Ω H) (hp : H p = none) (h : RlL K m Ω H ds vs) : Rl K m Ω (upd H p (.tup vs)) (.tup ds) (.ref p) := by
  unfold Rl
  exact ⟨p, vs, rfl, .inl upd_same, RlL.new c hp h⟩
theorem rlL_2 {m : Mp} {Ω : Om} {H : Hp} {x y : D} {v w : V} (h1 : Rl K m Ω H x v) (h2 : Rl K m Ω H y w) : RlL K m Ω H [x, y] [v, w] := by
  unfold RlL
  exact ⟨v, [w], rfl, h1, RlL.one h2⟩
theorem cd_divmod : CallD K dDivmod (fun xs H Q => ∃ i j, xs = [.int i, .int j] ∧ CDiv i j ∧ ∀ p, H p = none → Q (.ref p) (upd H p (.tup [.int (i / j), .int (i % j)]))) := by
  intro E m Ω H ds vs Q c r q
  obtain ⟨d, e, v, w, ed, ev, h, h2, q⟩ := op2_of r q
  subst ed ev
  cases d with
  | int i =>
    cases e with
    | int j =>
      unfold Rl at h h2
      subst h h2
      obtain ⟨hc, q⟩ := Af.guard q
      exact ⟨i, j, rfl, hc, fun p hp => q m _ _ (Go.new c hp) (rl_tupNew c hp (rlL_2 rl_int rl_int))⟩
    | _ => exact q.elim
  | _ => exact q.elim
/-! ### sequences -/
def dLen : OpA := op1 fun d Ω => match d with
  | .str x => if x.length ≤ 100000 then some (.ok (.int x.length), Ω) else none
  | .tup xs => some (.ok (.int xs.length), Ω)
  | .tpk xs => some (.ok (.int xs.length), Ω)
  | .scr xs => some (.ok (.int xs.length), Ω)
  | d => match asL Ω d with
    | some xs => some (.ok (.int xs.length), Ω)
    | none => none
theorem cd_len : CallD K dLen (fun xs H Q => ∃ x n, xs = [x] ∧ LenV K x H n ∧ Q (.int n) H) := by
  intro E m Ω H ds vs Q c r q
  obtain ⟨d, v, ed, ev, h, q⟩ := op1_of r q
  subst ed ev
  have gen : ∀ d', d' = d → Af K (Rl K) E Q m Ω H (match asL Ω d' with | some xs => some (.ok (.int xs.length), Ω) | none => none) → ∃ x n, [v] = [x] ∧ LenV K x H n ∧ Q (.int n) H := fun d' e qq => by
    clear q
    subst e
    cases e1 : asL Ω d' with
    | none => rw [e1] at qq; exact qq.elim
    | some xs =>
      rw [e1] at qq
      obtain ⟨a, ws, ea, h1, h2⟩ := asL_ok c h e1
      subst ea
      exact ⟨.ref a, ws.length, rfl, .inl ⟨ws, SqL.of h1, rfl⟩, by rw [← h2.length]; exact qq.now c rl_int⟩
  cases d with
  | str x =>
    unfold Rl at h
    subst h
    obtain ⟨hz, q⟩ := Af.guard q
    exact ⟨.str x, x.length, rfl, ⟨sz hz, rfl⟩, q.now c rl_int⟩
  | tup xs =>
    unfold Rl at h
    obtain ⟨a, ws, ea, h1, h2⟩ := h
    subst ea
    exact ⟨.ref a, ws.length, rfl, .inr ⟨ws, h1.sq, rfl⟩, by rw [← h2.length]; exact q.now c rl_int⟩
  | tpk xs =>
    unfold Rl at h
    obtain ⟨a, ws, ea, h1, h2⟩ := h
    subst ea
    exact ⟨.ref a, ws.length, rfl, .inr ⟨ws, h1.sq, rfl⟩, by rw [← h2.length]; exact q.now c rl_int⟩
  | scr xs =>
    unfold Rl at h
    obtain ⟨a, ea, h1⟩ := h
    subst ea
    exact ⟨.ref a, (xs.map V.int).length, rfl, .inl ⟨_, h1.sq, rfl⟩, by rw [List.length_map]; exact q.now c rl_int⟩
  | lst xs => exact gen _ rfl q
  | ref n => exact gen _ rfl q
  | _ => exact q.elim
/-- tuple(x), list(x): new ones, pure -/
def dTuple : OpA := op1 fun d Ω => match d with
  | .tup xs => some (.ok (.tup xs), Ω)
  | d => match asL Ω d with
    | some xs => some (.ok (.tup xs), Ω)
    | none => none
theorem cd_tuple : CallD K dTuple (fun xs H Q => ∃ p ys, xs = [.ref p] ∧ ((SqL K H p ys ∧ ∀ l, H l = none → Q (.ref l) (upd H l (.tup ys))) ∨ (SqT K H p ys ∧ Q (.ref p) H))) := by
  intro E m Ω H ds vs Q c r q
  obtain ⟨d, v, ed, ev, h, q⟩ := op1_of r q
  subst ed ev
  have gen : ∀ d', d' = d → Af K (Rl K) E Q m Ω H (match asL Ω d' with | some xs => some (.ok (.tup xs), Ω) | none => none) → ∃ p ys, [v] = [.ref p] ∧ ((SqL K H p ys ∧ ∀ l, H l = none → Q (.ref l) (upd H l (.tup ys))) ∨ (SqT K H p ys ∧ Q (.ref p) H)) := fun d' e qq => by
    clear q
    subst e
    cases e1 : asL Ω d' with
    | none => rw [e1] at qq; exact qq.elim
    | some xs =>
      rw [e1] at qq
      obtain ⟨a, ws, ea, h1, h2⟩ := asL_ok c h e1
      subst ea
      exact ⟨a, ws, rfl, .inl ⟨SqL.of h1, fun l hl => qq m _ _ (Go.new c hl) (rl_tupNew c hl h2)⟩⟩
  cases d with
  | tup xs =>
    have h0 := h
    unfold Rl at h
    obtain ⟨a, ws, ea, h1, h2⟩ := h
    subst ea
    exact ⟨a, ws, rfl, .inr ⟨h1.sq, q.now c h0⟩⟩
  | lst xs => exact gen _ rfl q
  | ref n => exact gen _ rfl q
  | _ => exact q.elim
/-! ### lists of ints, of truths -/
def asBools : List D → Option (List Bool)
  | [] => some []
  | .bl i :: r => match asBools r with
    | some l => some (i :: l)
    | none => none
  | _ :: _ => none
theorem asBools_ok {m : Mp} {Ω : Om} {H : Hp} : ∀ {ds : List D} {vs : List V} {ns : List Bool}, RlL K m Ω H ds vs → asBools ds = some ns → vs = ns.map V.bl
  | [], vs, ns, r, e => by unfold RlL at r; unfold asBools at e; cases e; exact r
  | d :: ds, vs, ns, r, e => by
    unfold RlL at r
    obtain ⟨v, w, ev, h1, h2⟩ := r
    cases d with
    | bl i =>
      unfold asBools at e
      cases e1 : asBools ds with
      | none => rw [e1] at e; cases e
      | some l =>
        rw [e1] at e
        cases e
        unfold Rl at h1
        rw [ev, h1, asBools_ok h2 e1]
        rfl
    | _ => unfold asBools at e; cases e
def onBools (g : List Bool → Om → Option (Rs D × Om)) : OpA := op1 fun d Ω => match asL Ω d with
  | some xs => match asBools xs with
    | some ns => g ns Ω
    | none => none
  | none => none
theorem onBools_of {g : List Bool → Om → Option (Rs D × Om)} {E : XK} {m : Mp} {Ω : Om} {H : Hp} {ds : List D} {vs : List V} {Q : VK} (c : CellsOk K m Ω H) (r : RlL K m Ω H ds vs) (q : Af K (Rl K) E Q m Ω H (onBools g ds Ω)) :
    ∃ a ns, vs = [.ref a] ∧ H a = some (.lst (ns.map V.bl)) ∧ Af K (Rl K) E Q m Ω H (g ns Ω) := by
  obtain ⟨d, v, ed, ev, h, q1⟩ := op1_of r q
  clear q
  subst ed ev
  cases e1 : asL Ω d with
  | none => rw [e1] at q1; exact q1.elim
  | some xs =>
    rw [e1] at q1
    obtain ⟨a, ws, ea, h1, h2⟩ := asL_ok c h e1
    subst ea
    dsimp only at q1
    cases e2 : asBools xs with
    | none => rw [e2] at q1; exact q1.elim
    | some ns =>
      rw [e2] at q1
      rw [asBools_ok h2 e2] at h1
      exact ⟨a, ns, rfl, h1, q1⟩
def dAll : OpA := onBools fun bs Ω => some (.ok (.bl (bs.all id)), Ω)
theorem cd_all : CallD K dAll (rAll K) := by
  intro E m Ω H ds vs Q c r q
  obtain ⟨a, ns, ev, h, q⟩ := onBools_of c r q
  exact ⟨a, ns, ev, SqL.of h, q.now c rl_bl⟩
/-! ### sorted -/
end
end Dn


set_option Elab.async false
set_option linter.all false
set_option maxRecDepth 100000
/-! DnDict: lists that change, dicts. -/
namespace Dn
open PySem L2
/-! ### methods of lists that are cells -/
abbrev OpM := D → List D → Om → Option (Rs D × Om)
/-- the n-th cell, a list -/
def cellL (Ω : Om) (n : Nat) : Option (List D) := match Ω[n]? with
  | some (.lst xs) => some xs
  | _ => none
theorem cellL_some {Ω : Om} {n : Nat} {xs : List D} (h : cellL Ω n = some xs) : Ω[n]? = some (.lst xs) := by
  unfold cellL at h
  cases e : Ω[n]? with
  | none => rw [e] at h; cases h
  | some x =>
    rw [e] at h
    cases x with
    | lst ys => cases h; rfl
    | _ => cases h
section
variable {K : PySem.W.Frag} {m : Mp} {Ω : Om} {H : Hp}
theorem cellL_ok (c : CellsOk K m Ω H) {n : Nat} {v : V} {xs : List D} (r : Rl K m Ω H (.ref n) v) (h : cellL Ω n = some xs) : ∃ a vs, v = .ref a ∧ m.l[n]? = some a ∧ Ω[n]? = some (.lst xs) ∧ H a = some (.lst vs) ∧ RlL K m Ω H xs vs := by
  have e := cellL_some h
  unfold Rl at r
  obtain ⟨a, ev, ha⟩ := r
  obtain ⟨vs, h1, h2⟩ := c.at_ n _ a e ha
  exact ⟨a, vs, ev, ha, e, h1, h2⟩
/-- a list cell is given other items -/
theorem Go.setL (c : CellsOk K m Ω H) {n : Nat} {a : Addr} {xs ys : List D} {ws : List V} (ha : m.l[n]? = some a) (e : Ω[n]? = some (.lst xs)) (r : RlL K m Ω H ys ws) : Go K m Ω H m (Ω.set n (.lst ys)) (upd H a (.lst ws)) :=
  Go.set c ha e (fun z => by cases z) fun g => ⟨ws, upd_same, RlL.go g c ys ws r⟩
end
/-! ### dicts as data -/
def valD (kvs : List (Key × D)) (k : Key) : Option D := (kvs.find? fun kv => decide (kv.1 = k)).map (·.2)
def putD (kvs : List (Key × D)) (k : Key) (v : D) : List (Key × D) :=
  if (kvs.any fun kv => decide (kv.1 = k)) = true then kvs.map (fun kv => if kv.1 = k then (kv.1, v) else kv) else kvs ++ [(k, v)]
def keyD : D → Option Key
  | .int i => some (.inl i)
  | .str x => some (.inr x)
  | _ => none
section
variable {K : PySem.W.Frag} {m : Mp} {Ω : Om} {H : Hp}
theorem keyD_ok {d : D} {v : V} {k : Key} (r : Rl K m Ω H d v) (e : keyD d = some k) : v = kV k := by
  cases d with
  | int i => cases e; unfold Rl at r; exact r
  | str i => cases e; unfold Rl at r; exact r
  | _ => cases e
theorem RlK.length : ∀ {ds : List (Key × D)} {vs : List (Key × V)}, RlK K m Ω H ds vs → ds.length = vs.length
  | [], vs, h => by unfold RlK at h; rw [h]; rfl
  | (k, d) :: ds, vs, h => by
    unfold RlK at h
    obtain ⟨v, r, e, _, h2⟩ := h
    rw [e, List.length_cons, List.length_cons, RlK.length h2]
theorem RlK.keys : ∀ {ds : List (Key × D)} {vs : List (Key × V)}, RlK K m Ω H ds vs → ds.map (·.1) = vs.map (·.1)
  | [], vs, h => by unfold RlK at h; rw [h]; rfl
  | (k, d) :: ds, vs, h => by
    unfold RlK at h
    obtain ⟨v, r, e, _, h2⟩ := h
    rw [e, List.map_cons, List.map_cons, RlK.keys h2]
theorem RlK.val : ∀ {ds : List (Key × D)} {vs : List (Key × V)} {k : Key}, RlK K m Ω H ds vs → (∃ d v, valD ds k = some d ∧ valV vs k = some v ∧ Rl K m Ω H d v) ∨ (valD ds k = none ∧ valV vs k = none)
  | [], vs, k, h => by unfold RlK at h; subst h; exact .inr ⟨rfl, rfl⟩
  | (k', d) :: ds, vs, k, h => by
    unfold RlK at h
    obtain ⟨v, r, e, h1, h2⟩ := h
    subst e
    by_cases hk : k' = k
    · exact .inl ⟨d, v, by simp [valD, List.find?_cons, hk], by simp [valV, List.find?_cons, hk], h1⟩
    · have e1 : valD ((k', d) :: ds) k = valD ds k := by simp [valD, List.find?_cons, hk]
      have e2 : valV ((k', v) :: r) k = valV r k := valV_neg hk
      rw [e1, e2]
      exact RlK.val h2
theorem RlK.append : ∀ {ds es : List (Key × D)} {vs ws : List (Key × V)}, RlK K m Ω H ds vs → RlK K m Ω H es ws → RlK K m Ω H (ds ++ es) (vs ++ ws)
  | [], es, vs, ws, h, h' => by unfold RlK at h; subst h; exact h'
  | (k, x) :: ds, es, vs, ws, h, h' => by
    unfold RlK at h
    obtain ⟨v, r, e1, h1, h2⟩ := h
    subst e1
    show RlK K m Ω H ((k, x) :: (ds ++ es)) ((k, v) :: (r ++ ws))
    unfold RlK
    exact ⟨v, _, rfl, h1, h2.append h'⟩
theorem RlK.put {ds : List (Key × D)} {vs : List (Key × V)} {k : Key} {d : D} {v : V} (h : RlK K m Ω H ds vs) (r : Rl K m Ω H d v) : RlK K m Ω H (putD ds k d) (putK vs k v) := by
  have ha : (ds.any fun kv => decide (kv.1 = k)) = (vs.any fun kv => decide (kv.1 = k)) := by
    have := h.keys
    have e1 : (ds.any fun kv => decide (kv.1 = k)) = ((ds.map (·.1)).any fun x => decide (x = k)) := by rw [List.any_map]; rfl
    have e2 : (vs.any fun kv => decide (kv.1 = k)) = ((vs.map (·.1)).any fun x => decide (x = k)) := by rw [List.any_map]; rfl
    rw [e1, e2, this]
  unfold putD putK
  rw [ha]
  split
  · have key : ∀ {ds : List (Key × D)} {vs : List (Key × V)}, RlK K m Ω H ds vs → RlK K m Ω H (ds.map fun kv => if kv.1 = k then (kv.1, d) else kv) (vs.map fun kv => if kv.1 = k then (kv.1, v) else kv) := by
      intro ds
      induction ds with
      | nil => intro vs h; unfold RlK at h; subst h; unfold RlK; rfl
      | cons p ds ih =>
        intro vs h
        obtain ⟨k', x⟩ := p
        unfold RlK at h
        obtain ⟨w, r', e, h1, h2⟩ := h
        subst e
        rw [List.map_cons, List.map_cons]
        by_cases hk : k' = k
        · simp only [hk, if_true]
          unfold RlK
          exact ⟨v, _, rfl, r, ih h2⟩
        · simp only [hk, if_false]
          unfold RlK
          exact ⟨w, _, rfl, h1, ih h2⟩
    exact key h
  · refine h.append ?_
    unfold RlK
    exact ⟨v, [], rfl, r, by unfold RlK; rfl⟩
/-- a dict, pure or a cell -/
def asK (Ω : Om) : D → Option (List (Key × D))
  | .dct kvs => some kvs
  | .ref n => match Ω[n]? with
    | some (.dct kvs) => some kvs
    | _ => none
  | _ => none
end
section
variable {X : Cx} {E : St → XK} {a b e o : Expr} {f g : Den D} {pos : Pos} {k : Nat}
end
/-! ### methods of built-in objects -/
/-- chk: what is asked of the receiver ahead of the arguments -/
def fMt (chk : D → Om → Bool) (op : OpM) (f : Den D) (r : Den (List D)) : Den D := bnd f fun x Γ Ω => if chk x Ω = true then bR (r Γ Ω) fun ds Ω1 => op x ds Ω1 else none
def MthD (K : PySem.W.Frag) (op : OpM) (rr : V → List V → Hp → VK → Prop) : Prop := ∀ (E : XK) (m : Mp) (Ω : Om) (H : Hp) (x : D) (v : V) (ds : List D) (vs : List V) (Q : VK), CellsOk K m Ω H → Rl K m Ω H x v → RlL K m Ω H ds vs → Af K (Rl K) E Q m Ω H (op x ds Ω) → rr v vs H Q
def RcvD (K : PySem.W.Frag) (T : String) (chk : D → Om → Bool) : Prop := ∀ (m : Mp) (Ω : Om) (H : Hp) (x : D) (v : V), CellsOk K m Ω H → Rl K m Ω H x v → chk x Ω = true → tyV K T v H
section
variable {X : Cx} {E : St → XK} {o e : Expr} {es : List Expr} {f : Den D} {r : Den (List D)} {apos cpos : Pos} {op : OpM} {rr : V → List V → Hp → VK → Prop} {chk : D → Om → Bool} {name : Str} {T id : String}
theorem de_bm (pa : PlainAttrs T) (slot : Slot T name id) (hty : typeOf (.builtin id) = pure (.type "method_descriptor")) (hm : MtR X id rr) (hc : RcvD X.K T chk) (hd : MthD X.K op rr) (ho : DE X E o f) (ha : DA X E (e :: es) r)
    (hbase : attributeBase o name X.env (eval o X.env) = eval o X.env := by rfl)
    (hfew : ((backTo cpos (starEach (e :: es) X.env)).all (fun x => !x.1) && (backToKw cpos (keywordEach [] X.env)).all (fun x => x.1.isSome)
      && decide ((e :: es).length + ([] : List Keyword).length + (if ([] : List Keyword).isEmpty then 0 else 1) < 30)) = true := by rfl)
    (hline : (apos.endLine == cpos.line) = true := by rfl) (hs : starEach (e :: es) X.env = (false, eval e X.env) :: starEach es X.env := by rfl) (hplain : (backTo cpos (starEach es X.env)).any (·.1) = false := by rfl) :
    DE X E (.Call (.Attribute o name apos) (e :: es) [] cpos) (fMt chk op f r) := PE.mono (pe_bm pa slot hty hm ho ha hbase hfew hline hs hplain) fun σ H Q h => by
  obtain ⟨m, Γ, Ω, s, h⟩ := h
  refine ⟨m, Γ, Ω, s, (Af.bind (R := Rl X.K) h).imp fun _ _ _ _ _ _ _ _ ⟨m1, Ω1, x, g1, r1, q⟩ => ?_⟩
  obtain ⟨hk, q⟩ := Af.guard q
  refine ⟨hc m1 Ω1 _ x _ g1.ok r1 hk, m1, Γ, Ω1, s.go g1, (Af.bind (R := RlL X.K) q).imp fun _ _ _ _ _ _ _ _ ⟨m2, Ω2, ds, g2, r2, q2⟩ => ?_⟩
  exact hd (E σ) m2 Ω2 _ x _ ds _ Q g2.ok (Rl.go g2.toGw g1.ok x _ r1) r2 q2
end
section
variable {K : PySem.W.Frag} {X : Cx}
def chkL (x : D) (Ω : Om) : Bool := match x with
  | .ref n => (cellL Ω n).isSome
  | _ => false
theorem rc_list : RcvD K "list" chkL := by
  intro m Ω H x v c r h
  cases x with
  | ref n =>
    obtain ⟨xs, e⟩ := Option.isSome_iff_exists.mp (show (cellL Ω n).isSome = true from h)
    obtain ⟨a, vs, ev, _, _, h1, _⟩ := cellL_ok c r e
    subst ev
    exact .inl ⟨rfl, vs, SqL.of h1⟩
  | _ => cases h
def mAppend : OpM := fun x ds Ω => match x with
  | .ref n => match cellL Ω n with
    | some xs => match ds with
      | [y] => if xs.length < 100000 then some (.ok .non, Ω.set n (.lst (xs ++ [y]))) else none
      | _ => none
    | none => none
  | _ => none
theorem md_append : MthD K mAppend rAppend := by
  intro E m Ω H x v ds vs Q c r rs q
  cases x with
  | ref n =>
    unfold mAppend at q
    dsimp only at q
    cases e : cellL Ω n with
    | none => rw [e] at q; exact q.elim
    | some xs =>
      rw [e] at q
      obtain ⟨a, ws, ev, ha, eΩ, h1, h2⟩ := cellL_ok c r e
      match ds, q, rs with
      | [y], q, rs =>
        obtain ⟨hz, q⟩ := Af.guard q
        obtain ⟨w, ew, hw⟩ := rs.single
        exact ⟨a, ws, w, ev, ew, h1, by rw [← h2.length]; exact Nat.lt_of_lt_of_le hz (by decide), q m _ _ (Go.setL c ha eΩ (h2.append (RlL.one hw))) (by unfold Rl; rfl)⟩
      | [], q, _ => exact q.elim
      | _ :: _ :: _, q, _ => exact q.elim
  | _ => exact q.elim
def mExtend : OpM := fun x ds Ω => match x with
  | .ref n => match cellL Ω n with
    | some xs => match ds with
      | [y] => match asL Ω y with
        | some ys => if xs.length + ys.length ≤ 100000 then some (.ok .non, Ω.set n (.lst (xs ++ ys))) else none
        | none => none
      | _ => none
    | none => none
  | _ => none
theorem md_extend : MthD K mExtend rExtend := by
  intro E m Ω H x v ds vs Q c r rs q
  cases x with
  | ref n =>
    unfold mExtend at q
    dsimp only at q
    cases e : cellL Ω n with
    | none => rw [e] at q; exact q.elim
    | some xs =>
      rw [e] at q
      obtain ⟨a, ws, ev, ha, eΩ, h1, h2⟩ := cellL_ok c r e
      match ds, q, rs with
      | [y], q, rs =>
        dsimp only at q
        cases e2 : asL Ω y with
        | none => rw [e2] at q; exact q.elim
        | some ys =>
          rw [e2] at q
          obtain ⟨hz, q⟩ := Af.guard q
          obtain ⟨w, ew, hw⟩ := rs.single
          obtain ⟨b, us, eb, h3, h4⟩ := asL_ok c hw e2
          subst eb
          exact ⟨a, b, ws, us, ev, ew, h1, h3, by rw [← h2.length, ← h4.length]; exact sz hz, q m _ _ (Go.setL c ha eΩ (h2.append h4)) (by unfold Rl; rfl)⟩
      | [], q, _ => exact q.elim
      | _ :: _ :: _, q, _ => exact q.elim
  | _ => exact q.elim
end
section
variable {X : Cx} {E : St → XK} {o e : Expr} {f g : Den D} {r : Den (List D)} {apos cpos : Pos}
theorem de_append (ho : DE X E o f) (ha : DA X E [e] r) (hbase : attributeBase o "append" X.env (eval o X.env) = eval o X.env := by rfl)
    (hfew : ((backTo cpos (starEach [e] X.env)).all (fun x => !x.1) && (backToKw cpos (keywordEach [] X.env)).all (fun x => x.1.isSome) && decide ([e].length + ([] : List Keyword).length + (if ([] : List Keyword).isEmpty then 0 else 1) < 30)) = true := by rfl)
    (hline : (apos.endLine == cpos.line) = true := by rfl) (hs : starEach [e] X.env = (false, eval e X.env) :: starEach [] X.env := by rfl) (hplain : (backTo cpos (starEach [] X.env)).any (·.1) = false := by rfl) : DE X E (.Call (.Attribute o "append" apos) [e] [] cpos) (fMt chkL mAppend f r) :=
  de_bm PySem.F.plainAttrs_list PySem.F.slot_list_append PySem.F.type_list_append mt_append rc_list md_append ho ha hbase hfew hline hs hplain
theorem de_extend (ho : DE X E o f) (ha : DA X E [e] r) (hbase : attributeBase o "extend" X.env (eval o X.env) = eval o X.env := by rfl)
    (hfew : ((backTo cpos (starEach [e] X.env)).all (fun x => !x.1) && (backToKw cpos (keywordEach [] X.env)).all (fun x => x.1.isSome) && decide ([e].length + ([] : List Keyword).length + (if ([] : List Keyword).isEmpty then 0 else 1) < 30)) = true := by rfl)
    (hline : (apos.endLine == cpos.line) = true := by rfl) (hs : starEach [e] X.env = (false, eval e X.env) :: starEach [] X.env := by rfl) (hplain : (backTo cpos (starEach [] X.env)).any (·.1) = false := by rfl) : DE X E (.Call (.Attribute o "extend" apos) [e] [] cpos) (fMt chkL mExtend f r) :=
  de_bm PySem.F.plainAttrs_list PySem.F.slot_list_extend PySem.F.type_list_extend mt_extend rc_list md_extend ho ha hbase hfew hline hs hplain
end
/-! ### o[i] = e on a list cell -/
def setIx (x y d : D) (Ω : Om) : Option Om := match x with
  | .ref n => match cellL Ω n with
    | some xs => match y with
      | .int i => match ixN xs.length i with
        | some j => some (Ω.set n (.lst (xs.set j d)))
        | none => none
      | _ => none
    | none => none
  | _ => none
def sSetIx (fo fi fe : Den D) : DenS := fun Γ Ω => eS (fe Γ Ω) Γ fun d Ω1 => eS (fo Γ Ω1) Γ fun x Ω2 => eS (fi Γ Ω2) Γ fun y Ω3 => match setIx x y d Ω3 with
  | some Ω4 => some (.nx, Γ, Ω4)
  | none => none
section
variable {K : PySem.W.Frag} {m : Mp} {Ω : Om} {H : Hp}
theorem setIx_ok (c : CellsOk K m Ω H) {x y d : D} {vx vy vd : V} {Ω' : Om} (rx : Rl K m Ω H x vx) (ry : Rl K m Ω H y vy) (rd : Rl K m Ω H d vd) (e : setIx x y d Ω = some Ω') {Q : Hp → Prop} (q : ∀ H', Go K m Ω H m Ω' H' → Q H') : rSetL vx vy vd H Q := by
  cases x with
  | ref n =>
    unfold setIx at e
    dsimp only at e
    cases e1 : cellL Ω n with
    | none => rw [e1] at e; cases e
    | some xs =>
      rw [e1] at e
      obtain ⟨a, ws, ev, ha, eΩ, h1, h2⟩ := cellL_ok c rx e1
      cases y with
      | int i =>
        dsimp only at e
        cases e2 : ixN xs.length i with
        | none => rw [e2] at e; cases e
        | some j =>
          rw [e2] at e
          cases e
          unfold Rl at ry
          exact ⟨a, ws, i, j, ev, ry, h1, by rw [← h2.length]; exact e2, q _ (Go.setL c ha eΩ (h2.set j rd))⟩
      | _ => cases e
  | _ => cases e
end
section
variable {X : Cx} {E : St → XK} {o i e : Expr} {fo fi fe : Den D} {pos tpos : Pos}
theorem ds_setix (he : DE X E e fe) (ho : DE X E o fo) (hi : DE X E i fi)
    (ha : ∀ v, assign (.Subscript o i tpos) X.env v = (do
      let ov ← holding [v] (eval o X.env)
      let iv ← holding [v, ov] (eval i X.env)
      standAt tpos
      holding [v, ov, iv] (setItem ov iv v)
      release [v, ov, iv] []) := by intro _; rfl)
    (hs : swapsWithSole [.Subscript o i tpos] e pos.line X.env = pure false := by rfl) (hw : swappedStores [.Subscript o i tpos] e X.env = pure none := by rfl)
    (h1 : (assignEach [.Subscript o i tpos] X.env).map (·.2) = [assign (.Subscript o i tpos) X.env] := by rfl) : DS X E (.Assign [.Subscript o i tpos] e pos) (sSetIx fo fi fe) :=
  PS.mono (ps_asg he (pg_sub ho hi set_list ha) hs hw h1) fun D σ H h => by
    obtain ⟨m, Γ, Ω, s, h⟩ := h
    refine ⟨m, Γ, Ω, s, (AfS.val s.slots s.cells h).imp fun _ _ _ _ _ _ _ _ ⟨m1, Ω1, d, g1, r1, q⟩ => ?_⟩
    refine ⟨m1, Γ, Ω1, s.go g1, (AfS.val (s.go g1).slots g1.ok q).imp fun _ _ _ _ _ _ _ _ ⟨m2, Ω2, x, g2, r2, q2⟩ => ?_⟩
    refine ⟨m2, Γ, Ω2, (s.go g1).go g2, (AfS.val ((s.go g1).go g2).slots g2.ok q2).imp fun _ _ _ _ _ _ _ _ ⟨m3, Ω3, y, g3, r3, q3⟩ => ?_⟩
    cases e4 : setIx x y d Ω3 with
    | none => rw [e4] at q3; exact q3.elim
    | some Ω4 =>
      rw [e4] at q3
      exact setIx_ok g3.ok (Rl.go g3.toGw g2.ok x _ r2) r3 (Rl.go (g2.trans g3).toGw g1.ok d _ r1) e4 fun H' g => q3 m3 σ H' g (((((s.go g1).go g2).go g3).go g).slots)
/-- o[i], x = e, e a new pair (divmod) -/
def sSetPair (fo fi : Den D) (j : Nat) (fe : Den D) : DenS := fun Γ Ω => eS (fe Γ Ω) Γ fun d Ω1 => match d with
  | .tup ds => match ds with
    | [d1, d2] => eS (fo Γ Ω1) Γ fun x Ω2 => eS (fi Γ Ω2) Γ fun y Ω3 => match setIx x y d1 Ω3 with
      | some Ω4 => some (.nx, Γ.set j (some d2), Ω4)
      | none => none
    | _ => none
  | _ => none
theorem ds_setpair (j : Nat) {x : Str} {k : Nat} {px ppos : Pos} (hc : X.calm = true) (hN : X.N.Nodup) (he : DE X E e fe) (ho : DE X E o fo) (hi : DE X E i fi)
    (hj : X.N[j]? = some x := by rfl) (hx : Loc X.env.scope x := by first | exact Or.inl rfl | exact Or.inr rfl) (hf : X.fn x = true ∨ X.env.scope.names.lookup x = some .local := by first | exact .inl rfl | exact .inr rfl | assumption)
    (ha : ∀ v, assign (.Subscript o i tpos) X.env v = (do
      let ov ← holding [v] (eval o X.env)
      let iv ← holding [v, ov] (eval i X.env)
      standAt tpos
      holding [v, ov, iv] (setItem ov iv v)
      release [v, ov, iv] []) := by intro _; rfl)
    (hs : swapsWithSole [.Tuple [.Subscript o i tpos, .Name x px] k ppos] e pos.line X.env = pure false := by rfl) (hw : swappedStores [.Tuple [.Subscript o i tpos, .Name x px] k ppos] e X.env = pure none := by rfl)
    (h1 : (assignEach [.Tuple [.Subscript o i tpos, .Name x px] k ppos] X.env).map (·.2) = [assign (.Tuple [.Subscript o i tpos, .Name x px] k ppos) X.env] := by rfl)
    (hn : (assignEach [.Subscript o i tpos, .Name x px] X.env).length = 2 := by rfl) (hst : (assignEach [.Subscript o i tpos, .Name x px] X.env).findIdx? (·.1) = none := by rfl)
    (hs1 : (assignEach [.Subscript o i tpos, .Name x px] X.env).map (·.2) = assign (.Subscript o i tpos) X.env :: (assignEach [.Name x px] X.env).map (·.2) := by rfl) (hs2 : (assignEach [.Name x px] X.env).map (·.2) = assign (.Name x px) X.env :: (assignEach [] X.env).map (·.2) := by rfl) :
    DS X E (.Assign [.Tuple [.Subscript o i tpos, .Name x px] k ppos] e pos) (sSetPair fo fi j fe) :=
  PS.mono (ps_asg he (pg_tup hc (pgs_cons (pg_sub ho hi set_list ha) (pgs_cons (pg_name (i := j) hN hj hx hf) pgs_nil hs2) hs1) hn hst) hs hw h1) fun D σ H h => by
    obtain ⟨m, Γ, Ω, s, h⟩ := h
    refine ⟨m, Γ, Ω, s, (AfS.val s.slots s.cells h).imp fun _ _ _ _ _ _ _ _ ⟨m1, Ω1, d, g1, r1, q⟩ => ?_⟩
    cases d with
    | tup ds =>
      match ds, q, r1 with
      | [d1, d2], q, r1 =>
        unfold Rl at r1
        obtain ⟨a, ws, ev, h3, h4⟩ := r1
        obtain ⟨v1, v2, ew, z1, z2⟩ := h4.two
        subst ew
        refine ⟨a, [v1, v2], ev, h3.sq, rfl, v1, [v2], rfl, ?_⟩
        refine ⟨m1, Γ, Ω1, s.go g1, (AfS.val (s.go g1).slots g1.ok q).imp fun _ _ _ _ _ _ _ _ ⟨m2, Ω2, x, g2, r2, q2⟩ => ?_⟩
        refine ⟨m2, Γ, Ω2, (s.go g1).go g2, (AfS.val ((s.go g1).go g2).slots g2.ok q2).imp fun _ _ _ _ _ _ _ _ ⟨m3, Ω3, y, g3, r3, q3⟩ => ?_⟩
        cases e4 : setIx x y d1 Ω3 with
        | none => rw [e4] at q3; exact q3.elim
        | some Ω4 =>
          rw [e4] at q3
          refine setIx_ok g3.ok (Rl.go g3.toGw g2.ok x _ r2) r3 (Rl.go (g2.trans g3).toGw g1.ok d1 _ z1) e4 fun H' g => ⟨v2, [], rfl, rfl, ?_⟩
          exact q3 m3 _ H' g ((((((s.go g1).go g2).go g3).go g).slots).set (Rl.go ((g2.trans g3).trans g).toGw g1.ok d2 _ z2))
      | [], q, _ => exact q.elim
      | [_], q, _ => exact q.elim
      | _ :: _ :: _ :: _, q, _ => exact q.elim
    | _ => exact q.elim
end
end Dn


set_option Elab.async false
set_option linter.all false
set_option maxRecDepth 100000
/-! DnObj: own classes: attributes, methods, making, isinstance. -/
namespace Dn
open PySem L2
/-- the class named c -/
abbrev cad (K : PySem.W.Frag) (c : Str) : Addr := He.ga K c
/-- the attributes of an object of the class c, pure or a cell -/
def asO (c : Str) (Ω : Om) : D → Option (List (Str × D))
  | .obj c' fs => if c' = c then some fs else none
  | .ref n => match Ω[n]? with
    | some (.ins c' fs) => if c' = c then some fs else none
    | _ => none
  | _ => none
def lkF (fs : List (Str × D)) (f : Str) : Option D := fs.lookup f
section
variable {K : PySem.W.Frag} {m : Mp} {Ω : Om} {H : Hp}
theorem asO_ok (cc : CellsOk K m Ω H) {c : Str} {d : D} {v : V} {fs : List (Str × D)} (r : Rl K m Ω H d v) (e : asO c Ω d = some fs) : ∃ a dx gs, v = .ref a ∧ H a = some (.ins (cad K c) dx gs) ∧ RlF K m Ω H fs gs := by
  cases d with
  | obj c' ys =>
    unfold Rl at r
    unfold asO at e
    dsimp only at e
    by_cases h : c' = c
    · rw [if_pos h] at e
      cases (Option.some.inj e)
      subst h
      obtain ⟨a, dx, vs, e1, h1, _, h2⟩ := r
      exact ⟨a, dx, vs, e1, h1, h2⟩
    · rw [if_neg h] at e; cases e
  | ref n =>
    unfold Rl at r
    obtain ⟨a, e1, h1⟩ := r
    unfold asO at e
    dsimp only at e
    cases q : Ω[n]? with
    | none => rw [q] at e; cases e
    | some x =>
      rw [q] at e
      cases x with
      | ins c' ys =>
        dsimp only at e
        by_cases h : c' = c
        · rw [if_pos h] at e
          cases (Option.some.inj e)
          subst h
          obtain ⟨dx, vs, h2, h3⟩ := cc.at_ n _ a q h1
          exact ⟨a, dx, vs, e1, h2, h3⟩
        · rw [if_neg h] at e; cases e
      | _ => cases e
  | _ => cases e
theorem RlF.lookup : ∀ {fs : List (Str × D)} {gs : List (Str × V)} {f : Str}, RlF K m Ω H fs gs → (∃ d v, fs.lookup f = some d ∧ gs.lookup f = some v ∧ Rl K m Ω H d v) ∨ (fs.lookup f = none ∧ gs.lookup f = none)
  | [], gs, f, h => by unfold RlF at h; subst h; exact .inr ⟨rfl, rfl⟩
  | (k, d) :: fs, gs, f, h => by
    unfold RlF at h
    obtain ⟨v, r, e, h1, h2⟩ := h
    subst e
    by_cases hk : f = k
    · have hb : (f == k) = true := beq_iff_eq.mpr hk
      exact .inl ⟨d, v, by simp only [List.lookup, hb], by simp only [List.lookup, hb], h1⟩
    · have hb : (f == k) = false := beq_eq_false_iff_ne.mpr hk
      simp only [List.lookup, hb]
      exact RlF.lookup h2
def putFD (f : Str) (v : D) : List (Str × D) → List (Str × D)
  | [] => [(f, v)]
  | (g, x) :: r => if g = f then (g, v) :: r else (g, x) :: putFD f v r
theorem RlF.put {f : Str} {d : D} {v : V} (hd : Rl K m Ω H d v) : ∀ {fs : List (Str × D)} {gs : List (Str × V)}, RlF K m Ω H fs gs → RlF K m Ω H (putFD f d fs) (putF f v gs)
  | [], gs, h => by
    unfold RlF at h
    subst h
    unfold putFD putF RlF
    exact ⟨v, [], rfl, hd, by unfold RlF; rfl⟩
  | (k, x) :: fs, gs, h => by
    unfold RlF at h
    obtain ⟨w, r, e, h1, h2⟩ := h
    subst e
    unfold putFD putF
    by_cases hk : k = f
    · rw [if_pos hk, if_pos hk]
      unfold RlF
      exact ⟨v, r, rfl, hd, h2⟩
    · rw [if_neg hk, if_neg hk]
      unfold RlF
      exact ⟨w, _, rfl, h1, RlF.put hd h2⟩
theorem RlF.length : ∀ {fs : List (Str × D)} {gs : List (Str × V)}, RlF K m Ω H fs gs → fs.length = gs.length
  | [], gs, h => by unfold RlF at h; subst h; rfl
  | (k, x) :: fs, gs, h => by
    unfold RlF at h
    obtain ⟨w, r, e, h1, h2⟩ := h
    subst e
    rw [List.length_cons, List.length_cons, RlF.length h2]
end
/-- e.f -/
def dFld (c f : Str) : Op1 := fun x Ω => match asO c Ω x with
  | some fs => match fs.lookup f with
    | some d => some (.ok d, Ω)
    | none => none
  | none => none
section
variable {X : Cx} {E : St → XK} {e o : Expr} {es : List Expr} {fo : Den D} {r : Den (List D)} {pos apos : Pos} {c f mt : Str} {k : Nat} {ps : List Str} {F : FD}
theorem de_fld (hc : Cls X.K (cad X.K c)) (hn : NoAttr X.K (cad X.K c) f) (he : DE X E e fo) (hb : attributeBase e f X.env (eval e X.env) = eval e X.env := by rfl) : DE X E (.Attribute e f pos) (fUn (dFld c f) fo) := PE.mono (pe_fld he hb) fun σ H Q h => by
  obtain ⟨m, Γ, Ω, s, h⟩ := h
  refine ⟨m, Γ, Ω, s, (Af.bind (R := Rl X.K) h).imp fun _ _ _ _ _ _ _ _ ⟨m1, Ω1, x, g1, r1, q⟩ => ?_⟩
  unfold dFld at q
  dsimp only at q
  cases e1 : asO c Ω1 x with
  | none => rw [e1] at q; exact q.elim
  | some fs =>
    rw [e1] at q
    dsimp only at q
    obtain ⟨a, dx, gs, ev, h1, h2⟩ := asO_ok g1.ok r1 e1
    rcases h2.lookup (f := f) with ⟨d, v, z1, z2, z3⟩ | ⟨z1, z2⟩
    · rw [z1] at q
      exact ⟨a, _, dx, gs, v, ev, h1, hc, hn, z2, q.now g1.ok z3⟩
    · rw [z1] at q
      exact q.elim
/-- self.f = e, self a cell -/
def sFldSet (c f : Str) (fo fe : Den D) : DenS := fun Γ Ω => eS (fe Γ Ω) Γ fun d Ω1 => eS (fo Γ Ω1) Γ fun x Ω2 => match x with
  | .ref n => match asO c Ω2 (.ref n) with
    | some fs => if fs.length < 1000 then some (.nx, Γ, Ω2.set n (.ins c (putFD f d fs))) else none
    | none => none
  | _ => none
theorem cellO_ok {K : PySem.W.Frag} {m : Mp} {Ω : Om} {H : Hp} (cc : CellsOk K m Ω H) {c : Str} {n : Nat} {v : V} {fs : List (Str × D)} (r : Rl K m Ω H (.ref n) v) (e : asO c Ω (.ref n) = some fs) : ∃ a dx gs, v = .ref a ∧ m.l[n]? = some a ∧ Ω[n]? = some (.ins c fs) ∧ H a = some (.ins (cad K c) dx gs) ∧ RlF K m Ω H fs gs := by
  unfold Rl at r
  obtain ⟨a, e1, h1⟩ := r
  unfold asO at e
  dsimp only at e
  cases q : Ω[n]? with
  | none => rw [q] at e; cases e
  | some x =>
    rw [q] at e
    cases x with
    | ins c' ys =>
      dsimp only at e
      by_cases h : c' = c
      · rw [if_pos h] at e
        cases (Option.some.inj e)
        subst h
        obtain ⟨dx, vs, h2, h3⟩ := cc.at_ n _ a q h1
        exact ⟨a, dx, vs, e1, h1, rfl, h2, h3⟩
      · rw [if_neg h] at e; cases e
    | _ => cases e
theorem ds_fld {fe : Den D} {pos' : Pos} {value : Expr} (hc : Cls X.K (cad X.K c)) (hn : NoAttr X.K (cad X.K c) f) (ho : DE X E o fo) (hv : DE X E value fe) (hs : swapsWith value (some (.Attribute o f pos')) pos.line X.env = pure false := by rfl) :
    DS X E (.Assign [.Attribute o f pos'] value pos) (sFldSet c f fo fe) := PS.mono (ps_fld ho hv hs) fun D σ H h => by
  obtain ⟨m, Γ, Ω, s, h⟩ := h
  refine ⟨m, Γ, Ω, s, (AfS.val s.slots s.cells h).imp fun _ _ _ _ _ _ _ _ ⟨m1, Ω1, d, g1, r1, q⟩ => ?_⟩
  refine ⟨m1, Γ, Ω1, s.go g1, (AfS.val (s.go g1).slots g1.ok q).imp fun _ _ _ _ _ _ _ _ ⟨m2, Ω2, x, g2, r2, q2⟩ => ?_⟩
  cases x with
  | ref n =>
    dsimp only at q2
    cases e1 : asO c Ω2 (.ref n) with
    | none => rw [e1] at q2; exact q2.elim
    | some fs =>
      rw [e1] at q2
      dsimp only at q2
      by_cases hz : fs.length < 1000
      · rw [if_pos hz] at q2
        obtain ⟨a, dx, gs, ev, ha, eΩ, h1, h2⟩ := cellO_ok g2.ok r2 e1
        refine ⟨a, _, dx, gs, ev, h1, hc, hn, by rw [← h2.length]; exact hz, ?_⟩
        have g3 : Go X.K m2 Ω2 _ m2 (Ω2.set n (.ins c (putFD f d fs))) _ := Go.set g2.ok ha eΩ (fun z => by cases z) (o := .ins (cad X.K c) dx (putF f _ gs)) fun g => ⟨dx, _, upd_same, RlF.go g g2.ok _ _ (RlF.put (Rl.go g2.toGw g1.ok d _ r1) h2)⟩
        exact q2 m2 σ _ g3 ((((s.go g1).go g2).go g3).slots)
      · rw [if_neg hz] at q2; exact q2.elim
  | _ => exact q2.elim

/-! ### methods -/
/-- the class c has the method mt with this denotation -/
structure MtG (P : Program) (w : World) (K : PySem.W.Frag) (mg : Str → Option Value) (base : Heap) (c mt : Str) (ps : List Str) (k : Nat) (F : FD) : Prop where
  ex : ∃ f fd, Meth K (cad K c) mt f ∧ FnOkG P w K mg base (L2N.CX P w) k f fd ps (spD K ps.length F) ∧ Binds K fd ps []
def fMeth (c mt : Str) (n : Nat) (F : FD) (fo : Den D) (r : Den (List D)) : Den D := bnd fo fun x Γ Ω => match asO c Ω x with
  | some fs => match fs.lookup mt with
    | none => bR (r Γ Ω) fun ds Ω1 => if (x :: ds).length = n then F (x :: ds) Ω1 else none
    | some _ => none
  | none => none
theorem meth_of {σ : St} {H : Hp} {Q : VK} {tr : TA} (h : tD X.K E (fMeth c mt ps.length F fo r) σ H Q) :
    tD X.K E fo σ H fun x H1 => ∃ a dx fs, x = .ref a ∧ H1 a = some (.ins (cad X.K c) dx fs) ∧ fs.lookup mt = none ∧ tDA X.K E r σ H1 fun vs H2 => spD X.K ps.length F (x :: vs) H2 Q (E σ) := by
  obtain ⟨m, Γ, Ω, s, h⟩ := h
  refine ⟨m, Γ, Ω, s, (Af.bind (R := Rl X.K) h).imp fun _ _ _ _ _ _ _ _ ⟨m1, Ω1, x, g1, r1, q⟩ => ?_⟩
  dsimp only at q
  cases e1 : asO c Ω1 x with
  | none => rw [e1] at q; exact q.elim
  | some fs =>
    rw [e1] at q
    dsimp only at q
    obtain ⟨a, dx, gs, ev, h1, h2⟩ := asO_ok g1.ok r1 e1
    rcases h2.lookup (f := mt) with ⟨d, v, z1, z2, z3⟩ | ⟨z1, z2⟩
    · rw [z1] at q; exact q.elim
    · rw [z1] at q
      refine ⟨a, dx, gs, ev, h1, z2, m1, Γ, Ω1, s.go g1, (Af.bind (R := RlL X.K) q).imp fun _ _ _ _ _ _ _ _ ⟨m2, Ω2, ds, g2, r2, q2⟩ => ?_⟩
      refine sp_of (ds := x :: ds) g2.ok ?_ q2
      unfold RlL
      exact ⟨_, _, rfl, Rl.go g2.toGw g1.ok x _ r1, r2⟩
theorem de_meth {pl : Sem Bool} (hc : Cls X.K (cad X.K c)) (G : MtG X.prog X.w X.K X.mg X.base c mt ps k F) (hr : RoomG k X.A) (hx : ∀ σ, PassesAt (L2N.CX X.prog X.w) X σ (E σ)) (ho : DE X E o fo) (ha : DA X E (e :: es) r)
    (hst : starEach (e :: es) X.env = (false, eval e X.env) :: starEach es X.env := by rfl) (hpl : (backTo pos (starEach es X.env)).any (·.1) = false := by rfl)
    (ht : eval (.Call (.Attribute o mt apos) (e :: es) [] pos) X.env = (do
      let ov ← eval o X.env
      standAt apos.atName
      let (f, first) ← holding [ov] (getMethod ov mt pl)
      callWith pos f first (backTo pos (starEach (e :: es) X.env)) (backToKw pos (keywordEach [] X.env))) := by rfl) :
    DE X E (.Call (.Attribute o mt apos) (e :: es) [] pos) (fMeth c mt ps.length F fo r) := by
  obtain ⟨f, fd, hm, ok, bi⟩ := G.ex
  refine ⟨fun pins s σ H Q I h => ?_⟩
  have h2 := meth_of (tr := tNil) h
  refine PySem.W.methodCall_KW (pl := pl) (thn (ho.run pins s σ H _ I h2) fun u s1 ⟨x, H1, I1, rx, a, dx, fs, ex, ea, l, q⟩ => ?_) ht
  subst ex
  obtain rfl : u = Value.ref a := rx
  refine getmeth_ok I1 ea hc hm l ?_
  refine PySem.W.callWith_K (first := [.ref a]) (h₀ := X.base) I.ok.mod.kin hm.kp (thn (ha.run pos pins s1 σ H1 _ I1 q) fun us s2 ⟨vs, H2, I2, r, q2⟩ => ⟨I2.kIn, ?_⟩) hst hpl
  exact run_fnG (E := E) (us := .ref a :: us) (vs := .ref a :: vs) ok hr bi (hx σ) I2 (.cons rfl r) q2
/-! ### making -/
structure MkG (P : Program) (w : World) (K : PySem.W.Frag) (mg : Str → Option Value) (base : Heap) (c : Str) (ps : List Str) (k : Nat) (F : FD) : Prop where
  ex : ∃ f fd, Mk K (cad K c) f ∧ mg c = some (.ref (cad K c)) ∧ FnOkG P w K mg base (L2N.CX P w) k f fd ps (spD K ps.length F) ∧ Binds K fd ps []
/-- C(..): the new instance is a cell while __init__ runs, then pure -/
def mkD (c : Str) (n : Nat) (F : FD) (ds : List D) (Ω : Om) : Option (Rs D × Om) := if ds.length + 1 = n then match F (.ref Ω.length :: ds) (Ω ++ [.ins c []]) with
  | none => none
  | some (.ok d, Ω') => match d with
    | .non => if below Ω.length (frz Ω.length Ω' (.ref Ω.length)) = true ∧ cellsBelow Ω.length Ω' = true then some (.ok (frz Ω.length Ω' (.ref Ω.length)), Ω'.take Ω.length) else none
    | _ => none
  | some (.ex e, Ω') => if belowF Ω.length e.fs = true ∧ cellsBelow Ω.length Ω' = true then some (.ex e, Ω'.take Ω.length) else none
  else none
def fMake (c : Str) (n : Nat) (F : FD) (r : Den (List D)) : Den D := bnd r fun ds _ Ω => mkD c n F ds Ω
theorem make_of {n : Nat} {E : XK} {m : Mp} {Ω : Om} {H : Hp} {ds : List D} {vs : List V} {Q : VK} {K : PySem.W.Frag} (cc : CellsOk K m Ω H) (rr : RlL K m Ω H ds vs) (q : Af K (Rl K) E Q m Ω H (mkD c n F ds Ω)) (x dx : Addr) (hx : H x = none) (hdx : H dx = none) (hne : dx ≠ x) :
    spD K n F (.ref x :: vs) (upd (upd H dx (.own x)) x (.ins (cad K c) dx [])) (fun v H2 => v = .non ∧ Q (.ref x) H2) E := by
  obtain ⟨hl, q⟩ := Af.guard q
  have g1 : Go K m Ω H m Ω (upd H dx (.own x)) := Go.new cc hdx
  have hx1 : upd H dx (.own x) x = none := by rw [upd_ne (Ne.symm hne)]; exact hx
  have g2 : Go K m Ω _ (m.add x) (Ω ++ [.ins c []]) (upd (upd H dx (.own x)) x (.ins (cad K c) dx [])) := Go.cell g1.ok hx1 fun g => ⟨dx, [], upd_same, by unfold RlF; rfl⟩
  have g := g1.trans g2
  refine ⟨by rw [List.length_cons, ← rr.length]; exact hl, m.add x, Ω ++ [.ins c []], .ref Ω.length :: ds, g2.ok, ?_, ?_⟩
  · unfold RlL
    exact ⟨_, _, rfl, rl_last cc, RlL.go g.toGw cc _ _ rr⟩
  · cases e : F (.ref Ω.length :: ds) (Ω ++ [.ins c []]) with
    | none => rw [e] at q; exact q
    | some z =>
      obtain ⟨rs, Ω'⟩ := z
      rw [e] at q
      have hlen : m.l.length = Ω.length := cc.len
      cases rs with
      | ex e =>
        obtain ⟨⟨b1, b2⟩, q⟩ := Af.guard q
        intro m' H' cls dd g3 r3
        exact q (Mp.take Ω.length m') H' cls dd (Go.take (g.trans g3) (by rw [hlen]; exact Nat.le_refl _) b2) (r3.take b1)
      | ok d =>
        cases d with
        | non =>
          obtain ⟨⟨b1, b2⟩, q⟩ := Af.guard q
          intro m' v H' g3 r3
          unfold Rl at r3
          refine ⟨r3, ?_⟩
          have rx : Rl K m' Ω' H' (.ref Ω.length) (.ref x) := Rl.go g3.toGw g2.ok _ _ (rl_last cc)
          exact q (Mp.take Ω.length m') _ H' (Go.take (g.trans g3) (by rw [hlen]; exact Nat.le_refl _) b2) (frz_ok g3.ok rx b1)
        | _ => exact q.elim
theorem run_makeS {pins : List (Addr × Obj)} {σ : St} {H : Hp} {s : Shared} {Q : VK} {us : List Value} {vs : List V} {C f : Addr} {fd : FuncData} {sp : Sp} {CX : CXT} (M : Mk X.K C f) (F : FnOkG X.prog X.w X.K X.mg X.base CX k f fd ps sp) (hr : RoomG (k + 1) X.A) (hb : Binds X.K fd ps [])
    (hx : PassesAt CX X σ (E σ)) (I : Inv X pins σ H s) (r : Vals vs us)
    (h : ∀ x dx, H x = none → H dx = none → dx ≠ x → sp (.ref x :: vs) (upd (upd H dx (.own x)) x (.ins C dx [])) (fun v H2 => v = .non ∧ Q (.ref x) H2) (E σ)) :
    wpAny (model X.prog X.w) X.A (call (.ref C) us) (EP X pins σ Q) X.xe s := by
  have hq := h (s.heap.objs.size + 1) s.heap.objs.size (I.hok.fresh (Nat.le_succ _)) (I.hok.fresh (Nat.le_refl _)) (Nat.ne_of_lt (Nat.lt_succ_self _))
  have I2 := Inv.made (C := C) I
  have r2 : Vals (V.ref (s.heap.objs.size + 1) :: vs) (Value.ref (s.heap.objs.size + 1) :: us) := .cons rfl r
  have hl : (Value.ref (s.heap.objs.size + 1) :: us).length = ps.length := by
    have e := r2.length
    rw [F.len _ _ _ _ hq] at e
    exact e.symm
  have b := hb { s with heap := (s.heap.push PySem.W.emptyDict).push (PySem.W.instObj C s.heap.objs.size) } (Value.ref (s.heap.objs.size + 1) :: us) I2.kIn (by rw [List.append_nil]; exact hl)
  rw [List.append_nil] at b
  refine wpAny_call (make_map (f := f) I.kIn M.makes M.init (beq_iff_eq.mp M.fn) (codeAny_mono (F.run _ X.stack _ _ ⟨Value.ref (s.heap.objs.size + 1) :: us, []⟩ (Value.ref (s.heap.objs.size + 1) :: us) _ _ (E σ) (hr.make C us [])
    (I2.env0.make C us []) b r2 hq) fun r s' hq' => ?_))
  cases r with
  | error e => exact hx pins _ _ e s' I2 hq'
  | ok fl =>
    cases fl with
    | ret u =>
      obtain ⟨v, H', I3, rv, ev, q3⟩ := I2.after hq'
      subst ev
      exact ⟨rv, ⟨V.ref (s.heap.objs.size + 1), H', I3, rfl, q3⟩⟩
    | next => exact False.elim hq'
    | brk => exact False.elim hq'
    | cont => exact False.elim hq'
theorem de_make {p : Pos} (G : MkG X.prog X.w X.K X.mg X.base c ps k F) (hr : RoomG (k + 1) X.A) (hx : ∀ σ, PassesAt (L2N.CX X.prog X.w) X σ (E σ)) (ha : DA X E (e :: es) r) (hg : Gl X c := by rfl)
    (hdb : (c == ("__debug__" : Str)) = false := by decide) (he : starEach (e :: es) X.env = (false, eval e X.env) :: starEach es X.env := by rfl) (hpl : (backTo pos (starEach es X.env)).any (·.1) = false := by rfl) :
    DE X E (.Call (.Name c p) (e :: es) [] pos) (fMake c ps.length F r) := by
  obtain ⟨f, fd, M, hm, ok, bi⟩ := G.ex
  refine ⟨fun pins s σ H Q I h => ?_⟩
  refine wpAny_Call_Name_kw (ld_glob I hg hm ?_ hdb)
  obtain ⟨m, Γ, Ω, s', h⟩ := h
  have h2 : tDA X.K E r σ H fun vs H1 => ∀ x dx, H1 x = none → H1 dx = none → dx ≠ x → spD X.K ps.length F (.ref x :: vs) (upd (upd H1 dx (.own x)) x (.ins (cad X.K c) dx [])) (fun v H2 => v = .non ∧ Q (.ref x) H2) (E σ) :=
    ⟨m, Γ, Ω, s', (Af.bind (R := RlL X.K) h).imp fun _ _ _ _ _ _ _ _ ⟨m1, Ω1, ds, g1, r1, q⟩ => make_of g1.ok r1 q⟩
  refine PySem.W.callWith_K (h₀ := X.base) I.ok.mod.kin M.kp (thn (ha.run pos pins s σ H _ I h2) fun us s1 ⟨vs, H1, I1, r, q⟩ => ⟨I1.kIn, ?_⟩) he hpl
  exact run_makeS (E := E) M ok hr bi (hx σ) I1 r q
end
end Dn


set_option Elab.async false
set_option linter.all false
set_option maxRecDepth 100000
/-! DnLast: keywords, isinstance, ==, dicts made of pairs, sorted. -/
namespace Dn
open PySem L2
/-! ### keywords -/
/-- f's parameters given by n positional values and keywords ks: perm puts them in the parameters' order (names by their place) -/
def reord {α : Type} (ix : List Nat) (xs : List α) : List α := ix.filterMap fun i => xs[i]?
structure KwB (K : PySem.W.Frag) (fd : FuncData) (ps : List Str) (n : Nat) (ks : List Str) (ix : List Nat) : Prop where
  to : ∀ (s : Shared) (us ws : List Value), K.In s.heap → us.length = n → ws.length = ks.length → BindsTo s fd ⟨us, ks.zip ws⟩ (ps.zip (reord ix (us ++ ws)))
theorem reord_vals {ix : List Nat} {vs : List V} {us : List Value} (r : Vals vs us) : Vals (reord ix vs) (reord ix us) := by
  unfold reord
  induction ix with
  | nil => exact .nil
  | cons i ix ih =>
    rw [List.filterMap_cons, List.filterMap_cons]
    cases e : vs[i]? with
    | none => rw [r.none_of e]; exact ih
    | some v =>
      obtain ⟨u, h1, h2⟩ := r.get e
      rw [h1]
      exact .cons h2 ih
theorem reord_rl {K : PySem.W.Frag} {m : Mp} {Ω : Om} {H : Hp} {ix : List Nat} {ds : List D} {vs : List V} (r : RlL K m Ω H ds vs) : RlL K m Ω H (reord ix ds) (reord ix vs) := by
  unfold reord
  induction ix with
  | nil => unfold RlL; rfl
  | cons i ix ih =>
    rw [List.filterMap_cons, List.filterMap_cons]
    cases e : ds[i]? with
    | none =>
      have : vs[i]? = none := by
        rw [List.getElem?_eq_none_iff] at e ⊢
        rw [← r.length]; exact e
      rw [this]; exact ih
    | some d =>
      obtain ⟨v, h1, h2⟩ := r.get e
      rw [h1]
      unfold RlL
      exact ⟨v, _, rfl, h2, ih⟩
abbrev DK (X : Cx) (E : St → XK) (kws : List Keyword) (f : Den (List D)) : Prop := PK X kws (tDA X.K E f)
theorem PK.mono {X : Cx} {e : List Keyword} {t t' : TA} (h : PK X e t) (i : ∀ σ H Q, t' σ H Q → t σ H Q) : PK X e t' := ⟨fun pos pins s σ H Q I q => h.run pos pins s σ H Q I (i σ H Q q)⟩
section
variable {X : Cx} {E : St → XK} {e o : Expr} {kws : List Keyword} {f fo : Den D} {r : Den (List D)} {nm : Option Str} {kpos pos apos : Pos} {c mt : Str} {ps ks : List Str} {k : Nat} {F : FD} {ix : List Nat}
theorem dk_nil : DK X E [] fNil := PK.mono pk_nil fun σ H Q h => by
  obtain ⟨m, Γ, Ω, s, h⟩ := h
  exact h m [] H (Go.refl s.cells) (by unfold RlL; rfl)
theorem dk_cons (h1 : DE X E e f) (h2 : DK X E kws r) : DK X E (⟨nm, e, kpos⟩ :: kws) (fCons f r) := PK.mono (pk_cons h1 h2) fun σ H Q h => by
  obtain ⟨m, Γ, Ω, s, h⟩ := h
  refine ⟨m, Γ, Ω, s, (Af.bind (R := Rl X.K) h).imp fun _ _ _ _ _ _ _ _ ⟨m1, Ω1, x, g1, r1, q⟩ => ⟨m1, Γ, Ω1, s.go g1, (Af.bind (R := RlL X.K) q).imp fun _ _ _ _ _ _ _ _ ⟨m2, Ω2, xs, g2, r2, q2⟩ => ?_⟩⟩
  refine q2 m2 _ _ (Go.refl g2.ok) ?_
  unfold RlL
  exact ⟨_, _, rfl, Rl.go g2.toGw g1.ok x _ r1, r2⟩
/-- o.m(k = e, ..), keywords alone -/
structure MtK (P : Program) (w : World) (K : PySem.W.Frag) (mg : Str → Option Value) (base : Heap) (c mt : Str) (ps : List Str) (ks : List Str) (ix : List Nat) (k : Nat) (F : FD) : Prop where
  ex : ∃ f fd, Meth K (cad K c) mt f ∧ FnOkG P w K mg base (L2N.CX P w) k f fd ps (spD K ps.length F) ∧ KwB K fd ps 1 ks ix
def fMethK (c mt : Str) (n l : Nat) (ix : List Nat) (F : FD) (fo : Den D) (r : Den (List D)) : Den D := bnd fo fun x Γ Ω => match asO c Ω x with
  | some fs => match fs.lookup mt with
    | none => bR (r Γ Ω) fun ds Ω1 => if ds.length = l ∧ (reord ix (x :: ds)).length = n then F (reord ix (x :: ds)) Ω1 else none
    | some _ => none
  | none => none
theorem de_methK {pl : Sem Bool} (hc : Cls X.K (cad X.K c)) (G : MtK X.prog X.w X.K X.mg X.base c mt ps ks ix k F) (hr : RoomG k X.A) (hx : ∀ σ, PassesAt (L2N.CX X.prog X.w) X σ (E σ)) (ho : DE X E o fo) (ha : DK X E kws r)
    (hall : (backToKw pos (keywordEach kws X.env)).all (·.1.isSome) = true := by rfl) (hks : (backToKw pos (keywordEach kws X.env)).filterMap (·.1) = ks := by rfl)
    (hpl : ((backTo pos (starEach [] X.env)).any (·.1) || (backToKw pos (keywordEach kws X.env)).any (·.1.isNone)) = false := by rfl)
    (ht : eval (.Call (.Attribute o mt apos) [] kws pos) X.env = (do
      let ov ← eval o X.env
      standAt apos.atName
      let (f, first) ← holding [ov] (getMethod ov mt pl)
      callWith pos f first (backTo pos (starEach [] X.env)) (backToKw pos (keywordEach kws X.env))) := by rfl) :
    DE X E (.Call (.Attribute o mt apos) [] kws pos) (fMethK c mt ps.length ks.length ix F fo r) := by
  obtain ⟨f, fd, hm, ok, bi⟩ := G.ex
  refine ⟨fun pins s σ H Q I h => ?_⟩
  have h2 : tD X.K E fo σ H fun x H1 => ∃ a dx fs, x = .ref a ∧ H1 a = some (.ins (cad X.K c) dx fs) ∧ fs.lookup mt = none ∧ tDA X.K E r σ H1 fun vs H2 => vs.length = ks.length ∧ spD X.K ps.length F (reord ix (x :: vs)) H2 Q (E σ) := by
    obtain ⟨m, Γ, Ω, s, h⟩ := h
    refine ⟨m, Γ, Ω, s, (Af.bind (R := Rl X.K) h).imp fun _ _ _ _ v1 _ _ _ ⟨m1, Ω1, x, g1, r1, q⟩ => ?_⟩
    dsimp only at q
    cases e1 : asO c Ω1 x with
    | none => rw [e1] at q; exact q.elim
    | some fs =>
      rw [e1] at q
      dsimp only at q
      obtain ⟨a, dx, gs, ev, h1, h2⟩ := asO_ok g1.ok r1 e1
      rcases h2.lookup (f := mt) with ⟨d, v, z1, z2, z3⟩ | ⟨z1, z2⟩
      · rw [z1] at q; exact q.elim
      · rw [z1] at q
        refine ⟨a, dx, gs, ev, h1, z2, m1, Γ, Ω1, s.go g1, (Af.bind (R := RlL X.K) q).imp fun _ _ H2 _ vs2 _ _ _ ⟨m2, Ω2, ds, g2, r2, q2⟩ => ?_⟩
        obtain ⟨⟨hl, hn⟩, q2⟩ := Af.guard q2
        have rx : RlL X.K m2 Ω2 H2 (x :: ds) (v1 :: vs2) := by
          unfold RlL
          exact ⟨_, _, rfl, Rl.go g2.toGw g1.ok x _ r1, r2⟩
        exact ⟨by rw [← r2.length]; exact hl, by rw [← (reord_rl (ix := ix) rx).length]; exact hn, m2, Ω2, _, g2.ok, reord_rl rx, q2⟩
  refine PySem.W.methodCall_KW (pl := pl) (thn (ho.run pins s σ H _ I h2) fun u s1 ⟨x, H1, I1, rx, a, dx, fs, ex, ea, l, q⟩ => ?_) ht
  subst ex
  obtain rfl : u = Value.ref a := rx
  refine getmeth_ok I1 ea hc hm l ?_
  refine PySem.W.callWith_KW0 (first := [.ref a]) (h₀ := X.base) I.ok.mod.kin hm.kp hall (thn (ha.run pos pins s1 σ H1 _ I1 q) fun ws s2 ⟨zs, H2, I2, rz, l2, q2⟩ => ⟨I2.kIn, ?_⟩) hpl
  rw [hks, List.append_nil]
  have rr : Vals (reord ix (.ref a :: zs)) (reord ix ([Value.ref a] ++ ws)) := reord_vals (us := .ref a :: ws) (.cons rfl rz)
  refine wpAny_call (codeAny_mono (ok.run X.A X.stack s2 H2 ⟨[.ref a], ks.zip ws⟩ (reord ix ([Value.ref a] ++ ws)) (reord ix (.ref a :: zs)) Q (E σ) hr I2.env0 (bi.to s2 [.ref a] ws I2.kIn rfl (rz.length.symm.trans l2)) rr q2) fun r s' hq => ?_)
  cases r with
  | error e => exact hx σ pins H2 s2 e s' I2 hq
  | ok fl =>
    cases fl with
    | ret u => exact I2.after hq
    | next => exact False.elim hq
    | brk => exact False.elim hq
    | cont => exact False.elim hq
end
/-! ### isinstance -/
def tyD (Ω : Om) : D → Option String
  | .non => some "NoneType"
  | .bl _ => some "bool"
  | .int _ => some "int"
  | .str _ => some "str"
  | .tup _ => some "tuple"
  | .tpk _ => some "tuple"
  | .lst _ => some "list"
  | .dct _ => some "dict"
  | .ref n => match Ω[n]? with
    | some (.lst _) => some "list"
    | some (.dct _) => some "dict"
    | _ => none
  | _ => none
def tys : List String := ["NoneType", "bool", "int", "str", "tuple", "list", "dict"]
def isT (t T : String) : Bool := t == T || (t == "bool" && T == "int")
theorem kitB_tab : ∀ t ∈ tys, ∀ T ∈ (["int", "bool", "str", "list", "tuple", "dict"] : List String), kitB t T = some (isT t T) := by decide +kernel
section
variable {K : PySem.W.Frag} {m : Mp} {Ω : Om} {H : Hp}
theorem tyD_ok (c : CellsOk K m Ω H) {d : D} {v : V} {t : String} (r : Rl K m Ω H d v) (e : tyD Ω d = some t) : TyX K H v (.type t) ∧ t ∈ tys := by
  cases d with
  | non => cases e; unfold Rl at r; subst r; exact ⟨.base .non, by decide⟩
  | bl b => cases e; unfold Rl at r; subst r; exact ⟨.base (.bl b), by decide⟩
  | int b => cases e; unfold Rl at r; subst r; exact ⟨.base (.int b), by decide⟩
  | str b => cases e; unfold Rl at r; subst r; exact ⟨.base (.str b), by decide⟩
  | tup xs =>
    cases e
    unfold Rl at r
    obtain ⟨a, vs, ev, h1, h2⟩ := r
    subst ev
    rcases h1 with h1 | ⟨_, o, its, n, h1, h3, _⟩
    · exact ⟨.base (.tup h1), by decide⟩
    · exact ⟨.kTuple h1 h3, by decide⟩
  | tpk xs =>
    cases e
    unfold Rl at r
    obtain ⟨a, vs, ev, ⟨o, h1, _⟩, h2⟩ := r
    subst ev
    exact ⟨.fTuple h1, by decide⟩
  | lst xs =>
    cases e
    unfold Rl at r
    obtain ⟨a, vs, ev, h1, _⟩ := r
    subst ev
    exact ⟨.base (.lst h1), by decide⟩
  | dct xs =>
    cases e
    unfold Rl at r
    obtain ⟨a, vs, ev, h1, _⟩ := r
    subst ev
    rcases h1 with h1 | ⟨o, h1⟩
    · exact ⟨.base (.dK h1), by decide⟩
    · exact ⟨.fDict h1, by decide⟩
  | ref n =>
    unfold Rl at r
    obtain ⟨a, ev, ha⟩ := r
    subst ev
    unfold tyD at e
    dsimp only at e
    cases q : Ω[n]? with
    | none => rw [q] at e; cases e
    | some x =>
      rw [q] at e
      cases x with
      | lst xs => cases e; obtain ⟨vs, h1, _⟩ := c.at_ n _ a q ha; exact ⟨.base (.lst h1), by decide⟩
      | dct xs => cases e; obtain ⟨vs, h1, _⟩ := c.at_ n _ a q ha; exact ⟨.base (.dK h1), by decide⟩
      | _ => cases e
  | _ => cases e
end
/-- what is known of own classes -/
structure IsaF (K : PySem.W.Frag) (CL : List Str) : Prop where
  ins : ∀ c ∈ CL, Cls K (cad K c) ∧ PySem.W.findIn K (.ref (cad K c)) "__class__" = some (some (.builtin "object.__class__")) ∧ PySem.W.mroIn K (cad K c) (.type "object") = some true
  gt : PySem.W.specialIn K (.builtin "object.__class__") "__get__" = some (some (.builtin "getset_descriptor.__get__"))
  tk : PySem.W.takesIn K (.builtin "object.__class__") = some true
  own : ∀ c ∈ CL, ∀ c' ∈ CL, PySem.W.kitOne K (.ref (cad K c)) (.ref (cad K c')) = some (decide (c = c'))
  blt : ∀ t ∈ tys, ∀ c ∈ CL, PySem.W.kitOne K (.type t) (.ref (cad K c)) = some false
  obj : ∀ c ∈ CL, ∀ T ∈ (["int", "bool", "str", "list", "tuple", "dict"] : List String), PySem.W.kitOne K (.ref (cad K c)) (.type T) = some false
def clsD (CL : List Str) (Ω : Om) : D → Option Str
  | .obj c _ => if c ∈ CL then some c else none
  | .ref n => match Ω[n]? with
    | some (.ins c _) => if c ∈ CL then some c else none
    | _ => none
  | _ => none
section
variable {K : PySem.W.Frag} {m : Mp} {Ω : Om} {H : Hp} {CL : List Str}
theorem clsD_ok (I : IsaF K CL) (c : CellsOk K m Ω H) {d : D} {v : V} {n : Str} (r : Rl K m Ω H d v) (e : clsD CL Ω d = some n) : TyX K H v (.ref (cad K n)) ∧ n ∈ CL := by
  have one : ∀ {a dx gs}, H a = some (.ins (cad K n) dx gs) → n ∈ CL → v = .ref a → TyX K H v (.ref (cad K n)) := fun h hn ev => by
    obtain ⟨z1, z2, z3⟩ := I.ins n hn
    subst ev
    exact .base (.ins h z1 z2 I.gt I.tk z3)
  cases d with
  | obj c' fs =>
    unfold clsD at e
    dsimp only at e
    by_cases h : c' ∈ CL
    · rw [if_pos h] at e
      cases e
      unfold Rl at r
      obtain ⟨a, dx, gs, ev, h1, _⟩ := r
      exact ⟨one h1 h ev, h⟩
    · rw [if_neg h] at e; cases e
  | ref k =>
    unfold Rl at r
    obtain ⟨a, ev, ha⟩ := r
    unfold clsD at e
    dsimp only at e
    cases q : Ω[k]? with
    | none => rw [q] at e; cases e
    | some x =>
      rw [q] at e
      cases x with
      | ins c' fs =>
        dsimp only at e
        by_cases h : c' ∈ CL
        · rw [if_pos h] at e
          cases e
          obtain ⟨dx, gs, h1, _⟩ := c.at_ k _ a q ha
          exact ⟨one h1 h ev, h⟩
        · rw [if_neg h] at e; cases e
      | _ => cases e
  | _ => cases e
/-- .. or a dict with tuple keys that is laid still -/
def TyY (K : PySem.W.Frag) (H : Hp) (v : V) (t : Value) : Prop := TyX K H v t ∨ ∃ (a : Addr) (o : Obj) (ws : List (List Key × V)), v = .ref a ∧ H a = some (.frz o (.dT ws)) ∧ t = .type "dict"
theorem dcT_ty {K : PySem.W.Frag} {m : Mp} {Ω : Om} {H : Hp} {kvs : List (List Key × D)} {v : V} (r : Rl K m Ω H (.dcT kvs) v) : TyY K H v (.type "dict") := by
  unfold Rl at r
  obtain ⟨a, ws, ev, h1, _⟩ := r
  subst ev
  rcases h1 with h1 | ⟨o, h1⟩
  · exact .inl (.base (.dT h1))
  · exact .inr ⟨a, o, ws, rfl, h1, rfl⟩
section
variable {X : Cx}
theorem kit_ofY {pins : List (Addr × Obj)} {σ : St} {H : Hp} {s : Shared} {x : V} {u t : Value} (I : Inv X pins σ H s) (rx : RelV x u) (ty : TyY X.K H x t) : ∃ P : Heap → Prop, PySem.W.KitX X.K u t P ∧ P s.heap ∧ u ≠ .builtin "__main__.__loader__#opaque" := by
  rcases ty with ty | ⟨a, ob, ws, rfl, ea, rfl⟩
  · exact kit_of I rx ty
  · cases (show u = Value.ref a from rx)
    obtain ⟨_, _, _, xs, _, o, es, ep, h1, h2, _⟩ := (show ObjOk X.prog X.w H s.heap a (.frz ob (.dT ws)) from I.hok a _ ea)
    exact ⟨_, PySem.W.kitx_dict, ⟨o, h1, h2.1⟩, fun z => nomatch z⟩
def rIsiY (K : PySem.W.Frag) : List V → Hp → VK → Prop := fun xs H Q => ∃ (x c : V) (t u : Value) (b : Bool), xs = [x, c] ∧ ClsV c u ∧ TyY K H x t ∧ PySem.W.kitOne K t u = some b ∧ Q (.bl b) H
def rIsiTY (K : PySem.W.Frag) : List V → Hp → VK → Prop := fun xs H Q => ∃ (x : V) (tp : Addr) (cs : List V) (t : Value) (us : List Value) (b : Bool), xs = [x, .ref tp] ∧ H tp = some (.tup cs) ∧ Paired ClsV cs us ∧ TyY K H x t ∧ PySem.W.kitAny K t us = some b ∧ Q (.bl b) H
theorem call_isiY : CallR X (.builtin "isinstance") (rIsiY X.K) := by
  intro pins s σ H xs us Q I r h
  obtain ⟨x, c, t, u, b, rfl, k, ty, e, q⟩ := h
  obtain ⟨u1, u2, rfl, r1, r2⟩ := vals2 r
  have e2 := k.eq r2
  subst e2
  obtain ⟨P, Z, p, hx⟩ := kit_ofY I r1 ty
  exact PySem.W.kia_one Z I.kIn p e hx fun tk => ⟨.bl b, H, I.tok tk, rfl, q⟩
theorem call_isiTY : CallR X (.builtin "isinstance") (rIsiTY X.K) := by
  intro pins s σ H xs us Q I r h
  obtain ⟨x, tp, cs, t, ws, b, rfl, hT, k, ty, e, q⟩ := h
  obtain ⟨u1, u2, rfl, r1, r2⟩ := vals2 r
  cases (show u2 = Value.ref tp from r2)
  obtain ⟨P, Z, p, hx⟩ := kit_ofY I r1 ty
  obtain ⟨_, its, rv, o, h1, h2, n, h3⟩ := (show ObjOk X.prog X.w H s.heap tp (.tup cs) from I.hok tp _ hT)
  have e3 := ClsV.all k rv
  subst e3
  obtain ⟨oc, od, dt, sl⟩ := o
  simp only at h2 h3
  subst h2 h3
  exact PySem.W.kia_tup Z I.kIn p h1 e hx fun tk => ⟨.bl b, H, I.tok tk, rfl, q⟩
end
def tyW (K : PySem.W.Frag) (CL : List Str) (Ω : Om) (d : D) : Option Value := match tyD Ω d with
  | some t => some (.type t)
  | none => match clsD CL Ω d with
    | some n => some (.ref (cad K n))
    | none => match d with
      | .dcT _ => some (.type "dict")
      | _ => none
/-- isinstance(x, T), T a built-in; isinstance(x, C) -/
def isB (CL : List Str) (T : String) (Ω : Om) (d : D) : Option Bool := match tyD Ω d with
  | some t => some (isT t T)
  | none => match clsD CL Ω d with
    | some _ => some false
    | none => match d with
      | .dcT _ => some (isT "dict" T)
      | _ => none
def isC (CL : List Str) (c : Str) (Ω : Om) (d : D) : Option Bool := match tyD Ω d with
  | some _ => some false
  | none => match clsD CL Ω d with
    | some n => some (decide (n = c))
    | none => match d with
      | .dcT _ => some false
      | _ => none
theorem isB_ok (I : IsaF K CL) (c : CellsOk K m Ω H) {d : D} {v : V} {T : String} {b : Bool} (hT : T ∈ (["int", "bool", "str", "list", "tuple", "dict"] : List String)) (r : Rl K m Ω H d v) (e : isB CL T Ω d = some b) : ∃ t, tyW K CL Ω d = some t ∧ TyY K H v t ∧ PySem.W.kitOne K t (.type T) = some b := by
  unfold isB at e
  unfold tyW
  cases e1 : tyD Ω d with
  | some t =>
    rw [e1] at e
    cases e
    obtain ⟨h1, h2⟩ := tyD_ok c r e1
    exact ⟨_, rfl, .inl h1, kit_ty (kitB_tab t h2 T hT)⟩
  | none =>
    rw [e1] at e
    dsimp only at e
    cases e2 : clsD CL Ω d with
    | none =>
      rw [e2] at e
      cases d with
      | dcT kvs =>
        cases e
        exact ⟨_, rfl, dcT_ty r, kit_ty (kitB_tab "dict" (by decide) T hT)⟩
      | _ => cases e
    | some n =>
      rw [e2] at e
      cases e
      obtain ⟨h1, h2⟩ := clsD_ok I c r e2
      exact ⟨_, rfl, .inl h1, I.obj n h2 T hT⟩
theorem isC_ok (I : IsaF K CL) (cc : CellsOk K m Ω H) {d : D} {v : V} {c : Str} {b : Bool} (hc : c ∈ CL) (r : Rl K m Ω H d v) (e : isC CL c Ω d = some b) : ∃ t, TyY K H v t ∧ PySem.W.kitOne K t (.ref (cad K c)) = some b := by
  unfold isC at e
  cases e1 : tyD Ω d with
  | some t =>
    rw [e1] at e
    cases e
    obtain ⟨h1, h2⟩ := tyD_ok cc r e1
    exact ⟨_, .inl h1, I.blt t h2 c hc⟩
  | none =>
    rw [e1] at e
    dsimp only at e
    cases e2 : clsD CL Ω d with
    | none =>
      rw [e2] at e
      cases d with
      | dcT kvs =>
        cases e
        exact ⟨_, dcT_ty r, I.blt "dict" (by decide) c hc⟩
      | _ => cases e
    | some n =>
      rw [e2] at e
      cases e
      obtain ⟨h1, h2⟩ := clsD_ok I cc r e2
      exact ⟨_, .inl h1, I.own n h2 c hc⟩
end
def fIs (g : Om → D → Option Bool) (f : Den D) : Den D := bnd f fun d _ Ω => match g Ω d with
  | some b => some (.ok (.bl b), Ω)
  | none => none
section
variable {X : Cx} {E : St → XK} {e : Expr} {f : Den D} {p p2 p3 p4 pos pt : Pos} {CL : List Str} {T T2 : Str} {T' T2' : String} {c : Str}
theorem isi_of {g : Om → D → Option Bool} {cv : V} {u : Value} (ck : ClsV cv u) (hg : ∀ m Ω H d v b, CellsOk X.K m Ω H → Rl X.K m Ω H d v → g Ω d = some b → ∃ t, TyY X.K H v t ∧ PySem.W.kitOne X.K t u = some b) {σ : St} {H : Hp} {Q : VK} (h : tD X.K E (fIs g f) σ H Q) :
    tCB (rIsiY X.K) (tCons (tD X.K E f) (tCons (tC cv) tNil)) σ H Q := by
  obtain ⟨m, Γ, Ω, s, h⟩ := h
  refine ⟨m, Γ, Ω, s, (Af.bind (R := Rl X.K) h).imp fun _ _ _ _ _ _ _ _ ⟨m1, Ω1, x, g1, r1, q⟩ => ?_⟩
  dsimp only at q
  cases e1 : g Ω1 x with
  | none => rw [e1] at q; exact q.elim
  | some b =>
    rw [e1] at q
    obtain ⟨t, h1, h2⟩ := hg m1 Ω1 _ x _ b g1.ok r1 e1
    exact ⟨_, cv, t, u, b, rfl, ck, h1, h2, q.now g1.ok rl_bl⟩
theorem de_isB (I : IsaF X.K CL) (he : DE X E e f) (hm : X.mg "isinstance" = none) (hmT : X.mg T = none) (hv : bootBuiltins T = some (.type T')) (hT : T' ∈ (["int", "bool", "str", "list", "tuple", "dict"] : List String) := by decide) (hg : Gl X "isinstance" := by rfl) (hgT : Gl X T := by rfl) (hnT : T ≠ "__name__" := by decide) (hdT : (T == ("__debug__" : Str)) = false := by decide)
    (hs : starEach [e, .Name T p2] X.env = (false, eval e X.env) :: starEach [.Name T p2] X.env := by rfl) (hs2 : starEach [.Name T p2] X.env = (false, eval (.Name T p2) X.env) :: starEach [] X.env := by rfl) (hpl : (backTo pos (starEach [.Name T p2] X.env)).any (·.1) = false := by rfl) :
    DE X E (.Call (.Name "isinstance" p) [e, .Name T p2] [] pos) (fIs (isB CL T') f) :=
  PE.mono (pe_callB (id := "isinstance") call_isiY hg hm (by decide +kernel) (pa_cons he (pa_cons (pe_bltn (v := .ty T') hgT hmT hv rfl hnT hdT) pa_nil hs2) hs) (by decide) (by decide) hs hpl) fun σ H Q h => isi_of (.ty T') (fun m Ω H d v b c r e => let ⟨t, _, h⟩ := isB_ok I c hT r e; ⟨t, h⟩) h
theorem de_isC (I : IsaF X.K CL) (he : DE X E e f) (hm : X.mg "isinstance" = none) (hmC : X.mg c = some (.ref (cad X.K c))) (hc : c ∈ CL) (hg : Gl X "isinstance" := by rfl) (hgT : Gl X c := by rfl) (hdT : (c == ("__debug__" : Str)) = false := by decide)
    (hs : starEach [e, .Name c p2] X.env = (false, eval e X.env) :: starEach [.Name c p2] X.env := by rfl) (hs2 : starEach [.Name c p2] X.env = (false, eval (.Name c p2) X.env) :: starEach [] X.env := by rfl) (hpl : (backTo pos (starEach [.Name c p2] X.env)).any (·.1) = false := by rfl) :
    DE X E (.Call (.Name "isinstance" p) [e, .Name c p2] [] pos) (fIs (isC CL c) f) :=
  PE.mono (pe_callB (id := "isinstance") call_isiY hg hm (by decide +kernel) (pa_cons he (pa_cons (pe_glob (v := .ref (cad X.K c)) hgT hmC rfl hdT) pa_nil hs2) hs) (by decide) (by decide) hs hpl) fun σ H Q h => isi_of (.own (cad X.K c)) (fun m Ω H d v b cc r e => isC_ok I cc hc r e) h
/-- isinstance(x, (T, T2)), built-ins -/
def isB2 (CL : List Str) (T T2 : String) (Ω : Om) (d : D) : Option Bool := match isB CL T Ω d with
  | some b => match isB CL T2 Ω d with
    | some b2 => some (b || b2)
    | none => none
  | none => none
theorem de_isB2 {k : Nat} (I : IsaF X.K CL) (he : DE X E e f) (hm : X.mg "isinstance" = none) (hmT : X.mg T = none) (hmT2 : X.mg T2 = none) (hv : bootBuiltins T = some (.type T')) (hv2 : bootBuiltins T2 = some (.type T2')) (hT : T' ∈ (["int", "bool", "str", "list", "tuple", "dict"] : List String) := by decide) (hT2 : T2' ∈ (["int", "bool", "str", "list", "tuple", "dict"] : List String) := by decide)
    (hg : Gl X "isinstance" := by rfl) (hgT : Gl X T := by rfl) (hgT2 : Gl X T2 := by rfl) (hnT : T ≠ "__name__" := by decide) (hdT : (T == ("__debug__" : Str)) = false := by decide) (hnT2 : T2 ≠ "__name__" := by decide) (hdT2 : (T2 == ("__debug__" : Str)) = false := by decide)
    (hs : starEach [e, .Tuple [.Name T p2, .Name T2 p3] k pt] X.env = (false, eval e X.env) :: starEach [.Tuple [.Name T p2, .Name T2 p3] k pt] X.env := by rfl) (hs2 : starEach [.Tuple [.Name T p2, .Name T2 p3] k pt] X.env = (false, eval (.Tuple [.Name T p2, .Name T2 p3] k pt) X.env) :: starEach [] X.env := by rfl)
    (hs3 : starEach [.Name T p2, .Name T2 p3] X.env = (false, eval (.Name T p2) X.env) :: starEach [.Name T2 p3] X.env := by rfl) (hs4 : starEach [.Name T2 p3] X.env = (false, eval (.Name T2 p3) X.env) :: starEach [] X.env := by rfl)
    (hpl : (backTo pos (starEach [.Tuple [.Name T p2, .Name T2 p3] k pt] X.env)).any (·.1) = false := by rfl) :
    DE X E (.Call (.Name "isinstance" p) [e, .Tuple [.Name T p2, .Name T2 p3] k pt] [] pos) (fIs (isB2 CL T' T2') f) :=
  PE.mono (pe_callB (id := "isinstance") call_isiTY hg hm (by decide +kernel) (pa_cons he (pa_cons (pe_tup (pa_cons (pe_bltn (v := .ty T') hgT hmT hv rfl hnT hdT) (pa_cons (pe_bltn (v := .ty T2') hgT2 hmT2 hv2 rfl hnT2 hdT2) pa_nil hs4) hs3)) pa_nil hs2) hs) (by decide) (by decide) hs hpl) fun σ H Q h => by
    obtain ⟨m, Γ, Ω, s, h⟩ := h
    refine ⟨m, Γ, Ω, s, (Af.bind (R := Rl X.K) h).imp fun _ _ H1 _ v _ _ _ ⟨m1, Ω1, x, g1, r1, q⟩ => ⟨by show 2 ≤ sizeLine; decide, fun tp htp => ?_⟩⟩
    have g2 : Go X.K m1 Ω1 H1 m1 Ω1 (upd H1 tp (.tup [.ty T', .ty T2'])) := Go.new g1.ok htp
    have r2 := Rl.go g2.toGw g1.ok x _ r1
    unfold isB2 at q
    dsimp only at q
    cases e1 : isB CL T' Ω1 x with
    | none => rw [e1] at q; exact q.elim
    | some b =>
      rw [e1] at q
      dsimp only at q
      cases e2 : isB CL T2' Ω1 x with
      | none => rw [e2] at q; exact q.elim
      | some b2 =>
        rw [e2] at q
        obtain ⟨t, ht, h1, h2⟩ := isB_ok I g2.ok hT r2 e1
        obtain ⟨t', ht', h3, h4⟩ := isB_ok I g2.ok hT2 r2 e2
        have et : PySem.W.kitOne X.K t (.type T2') = some b2 := by
          rw [ht] at ht'
          cases ht'
          exact h4
        refine ⟨v, tp, [.ty T', .ty T2'], t, [.type T', .type T2'], b || b2, rfl, upd_same, .cons (.ty T') (.cons (.ty T2') .nil), h1, ?_, q _ _ _ g2 rl_bl⟩
        refine kitAny_cons h2 (fun hb => ?_) (fun hb => by rw [hb]; rfl)
        refine kitAny_cons et (fun hb2 => ?_) (fun hb2 => by rw [hb2, Bool.or_true])
        rw [hb, hb2]
        exact kitAny_nil
end
end Dn


set_option Elab.async false
set_option linter.all false
set_option maxRecDepth 100000
/-! DnTop: dicts made of pairs, sorted, slices, ==, class constants, walks over dicts. -/
namespace Dn
open PySem L2
section
variable {K : PySem.W.Frag} {m : Mp} {Ω : Om} {H : Hp} {X : Cx}
/-! ### dict(pairs) -/
/-! ### sorted(d), its keys ints, fewer than 64 -/
/-! ### len(d) -/
/-! ### sorted(pairs of ints) -/
def asPr : List D → Option (List (Int × Int))
  | [] => some []
  | d :: r => match d with
    | .tup xs => match xs with
      | [x, y] => match x, y with
        | .int i, .int j => match asPr r with
          | some l => some ((i, j) :: l)
          | none => none
        | _, _ => none
      | _ => none
    | _ => none
def prD (p : Int × Int) : D := .tup [.int p.1, .int p.2]
def leP (a b : Int × Int) : Bool := decide (a.1 < b.1 ∨ (a.1 = b.1 ∧ a.2 ≤ b.2))
def sortP (ps : List (Int × Int)) : List (Int × Int) := ps.mergeSort leP
/-- pairs at addresses -/
def PrAt (H : Hp) : List (Int × Int) → List V → Prop
  | [], vs => vs = []
  | p :: ps, vs => ∃ a r, vs = .ref a :: r ∧ H a = some (.tup [.int p.1, .int p.2]) ∧ PrAt H ps r
theorem asPr_ok : ∀ {ds : List D} {vs : List V} {ps : List (Int × Int)}, RlL K m Ω H ds vs → asPr ds = some ps → PrAt H ps vs
  | [], vs, ps, r, e => by unfold RlL at r; unfold asPr at e; cases e; exact r
  | d :: ds, vs, ps, r, e => by
    unfold RlL at r
    obtain ⟨v, w, ev, h1, h2⟩ := r
    unfold asPr at e
    cases d with
    | tup xs =>
      match xs, e, h1 with
      | [x, y], e, h1 =>
        cases x with
        | int i =>
          cases y with
          | int j =>
            dsimp only at e
            cases e1 : asPr ds with
            | none => rw [e1] at e; cases e
            | some l =>
              rw [e1] at e
              cases e
              unfold Rl at h1
              obtain ⟨a, us, ea, h3, h4⟩ := h1
              obtain ⟨u1, u2, eu, y1, y2⟩ := h4.two
              unfold Rl at y1 y2
              subst y1 y2 eu
              rcases h3 with h3 | h3
              · exact ⟨a, w, by rw [ev, ea], h3, asPr_ok h2 e1⟩
              · exact absurd h3.1 (by simp)
          | _ => cases e
        | _ => cases e
      | [], e, _ => cases e
      | [_], e, _ => cases e
      | _ :: _ :: _ :: _, e, _ => cases e
    | _ => cases e
theorem PrAt.mem {ps : List (Int × Int)} : ∀ {vs : List V}, PrAt H ps vs → ∀ x ∈ vs, ∃ t p, x = V.ref t ∧ p ∈ ps ∧ H t = some (.tup [.int p.1, .int p.2]) := by
  induction ps with
  | nil => intro vs h x hx; unfold PrAt at h; subst h; cases hx
  | cons p ps ih =>
    intro vs h x hx
    obtain ⟨a, r, e, h1, h2⟩ := h
    subst e
    rcases List.mem_cons.mp hx with e | hx
    · exact ⟨a, p, e, List.mem_cons_self .., h1⟩
    · obtain ⟨t, q, z1, z2, z3⟩ := ih h2 x hx
      exact ⟨t, q, z1, List.mem_cons_of_mem _ z2, z3⟩
/-- the pair at a value -/
def prOf (H : Hp) (v : V) : Int × Int := match v with
  | .ref a => match H a with
    | some (.tup [.int i, .int j]) => (i, j)
    | _ => (0, 0)
  | _ => (0, 0)
theorem prOf_at {a : Addr} {i j : Int} (h : H a = some (.tup [.int i, .int j])) : prOf H (.ref a) = (i, j) := by
  unfold prOf
  dsimp only
  rw [h]
theorem PrAt.map : ∀ {ps : List (Int × Int)} {vs : List V}, PrAt H ps vs → vs.map (prOf H) = ps
  | [], vs, h => by unfold PrAt at h; subst h; rfl
  | p :: ps, vs, h => by
    obtain ⟨a, r, e, h1, h2⟩ := h
    subst e
    rw [List.map_cons, PrAt.map h2, prOf_at h1]
theorem rl_of_pairs (hH : ∀ x ∈ vs, ∃ t, x = V.ref t ∧ H t = some (.tup [.int (prOf H x).1, .int (prOf H x).2])) : RlL K m Ω H ((vs.map (prOf H)).map prD) vs := by
  induction vs with
  | nil => unfold RlL; rfl
  | cons v vs ih =>
    obtain ⟨t, e, h⟩ := hH v (List.mem_cons_self ..)
    rw [List.map_cons, List.map_cons]
    unfold RlL
    refine ⟨v, vs, rfl, ?_, ih fun x hx => hH x (List.mem_cons_of_mem _ hx)⟩
    unfold prD Rl
    exact ⟨t, _, e, .inl h, rlL_2 rl_int rl_int⟩
theorem leP_total (a b : Int × Int) : leP a b || leP b a := by
  unfold leP
  simp only [Bool.or_eq_true, decide_eq_true_eq]
  omega
theorem leP_trans (a b c : Int × Int) (h1 : leP a b = true) (h2 : leP b c = true) : leP a c = true := by
  unfold leP at *
  simp only [decide_eq_true_eq] at *
  omega
theorem leP_anti {a b : Int × Int} (h1 : leP a b = true) (h2 : leP b a = true) : a = b := by
  unfold leP at *
  simp only [decide_eq_true_eq] at *
  exact Prod.ext (by omega) (by omega)
theorem sortedP_unique : ∀ {xs ys : List (Int × Int)}, xs.Perm ys → xs.Pairwise (fun a b => leP a b = true) → ys.Pairwise (fun a b => leP a b = true) → xs = ys
  | [], ys, p, _, _ => (List.Perm.nil_eq p)
  | x :: xs, ys, p, h1, h2 => by
    cases ys with
    | nil => exact absurd p.length_eq (by simp)
    | cons y ys =>
      have hx : x ∈ y :: ys := p.subset (List.mem_cons_self ..)
      have hy : y ∈ x :: xs := p.symm.subset (List.mem_cons_self ..)
      have e : x = y := by
        rw [List.pairwise_cons] at h1 h2
        rcases List.mem_cons.mp hx with e | hx
        · exact e
        · rcases List.mem_cons.mp hy with e | hy
          · exact e.symm
          · exact leP_anti (h1.1 y hy) (h2.1 x hx)
      subst e
      rw [sortedP_unique (List.Perm.cons_inv p) (List.pairwise_cons.mp h1).2 (List.pairwise_cons.mp h2).2]
def dSortP : OpA := op1 fun d Ω => match asL Ω d with
  | some xs => match asPr xs with
    | some ps => some (.ok (.lst ((sortP ps).map prD)), Ω)
    | none => none
  | none => none
theorem cd_sortP : CallD K dSortP (rSortedPO K) := by
  intro E m Ω H ds vs Q c r q
  obtain ⟨d, v, ed, ev, h, q1⟩ := op1_of r q
  clear q
  subst ed ev
  cases e1 : asL Ω d with
  | none => rw [e1] at q1; exact q1.elim
  | some xs =>
    rw [e1] at q1
    obtain ⟨a, ws, ea, h1, h2⟩ := asL_ok c h e1
    subst ea
    dsimp only at q1
    cases e2 : asPr xs with
    | none => rw [e2] at q1; exact q1.elim
    | some ps =>
      rw [e2] at q1
      have hp := asPr_ok h2 e2
      have at_ : ∀ x ∈ ws, ∃ t, x = V.ref t ∧ H t = some (.tup [.int (prOf H x).1, .int (prOf H x).2]) := fun x hx => by
        obtain ⟨t, p, z1, z2, z3⟩ := hp.mem x hx
        subst z1
        exact ⟨t, rfl, by rw [prOf_at z3]; exact z3⟩
      refine ⟨a, ws, prOf H, rfl, SqL.of h1, at_, fun ys p hs hb hn => ?_⟩
      have perm : (ys.map (prOf H)).Perm ps := by
        have := hb.perm.map (prOf H)
        rw [hp.map] at this
        exact this
      have srt : (ys.map (prOf H)).Pairwise (fun a b => leP a b = true) := by
        rw [List.pairwise_map]
        refine List.Pairwise.imp ?_ hs
        intro x y hxy
        have z := SrtO.lexB_no.mp hxy
        unfold leP
        simp only [decide_eq_true_eq]
        omega
      have e3 : ys.map (prOf H) = sortP ps := sortedP_unique (perm.trans (List.mergeSort_perm ps leP).symm) srt (List.pairwise_mergeSort leP_trans leP_total ps)
      dsimp only at q1
      rw [← e3] at q1
      have atY : ∀ x ∈ ys, ∃ t, x = V.ref t ∧ H t = some (.tup [.int (prOf H x).1, .int (prOf H x).2]) := fun x hx => at_ x (hb.perm.subset hx)
      exact q1 m _ _ (Go.new c hn) (Rl.newL c hn (rl_of_pairs atY))
end
/-! ### a walk over a dict in a comprehension -/
section
variable {K : PySem.W.Frag} {m : Mp} {Ω : Om} {H H' : Hp} {a : Addr} {ws : List (Key × V)}
theorem rd_inj {us : List (Key × V)} (h : Rd H a (.dK ws)) (h' : Rd H a (.dK us)) : us = ws := by
  rcases h with h | ⟨o, h⟩ <;> rcases h' with h' | ⟨o', h'⟩ <;> rw [h] at h' <;> cases h' <;> rfl
theorem rd_ne (h : Rd H a (.dK ws)) {b : Addr} {o : HO} (e : H b = some o) (h1 : ∀ us, o ≠ .dK us) (h2 : ∀ x us, o ≠ .frz x (.dK us)) : b ≠ a := fun z => by
  subst z
  rcases h with h | ⟨x, h⟩ <;> rw [h] at e <;> cases e
  · exact h1 _ rfl
  · exact h2 _ _ rfl
mutual
theorem KyV.lk (hb : ∀ b, b ≠ a → H b = H' b) (h : Rd H a (.dK ws)) : ∀ (k : NK) (v : V), KyV K H k v → KyV K H' k v
  | .none, v, r => by unfold KyV at r ⊢; exact r
  | .num _, v, r => by unfold KyV at r ⊢; exact r
  | .text _, v, r => by unfold KyV at r ⊢; exact r
  | .tup ks, v, r => by
    unfold KyV at r ⊢
    obtain ⟨b, vs, e, h1, h2⟩ := r
    refine ⟨b, vs, e, ?_, KyL.lk hb h ks vs h2⟩
    rcases h1 with h1 | h1
    · exact .inl (by rw [← hb b (rd_ne h h1 (fun _ z => by cases z) (fun _ _ z => by cases z))]; exact h1)
    · exact .inr h1
theorem KyL.lk (hb : ∀ b, b ≠ a → H b = H' b) (h : Rd H a (.dK ws)) : ∀ (ks : List NK) (vs : List V), KyL K H ks vs → KyL K H' ks vs
  | [], vs, r => by unfold KyL at r ⊢; exact r
  | k :: ks, vs, r => by
    unfold KyL at r ⊢
    obtain ⟨v, w, e, h1, h2⟩ := r
    exact ⟨v, w, e, KyV.lk hb h k v h1, KyL.lk hb h ks w h2⟩
end
theorem KyE.lk (hb : ∀ b, b ≠ a → H b = H' b) (h : Rd H a (.dK ws)) {es : List NE} (r : KyE K H es) : KyE K H' es := fun e he => ⟨KyV.lk hb h _ _ (r e he).v, (r e he).d⟩
mutual
theorem Rl.lk (hb : ∀ b, b ≠ a → H b = H' b) (h : Rd H a (.dK ws)) (h' : Rd H' a (.dK ws)) : ∀ (d : D) (v : V), Rl K m Ω H d v → Rl K m Ω H' d v
  | .non, v, r => r
  | .bl _, v, r => r
  | .int _, v, r => r
  | .str _, v, r => r
  | .tpk xs, v, r => by
    unfold Rl at r ⊢
    obtain ⟨b, vs, ev, ⟨o, h1, hd⟩, h2⟩ := r
    refine ⟨b, vs, ev, ⟨o, ?_, hd⟩, RlL.lk hb h h' xs vs h2⟩
    rw [← hb b (rd_ne h h1 (fun _ z => by cases z) (fun _ _ z => by cases z))]; exact h1
  | .tup xs, v, r => by
    unfold Rl at r ⊢
    obtain ⟨b, vs, ev, h1, h2⟩ := r
    refine ⟨b, vs, ev, h1.imp (fun h1 => ?_) (fun z => z), RlL.lk hb h h' xs vs h2⟩
    rw [← hb b (rd_ne h h1 (fun _ z => by cases z) (fun _ _ z => by cases z))]; exact h1
  | .lst xs, v, r => by
    unfold Rl at r ⊢
    obtain ⟨b, vs, ev, h1, hl, h2⟩ := r
    exact ⟨b, vs, ev, by rw [← hb b (rd_ne h h1 (fun _ z => by cases z) (fun _ _ z => by cases z))]; exact h1, hl, RlL.lk hb h h' xs vs h2⟩
  | .dct xs, v, r => by
    unfold Rl at r ⊢
    obtain ⟨b, vs, ev, h1, hl, h2⟩ := r
    refine ⟨b, vs, ev, ?_, hl, RlK.lk hb h h' xs vs h2⟩
    by_cases e : b = a
    · subst e
      rw [rd_inj h h1]; exact h'
    · rcases h1 with h1 | ⟨o, h1⟩
      · exact .inl (by rw [← hb b e]; exact h1)
      · exact .inr ⟨o, by rw [← hb b e]; exact h1⟩
  | .dcT xs, v, r => by
    unfold Rl at r ⊢
    obtain ⟨b, vs, ev, h1, hl, h2⟩ := r
    refine ⟨b, vs, ev, ?_, hl, RlT.lk hb h h' xs vs h2⟩
    by_cases e : b = a
    · subst e
      rcases h with h | ⟨o, h⟩ <;> rcases h1 with h1 | ⟨o1, h1⟩ <;> (rw [h] at h1; cases h1)
    · rcases h1 with h1 | ⟨o, h1⟩
      · exact .inl (by rw [← hb b e]; exact h1)
      · exact .inr ⟨o, by rw [← hb b e]; exact h1⟩
  | .dcN w xs, v, r => by
    unfold Rl at r ⊢
    obtain ⟨b, es, ev, ⟨q, h1⟩, hk, hl, h2⟩ := r
    exact ⟨b, es, ev, ⟨q, by rw [← hb b (rd_ne h h1 (fun _ z => by cases z) (fun _ _ z => by cases z))]; exact h1⟩, KyE.lk hb h hk, hl, RlN.lk hb h h' xs es h2⟩
  | .obj c fs, v, r => by
    unfold Rl at r ⊢
    obtain ⟨b, dx, vs, ev, h1, hl, h2⟩ := r
    exact ⟨b, dx, vs, ev, by rw [← hb b (rd_ne h h1 (fun _ z => by cases z) (fun _ _ z => by cases z))]; exact h1, hl, RlF.lk hb h h' fs vs h2⟩
  | .ref n, v, r => by unfold Rl at r ⊢; exact r
  | .scr xs, v, r => by
    unfold Rl at r ⊢
    obtain ⟨b, ev, h1⟩ := r
    refine ⟨b, ev, ?_⟩
    rcases h1 with ⟨o, h1⟩ | h1
    · exact .inl ⟨o, by rw [← hb b (rd_ne h h1 (fun _ z => by cases z) (fun _ _ z => by cases z))]; exact h1⟩
    · exact .inr h1
  | .cl _, v, r => by unfold Rl at r ⊢; exact r
  | .clo _ ds us, v, r => by unfold Rl at r ⊢; exact ⟨r.1, RlL.lk hb h h' ds us r.2⟩
theorem RlL.lk (hb : ∀ b, b ≠ a → H b = H' b) (h : Rd H a (.dK ws)) (h' : Rd H' a (.dK ws)) : ∀ (ds : List D) (vs : List V), RlL K m Ω H ds vs → RlL K m Ω H' ds vs
  | [], vs, r => by unfold RlL at r ⊢; exact r
  | d :: ds, vs, r => by
    unfold RlL at r ⊢
    obtain ⟨v, w, e, h1, h2⟩ := r
    exact ⟨v, w, e, Rl.lk hb h h' d v h1, RlL.lk hb h h' ds w h2⟩
theorem RlK.lk (hb : ∀ b, b ≠ a → H b = H' b) (h : Rd H a (.dK ws)) (h' : Rd H' a (.dK ws)) : ∀ (ds : List (Key × D)) (vs : List (Key × V)), RlK K m Ω H ds vs → RlK K m Ω H' ds vs
  | [], vs, r => by unfold RlK at r ⊢; exact r
  | (k, d) :: ds, vs, r => by
    unfold RlK at r ⊢
    obtain ⟨v, w, e, h1, h2⟩ := r
    exact ⟨v, w, e, Rl.lk hb h h' d v h1, RlK.lk hb h h' ds w h2⟩
theorem RlT.lk (hb : ∀ b, b ≠ a → H b = H' b) (h : Rd H a (.dK ws)) (h' : Rd H' a (.dK ws)) : ∀ (ds : List (List Key × D)) (vs : List (List Key × V)), RlT K m Ω H ds vs → RlT K m Ω H' ds vs
  | [], vs, r => by unfold RlT at r ⊢; exact r
  | (k, d) :: ds, vs, r => by
    unfold RlT at r ⊢
    obtain ⟨v, w, e, h1, h2⟩ := r
    exact ⟨v, w, e, Rl.lk hb h h' d v h1, RlT.lk hb h h' ds w h2⟩
theorem RlN.lk (hb : ∀ b, b ≠ a → H b = H' b) (h : Rd H a (.dK ws)) (h' : Rd H' a (.dK ws)) : ∀ (ds : List (NK × D)) (es : List NE), RlN K m Ω H ds es → RlN K m Ω H' ds es
  | [], es, r => by unfold RlN at r ⊢; exact r
  | (k, d) :: ds, es, r => by
    unfold RlN at r ⊢
    obtain ⟨p, v, w, e, h1, h2⟩ := r
    exact ⟨p, v, w, e, Rl.lk hb h h' d v h1, RlN.lk hb h h' ds w h2⟩
theorem RlF.lk (hb : ∀ b, b ≠ a → H b = H' b) (h : Rd H a (.dK ws)) (h' : Rd H' a (.dK ws)) : ∀ (ds : List (Str × D)) (vs : List (Str × V)), RlF K m Ω H ds vs → RlF K m Ω H' ds vs
  | [], vs, r => by unfold RlF at r ⊢; exact r
  | (k, d) :: ds, vs, r => by
    unfold RlF at r ⊢
    obtain ⟨v, w, e, h1, h2⟩ := r
    exact ⟨v, w, e, Rl.lk hb h h' d v h1, RlF.lk hb h h' ds w h2⟩
end
theorem CellsOk.lk (c : CellsOk K m Ω H) (hl : ¬ Live m Ω a) (hb : ∀ b, b ≠ a → H b = H' b) (h : Rd H a (.dK ws)) (h' : Rd H' a (.dK ws)) : CellsOk K m Ω H' := by
  refine ⟨c.len, c.nd, fun n x b h1 h2 => ?_, fun b hh => ?_, c.tb.up (fun b ps q => ?_) fun b o q => ?_⟩
  · have q := c.at_ n x b h1 h2
    cases x with
    | dead =>
      by_cases e : b = a
      · subst e
        rcases h' with h' | ⟨o, h'⟩
        · exact ⟨_, h'⟩
        · exact ⟨_, h'⟩
      · obtain ⟨o, q⟩ := q
        exact ⟨o, by rw [← hb b e]; exact q⟩
    | lst xs =>
      have hn : b ≠ a := fun e => hl (by rw [← e]; exact .inl ⟨n, _, h2, h1, fun z => by cases z⟩)
      obtain ⟨vs, q1, q2⟩ := q
      exact ⟨vs, by rw [← hb b hn]; exact q1, RlL.lk hb h h' _ _ q2⟩
    | dct xs =>
      have hn : b ≠ a := fun e => hl (by rw [← e]; exact .inl ⟨n, _, h2, h1, fun z => by cases z⟩)
      obtain ⟨vs, q1, q2⟩ := q
      exact ⟨vs, by rw [← hb b hn]; exact q1, RlK.lk hb h h' _ _ q2⟩
    | dcT xs =>
      have hn : b ≠ a := fun e => hl (by rw [← e]; exact .inl ⟨n, _, h2, h1, fun z => by cases z⟩)
      obtain ⟨vs, q1, q2⟩ := q
      exact ⟨vs, by rw [← hb b hn]; exact q1, RlT.lk hb h h' _ _ q2⟩
    | dcN w xs =>
      have hn : b ≠ a := fun e => hl (by rw [← e]; exact .inl ⟨n, _, h2, h1, fun z => by cases z⟩)
      obtain ⟨vs, ⟨qq, q1⟩, hk, q2⟩ := q
      exact ⟨vs, ⟨qq, by rw [← hb b hn]; exact q1⟩, KyE.lk hb h hk, RlN.lk hb h h' _ _ q2⟩
    | ins cc xs =>
      have hn : b ≠ a := fun e => hl (by rw [← e]; exact .inl ⟨n, _, h2, h1, fun z => by cases z⟩)
      obtain ⟨dx, vs, q1, q2⟩ := q
      exact ⟨dx, vs, by rw [← hb b hn]; exact q1, RlF.lk hb h h' _ _ q2⟩
  · obtain ⟨⟨vs, q, w⟩, z⟩ := c.hl b hh
    have hn : b ≠ a := fun e => hl (by rw [← e]; exact .inr hh)
    exact ⟨⟨vs, by rw [← hb b hn]; exact q, w⟩, z⟩
  · have hn : b ≠ a := fun e => by
      rw [e] at q
      rcases h with h | ⟨o, h⟩ <;> (rw [h] at q; cases q)
    rw [← hb b hn]; exact q
  · have hn : b ≠ a := fun e => by
      rw [e] at q
      rcases h with h | ⟨o, h⟩ <;> (rw [h] at q; cases q)
    rw [← hb b hn]; exact q
end
section
variable {X : Cx} {E : St → XK} {elt tg : Expr} {ifs : List Expr} {scope : Scope} {own : List (Str × Nat)} {pos xpos : Pos} {t : Tg} {ft : Den Bool} {fe : Den D} {i : Nat} {x : Str}
end
/-! ### slices -/
def fNo : Den (Option Int) := fC none
def fPt (f : Den D) : Den (Option Int) := bnd f fun d _ Ω => match d with
  | .int i => some (.ok (some i), Ω)
  | _ => none
def tDO (K : PySem.W.Frag) (E : St → XK) (f : Den (Option Int)) : TO := fun σ H Q => tG K (fun _ _ _ a b => a = b) E f σ H Q
theorem PO.mono {X : Cx} {e : Option Expr} {t t' : TO} (h : PO X e t) (i : ∀ σ H Q, t' σ H Q → t σ H Q) : PO X e t' := ⟨fun pins s σ H Q I q => h.run pins s σ H Q I (i σ H Q q)⟩
def cutD (xs : List D) (lo hi : Option Int) : List D := (xs.drop (HT.sIx xs.length 0 lo)).take (HT.sIx xs.length xs.length hi - HT.sIx xs.length 0 lo)
def fSl (f : Den D) (l h : Den (Option Int)) : Den D := bnd f fun x => bnd l fun lo => bnd h fun hi _ Ω => match asL Ω x with
  | some xs => some (.ok (.lst (cutD xs lo hi)), Ω)
  | none => none
section
variable {X : Cx} {E : St → XK} {e : Expr} {lo hi : Option Expr} {f : Den D} {fl fh : Den (Option Int)} {pos p2 : Pos}
theorem do_no : PO X none (tDO X.K E fNo) := PO.mono po_none fun σ H Q h => by
  obtain ⟨m, Γ, Ω, s, h⟩ := h
  exact h m none H (Go.refl s.cells) rfl
theorem do_pt (h : DE X E e f) : PO X (some e) (tDO X.K E (fPt f)) := PO.mono (po_some h) fun σ H Q h => by
  obtain ⟨m, Γ, Ω, s, h⟩ := h
  refine ⟨m, Γ, Ω, s, (Af.bind (R := Rl X.K) h).imp fun _ _ _ _ _ _ _ _ ⟨m1, Ω1, x, g1, r1, q⟩ => ?_⟩
  cases x with
  | int i => unfold Rl at r1; exact ⟨i, r1, q m1 _ _ (Go.refl g1.ok) rfl⟩
  | _ => exact q.elim
theorem RlL.drop {K : PySem.W.Frag} {m : Mp} {Ω : Om} {H : Hp} : ∀ {ds : List D} {vs : List V} (n : Nat), RlL K m Ω H ds vs → RlL K m Ω H (ds.drop n) (vs.drop n)
  | ds, vs, 0, h => h
  | [], vs, n + 1, h => by unfold RlL at h; subst h; unfold RlL; rfl
  | d :: ds, vs, n + 1, h => by
    unfold RlL at h
    obtain ⟨v, r, e, h1, h2⟩ := h
    subst e
    exact RlL.drop n h2
theorem RlL.takeN {K : PySem.W.Frag} {m : Mp} {Ω : Om} {H : Hp} : ∀ {ds : List D} {vs : List V} (n : Nat), RlL K m Ω H ds vs → RlL K m Ω H (ds.take n) (vs.take n)
  | ds, vs, 0, h => by rw [List.take_zero, List.take_zero]; unfold RlL; rfl
  | [], vs, n + 1, h => by unfold RlL at h; subst h; unfold RlL; rfl
  | d :: ds, vs, n + 1, h => by
    unfold RlL at h
    obtain ⟨v, r, e, h1, h2⟩ := h
    subst e
    rw [List.take_succ_cons, List.take_succ_cons]
    unfold RlL
    exact ⟨v, _, rfl, h1, RlL.takeN n h2⟩
theorem de_slice (he : DE X E e f) (hl : PO X lo (tDO X.K E fl)) (hh : PO X hi (tDO X.K E fh)) : DE X E (.Subscript e (.Slice lo hi none p2) pos) (fSl f fl fh) := PE.mono (pe_slice sl_list he hl hh) fun σ H Q h => by
  obtain ⟨m, Γ, Ω, s, h⟩ := h
  refine ⟨m, Γ, Ω, s, (Af.bind (R := Rl X.K) h).imp fun _ _ _ _ _ _ _ _ ⟨m1, Ω1, x, g1, r1, q⟩ => ⟨m1, Γ, Ω1, s.go g1, (Af.bind (R := fun _ _ _ a b => a = b) q).imp fun _ _ _ _ _ _ _ _ ⟨m2, Ω2, lo, g2, e2, q2⟩ => ?_⟩⟩
  subst e2
  refine ⟨m2, Γ, Ω2, (s.go g1).go g2, (Af.bind (R := fun _ _ _ a b => a = b) q2).imp fun _ _ _ _ _ _ _ _ ⟨m3, Ω3, hi, g3, e3, q3⟩ => ?_⟩
  subst e3
  dsimp only at q3
  cases e4 : asL Ω3 x with
  | none => rw [e4] at q3; exact q3.elim
  | some xs =>
    rw [e4] at q3
    obtain ⟨a, ws, ev, h1, h2⟩ := asL_ok g3.ok (Rl.go (g2.trans g3).toGw g1.ok x _ r1) e4
    refine ⟨a, ws, ev, SqL.of h1, fun p hp => q3 m3 _ _ (Go.new g3.ok hp) (Rl.newL g3.ok hp ?_)⟩
    unfold cutD cutV
    rw [h2.length]
    exact RlL.takeN _ (RlL.drop _ h2)
end
/-! ### own == -/
structure OwnG (P : Program) (w : World) (K : PySem.W.Frag) (mg : Str → Option Value) (base : Heap) (c mt : Str) (ps : List Str) (k : Nat) (F : FD) : Prop where
  ex : ∃ f fd, PySem.W.findIn K (.ref (cad K c)) mt = some (some (.ref f)) ∧ PySem.W.isFn K (.ref f) = true ∧ FnOkG P w K mg base (L2N.CX P w) k f fd ps (spD K ps.length F) ∧ Binds K fd ps []
section
variable {X : Cx} {E : St → XK} {a b : Expr} {f g : Den D} {pos : Pos} {c : Str} {ps : List Str} {k : Nat} {F : FD}
/-- C.f, a constant of the class -/
theorem de_cval {mc : Value} {ff : Str} {i : Int} {u : Value} {p : Pos} (r : ClX.CRead X.K (cad X.K c) mc) (kk : ClX.CVal X.K (cad X.K c) mc ff (.int i) u) (hm : X.mg c = some (.ref (cad X.K c))) (hg : Gl X c := by rfl) (hd : (c == ("__debug__" : Str)) = false := by decide)
    (hb : attributeBase (.Name c p) ff X.env (eval (.Name c p) X.env) = eval (.Name c p) X.env := by rfl) : DE X E (.Attribute (.Name c p) ff pos) (fC (.int i)) := PE.mono (ClX.pe_cval (pe_glob (v := .ref (cad X.K c)) hg hm rfl hd) hb) fun σ H Q h => by
  obtain ⟨m, Γ, Ω, s, h⟩ := h
  exact ⟨_, mc, .int i, u, rfl, r, kk, h m _ H (Go.refl s.cells) rl_int⟩
end
end Dn


set_option Elab.async false
set_option linter.all false
set_option maxRecDepth 100000
/-! DnGen: what the printed derivations name. -/
namespace Dn
open PySem L2
section
variable {K : PySem.W.Frag} {m : Mp} {Ω : Om} {H : Hp}
end
section
variable {X : Cx} {E : St → XK} {a b : Expr} {f g : Den D} {pos : Pos} {c : Str}
def CvE (K : PySem.W.Frag) (c f : Str) (i : Int) : Prop := ∃ mc u, ClX.CRead K (cad K c) mc ∧ ClX.CVal K (cad K c) mc f (.int i) u
theorem de_cvalE {ff : Str} {i : Int} {p : Pos} (h : CvE X.K c ff i) (hm : X.mg c = some (.ref (cad X.K c))) (hg : Gl X c := by rfl) (hd : (c == ("__debug__" : Str)) = false := by decide)
    (hb : attributeBase (.Name c p) ff X.env (eval (.Name c p) X.env) = eval (.Name c p) X.env := by rfl) : DE X E (.Attribute (.Name c p) ff pos) (fC (.int i)) := by
  obtain ⟨mc, u, r, k⟩ := h
  exact de_cval r k hm hg hd hb
end
/-! ### a cell's last change is behind it -/
section
variable {K : PySem.W.Frag} {m : Mp} {Ω : Om} {H : Hp}
theorem upd_id {a : Addr} {o : HO} (h : H a = some o) : upd H a o = H := funext fun b => by
  by_cases e : b = a
  · subst e; rw [upd_same, h]
  · rw [upd_ne e]
theorem Go.kill (c : CellsOk K m Ω H) {n : Nat} {a : Addr} {x : Cell} (hm : m.l[n]? = some a) (hx : Ω[n]? = some x) (hl : x ≠ .dead) : Go K m Ω H m (Ω.set n .dead) H := by
  obtain ⟨o, ho⟩ := c.some hm
  have g := Go.set (o := o) (y := .dead) c hm hx hl fun _ => ⟨o, upd_same⟩
  rw [upd_id ho] at g
  exact g
theorem not_live_kill (c : CellsOk K m Ω H) {n : Nat} {a : Addr} (hm : m.l[n]? = some a) : ¬ Live m (Ω.set n .dead) a := by
  rintro (⟨k, z, h1, h2, h3⟩ | l)
  · obtain rfl := c.nodup_ix h1 hm
    have hk : k < Ω.length := by
      rw [← c.len]
      exact (List.getElem?_eq_some_iff.mp hm).1
    rw [List.getElem?_set_self hk] at h2
    cases h2
    exact h3 rfl
  · exact (c.hl a l).2 (List.mem_of_getElem? hm)
end
section
variable {P : Program} {w : World} {K : PySem.W.Frag} {mg : Str → Option Value} {base : Heap} {N : List Str} {qual : Str} {scope : Scope} {f : Addr} {cdv : Value} {A : Around} {outer : List Env} {s : Shared} {H : Hp} {E : XK}
theorem hx_of (σ : St) : PassesAt (L2N.CX P w) (cxOf (L2N.CX P w) P w K mg base N qual scope f cdv A outer s H E) σ E := L2N.passAt (W := fun cls d _ H => E cls d H) (L2N.takes_of rfl rfl rfl rfl) σ
theorem hp_of : PassesOwn (model P w) (cxOf (L2N.CX P w) P w K mg base N qual scope f cdv A outer s H E).A (cxOf (L2N.CX P w) P w K mg base N qual scope f cdv A outer s H E).env (cxOf (L2N.CX P w) P w K mg base N qual scope f cdv A outer s H E).xe := passes_of (X := cxOf (L2N.CX P w) P w K mg base N qual scope f cdv A outer s H E) rfl
end
section
variable {X : Cx} {E : St → XK} {x c mt : Str} {ps : List Str} {k n : Nat} {F : FD} {e o : Expr} {es : List Expr} {r : Den (List D)} {fo : Den D} {p pos apos : Pos}
theorem de_callN (G : FnG X.prog X.w X.K X.mg X.base x ps k F) (hr : RoomG k X.A) (hx : ∀ σ, PassesAt (L2N.CX X.prog X.w) X σ (E σ)) (ha : DA X E (e :: es) r) (hn : ps.length = n := by rfl) (hg : Gl X x := by rfl)
    (hdb : (x == ("__debug__" : Str)) = false := by decide) (he : starEach (e :: es) X.env = (false, eval e X.env) :: starEach es X.env := by rfl) (hpl : (backTo pos (starEach es X.env)).any (·.1) = false := by rfl) :
    DE X E (.Call (.Name x p) (e :: es) [] pos) (fCall n F r) := by
  subst hn
  exact de_call G hr hx ha hg hdb he hpl
theorem de_makeN (G : MkG X.prog X.w X.K X.mg X.base c ps k F) (hr : RoomG (k + 1) X.A) (hx : ∀ σ, PassesAt (L2N.CX X.prog X.w) X σ (E σ)) (ha : DA X E (e :: es) r) (hn : ps.length = n := by rfl) (hg : Gl X c := by rfl)
    (hdb : (c == ("__debug__" : Str)) = false := by decide) (he : starEach (e :: es) X.env = (false, eval e X.env) :: starEach es X.env := by rfl) (hpl : (backTo pos (starEach es X.env)).any (·.1) = false := by rfl) :
    DE X E (.Call (.Name c p) (e :: es) [] pos) (fMake c n F r) := by
  subst hn
  exact de_make G hr hx ha hg hdb he hpl
theorem de_methN {pl : Sem Bool} (hc : Cls X.K (cad X.K c)) (G : MtG X.prog X.w X.K X.mg X.base c mt ps k F) (hr : RoomG k X.A) (hx : ∀ σ, PassesAt (L2N.CX X.prog X.w) X σ (E σ)) (ho : DE X E o fo) (ha : DA X E (e :: es) r) (hn : ps.length = n := by rfl)
    (hst : starEach (e :: es) X.env = (false, eval e X.env) :: starEach es X.env := by rfl) (hpl : (backTo pos (starEach es X.env)).any (·.1) = false := by rfl)
    (ht : eval (.Call (.Attribute o mt apos) (e :: es) [] pos) X.env = (do
      let ov ← eval o X.env
      standAt apos.atName
      let (f, first) ← holding [ov] (getMethod ov mt pl)
      callWith pos f first (backTo pos (starEach (e :: es) X.env)) (backToKw pos (keywordEach [] X.env))) := by rfl) :
    DE X E (.Call (.Attribute o mt apos) (e :: es) [] pos) (fMeth c mt n F fo r) := by
  subst hn
  exact de_meth hc G hr hx ho ha hst hpl ht
theorem de_methKN {pl : Sem Bool} {kws : List Keyword} {ks : List Str} {ix : List Nat} {l : Nat} (hc : Cls X.K (cad X.K c)) (G : MtK X.prog X.w X.K X.mg X.base c mt ps ks ix k F) (hr : RoomG k X.A) (hx : ∀ σ, PassesAt (L2N.CX X.prog X.w) X σ (E σ)) (ho : DE X E o fo) (ha : DK X E kws r) (hn : ps.length = n := by rfl) (hl : ks.length = l := by rfl)
    (hall : (backToKw pos (keywordEach kws X.env)).all (·.1.isSome) = true := by rfl) (hks : (backToKw pos (keywordEach kws X.env)).filterMap (·.1) = ks := by rfl)
    (hpl : ((backTo pos (starEach [] X.env)).any (·.1) || (backToKw pos (keywordEach kws X.env)).any (·.1.isNone)) = false := by rfl)
    (ht : eval (.Call (.Attribute o mt apos) [] kws pos) X.env = (do
      let ov ← eval o X.env
      standAt apos.atName
      let (f, first) ← holding [ov] (getMethod ov mt pl)
      callWith pos f first (backTo pos (starEach [] X.env)) (backToKw pos (keywordEach kws X.env))) := by rfl) :
    DE X E (.Call (.Attribute o mt apos) [] kws pos) (fMethK c mt n l ix F fo r) := by
  subst hn hl
  exact de_methK hc G hr hx ho ha hall hks hpl ht
end
theorem bt_len : bootBuiltins "len" = some (.builtin "len") := by decide +kernel
theorem bt_sorted : bootBuiltins "sorted" = some (.builtin "sorted") := by decide +kernel
theorem bt_max : bootBuiltins "max" = some (.builtin "max") := by decide +kernel
theorem bt_min : bootBuiltins "min" = some (.builtin "min") := by decide +kernel
theorem bt_abs : bootBuiltins "abs" = some (.builtin "abs") := by decide +kernel
theorem bt_int : bootBuiltins "int" = some (.type "int") := by decide +kernel
theorem bt_bool : bootBuiltins "bool" = some (.type "bool") := by decide +kernel
theorem bt_divmod : bootBuiltins "divmod" = some (.builtin "divmod") := by decide +kernel
theorem bt_tuple : bootBuiltins "tuple" = some (.type "tuple") := by decide +kernel
theorem bt_list : bootBuiltins "list" = some (.type "list") := by decide +kernel
theorem bt_all : bootBuiltins "all" = some (.builtin "all") := by decide +kernel
end Dn


set_option Elab.async false
set_option linter.all false
set_option maxRecDepth 100000
/-! DnHead: the head's Hook with a Bool more, and what it tells. -/
namespace Dn
open PySem L2
section
variable {K : PySem.W.Frag} {x qual : Str} {params : Arguments} {body : List Stmt} {scope : Scope} {f : Addr} {fd : FuncData} {kws : List (Str × V)} {ps ks : List Str} {n : Nat} {ix : List Nat}
theorem kwB_of (F : FunD K x qual params body scope [] kws f fd)
    (h : ∀ (kV doc pm : Value) (an : Option Addr) (cdv ct : Value) (us ws : List Value), us.length = n → ws.length = ks.length → bindArgs (PySem.W.fnOf x qual params body scope .none kV doc pm an cdv ct) ⟨us, ks.zip ws⟩ = pure (ps.zip (reord ix (us ++ ws)))) : KwB K fd ps n ks ix := by
  obtain ⟨oc, od, dV, kV, doc, pm, an, cdv, ct, osl, rfl, lk, hcd, hD, hK⟩ := F.ex
  rcases hD with ⟨_, rfl⟩ | ⟨e, _⟩
  · exact ⟨fun s us ws _ h1 h2 => .of_eq (h kV doc pm an cdv ct us ws h1 h2)⟩
  · exact absurd rfl e
end
/-! ### the Hook -/
abbrev AlB : Type := He.AlD × Bool
structure SaysB (fa : List He.Fa) (fn : List He.DefD) (ex : PySem.W.Frag → Bool) (K : PySem.W.Frag) : Prop where
  d : He.SaysD fa fn K
  more : ex K = true
/-! ### own classes -/
def bTs : List String := ["int", "bool", "str", "list", "tuple", "dict"]
def isaB (CL : List Str) (K : PySem.W.Frag) : Bool :=
  (CL.all fun c => (He.Fa.cls c).ok K && (He.eqO (PySem.W.findIn K (.ref (cad K c)) "__class__") (some (some (.builtin "object.__class__"))) && decide (PySem.W.mroIn K (cad K c) (.type "object") = some true))) &&
  (He.eqO (PySem.W.specialIn K (.builtin "object.__class__") "__get__") (some (some (.builtin "getset_descriptor.__get__"))) && (decide (PySem.W.takesIn K (.builtin "object.__class__") = some true) &&
  ((CL.all fun c => CL.all fun c' => decide (PySem.W.kitOne K (.ref (cad K c)) (.ref (cad K c')) = some (decide (c = c')))) &&
  ((tys.all fun t => CL.all fun c => decide (PySem.W.kitOne K (.type t) (.ref (cad K c)) = some false)) &&
  (CL.all fun c => bTs.all fun T => decide (PySem.W.kitOne K (.ref (cad K c)) (.type T) = some false))))))
theorem isaB_ok {CL : List Str} {K : PySem.W.Frag} (h : isaB CL K = true) : IsaF K CL := by
  unfold isaB at h
  obtain ⟨h1, h⟩ := He.ba h
  obtain ⟨h2, h⟩ := He.ba h
  obtain ⟨h3, h⟩ := He.ba h
  obtain ⟨h4, h⟩ := He.ba h
  obtain ⟨h5, h6⟩ := He.ba h
  refine ⟨fun c hc => ?_, He.eqO_ok h2, of_decide_eq_true h3, fun c hc c' hc' => of_decide_eq_true (List.all_eq_true.mp (List.all_eq_true.mp h4 c hc) c' hc'), fun t ht c hc => of_decide_eq_true (List.all_eq_true.mp (List.all_eq_true.mp h5 t ht) c hc), fun c hc T hT => of_decide_eq_true (List.all_eq_true.mp (List.all_eq_true.mp h6 c hc) T hT)⟩
  obtain ⟨a1, a2⟩ := He.ba (List.all_eq_true.mp h1 c hc)
  obtain ⟨a3, a4⟩ := He.ba a2
  exact ⟨He.cls_ok a1, He.eqO_ok a3, of_decide_eq_true a4⟩
def cvB (c f : Str) (i : Int) (K : PySem.W.Frag) : Bool := PySem.W.readsIn K (cad K c) (.type "type") && (He.eqO (PySem.W.specialIn K (.ref (cad K c)) "__getattribute__") (some (some (.builtin "type.__getattribute__"))) &&
  (match PySem.W.findCls K (.ref (cad K c)) (.type "type") f with
    | some (.val (.int j _)) => decide (j = i)
    | _ => false))
theorem cvB_ok {c f : Str} {i : Int} {K : PySem.W.Frag} (h : cvB c f i K = true) : CvE K c f i := by
  unfold cvB at h
  obtain ⟨h1, h⟩ := He.ba h
  obtain ⟨h2, h⟩ := He.ba h
  split at h
  · rename_i j t e
    obtain rfl := of_decide_eq_true h
    exact ⟨_, _, ⟨h1, He.eqO_ok h2⟩, ⟨e, ⟨_, rfl⟩⟩⟩
  · cases h
end Dn


set_option Elab.async false
set_option linter.all false
set_option maxRecDepth 100000
set_option maxHeartbeats 2000000
/-! DnEnd: a law's end, what is let out told of the world. -/
namespace L2
open PySem PySem.Spec PyProof.Rows
theorem cx_none {P : Program} (w : World) (H : Hp) (s : Shared) (e : Value) (s' : Shared) (h : L2N.CX P w [] H s (fun _ _ _ => False) e s') : False := by
  obtain ⟨_, _, _, _, _, _, _, _, _, _, _, _, z⟩ := h
  exact z.elim
end L2


set_option Elab.async false
set_option linter.all false
set_option maxRecDepth 100000
/-! DnOwn: operators that a class defines. -/
namespace Dn
open PySem L2
structure BinG (P : Program) (w : World) (K : PySem.W.Frag) (mg : Str → Option Value) (base : Heap) (c mt : Str) (ps : List Str) (k : Nat) (F : FD) : Prop where
  ex : PySem.W.selfFirst K (cad K c) = true ∧ ∃ f fd, PySem.W.findIn K (.ref (cad K c)) mt = some (some (.ref f)) ∧ PySem.W.isFn K (.ref f) = true ∧ FnOkG P w K mg base (L2N.CX P w) k f fd ps (spD K ps.length F) ∧ Binds K fd ps []
section
variable {X : Cx} {E : St → XK} {a b : Expr} {f g : Den D} {pos : Pos} {c : Str} {ps : List Str} {k n : Nat} {F : FD}
/-! ### ~x -/
end
end Dn


set_option Elab.async false
set_option linter.all false
set_option maxRecDepth 100000
/-! DnThaw: a cell is laid still ahead of a statement; its slot has the value from then on. -/
namespace Dn
open PySem L2
def sThaw (i : Nat) : DenS := fun Γ Ω => match Γ[i]? with
  | some (some (.ref n)) => match Ω[n]? with
    | some (.lst xs) => some (.nx, Γ.set i (some (.lst xs)), Ω.set n .dead)
    | some (.dct kvs) => some (.nx, Γ.set i (some (.dct kvs)), Ω.set n .dead)
    | some (.dcT kvs) => some (.nx, Γ.set i (some (.dcT kvs)), Ω.set n .dead)
    | some (.dcN w kvs) => some (.nx, Γ.set i (some (.dcN w kvs)), Ω.set n .dead)
    | _ => none
  | _ => none
section
variable {K : PySem.W.Frag} {m : Mp} {Ω : Om} {H : Hp} {Γ : Gm} {σ : St}
theorem Slots.put (s : Slots K m Ω H Γ σ) {i : Nat} {d : D} {v : V} (hv : σ[i]? = some (some v)) (r : Rl K m Ω H d v) : Slots K m Ω H (Γ.set i (some d)) σ := by
  refine ⟨by rw [List.length_set, s.1], fun j e h => ?_⟩
  by_cases hj : j = i
  · subst hj
    have hl : j < Γ.length := by
      have := (List.getElem?_eq_some_iff.mp h).1
      rwa [List.length_set] at this
    rw [List.getElem?_set_self hl] at h
    cases h
    exact ⟨v, hv, r⟩
  · rw [List.getElem?_set_ne (Ne.symm hj)] at h
    exact s.2 j e h
theorem ds_thaw {X : Cx} {E : St → XK} {st : Stmt} {g : DenS} (i : Nat) (h : DS X E st g) : DS X E st (sSeq (sThaw i) g) := PS.mono h fun D σ H q => by
  obtain ⟨m, Γ, Ω, s, q⟩ := q
  unfold sSeq sThaw at q
  cases e1 : Γ[i]? with
  | none => rw [e1] at q; exact q.elim
  | some o =>
    rw [e1] at q
    cases o with
    | none => exact q.elim
    | some d =>
      cases d with
      | ref n =>
        dsimp only at q
        obtain ⟨v, hv, rv⟩ := s.slots.2 i _ e1
        unfold Rl at rv
        obtain ⟨a, ev, ha⟩ := rv
        cases e2 : Ω[n]? with
        | none => rw [e2] at q; exact q.elim
        | some c =>
          rw [e2] at q
          cases c with
          | lst xs =>
            obtain ⟨vs, h1, h2⟩ := s.cells.at_ n _ a e2 ha
            have g1 := Go.kill s.cells ha e2 (fun z => by cases z)
            refine ⟨m, Γ.set i (some (.lst xs)), Ω.set n .dead, ⟨g1.ok, Slots.put (s.go g1).slots hv ?_⟩, AfS.go g1 q⟩
            unfold Rl
            exact ⟨a, vs, ev, h1, not_live_kill s.cells ha, RlL.go g1.toGw s.cells xs vs h2⟩
          | dct xs =>
            obtain ⟨vs, h1, h2⟩ := s.cells.at_ n _ a e2 ha
            have g1 := Go.kill s.cells ha e2 (fun z => by cases z)
            refine ⟨m, Γ.set i (some (.dct xs)), Ω.set n .dead, ⟨g1.ok, Slots.put (s.go g1).slots hv ?_⟩, AfS.go g1 q⟩
            unfold Rl
            exact ⟨a, vs, ev, .inl h1, not_live_kill s.cells ha, RlK.go g1.toGw s.cells xs vs h2⟩
          | dcT xs =>
            obtain ⟨vs, h1, h2⟩ := s.cells.at_ n _ a e2 ha
            have g1 := Go.kill s.cells ha e2 (fun z => by cases z)
            refine ⟨m, Γ.set i (some (.dcT xs)), Ω.set n .dead, ⟨g1.ok, Slots.put (s.go g1).slots hv ?_⟩, AfS.go g1 q⟩
            unfold Rl
            exact ⟨a, vs, ev, .inl h1, not_live_kill s.cells ha, RlT.go g1.toGw s.cells xs vs h2⟩
          | dcN ww xs =>
            obtain ⟨vs, h1, hk, h2⟩ := s.cells.at_ n _ a e2 ha
            have g1 := Go.kill s.cells ha e2 (fun z => by cases z)
            refine ⟨m, Γ.set i (some (.dcN ww xs)), Ω.set n .dead, ⟨g1.ok, Slots.put (s.go g1).slots hv ?_⟩, AfS.go g1 q⟩
            unfold Rl
            exact ⟨a, vs, ev, h1, hk, not_live_kill s.cells ha, RlN.go g1.toGw s.cells xs vs h2⟩
          | _ => exact q.elim
      | _ => exact q.elim
end
end Dn


set_option Elab.async false
set_option linter.all false
set_option maxRecDepth 100000
/-! DnAdd: texts compared, repr, list(d), min(xs), zip, d.get(k), calls by names, own !=. -/
namespace Dn
open PySem L2
/-! ### texts -/
def strOp (b : Bool → D) : Op2 := fun x y Ω => match x, y with
  | .str a, .str c => some (.ok (b (decide (a = c))), Ω)
  | _, _ => none
def dEqS : Op2 := strOp fun b => .bl b
section
variable {K : PySem.W.Frag} {X : Cx} {E : St → XK} {a b e : Expr} {f g : Den D} {pos : Pos} {k : Nat}
theorem str_dec (a c : Str) : decide (V.str a = V.str c) = decide (a = c) := by
  by_cases h : a = c
  · simp [h]
  · simp [h]
theorem od_eqS : OpD K dEqS rEq := by
  intro E m Ω H x y v u Q c rx ry q
  cases x with
  | str i =>
    cases y with
    | str j =>
      unfold Rl at rx ry
      subst rx ry
      exact ⟨rfl, by rw [str_dec]; exact q.now c rl_bl⟩
    | _ => exact q.elim
  | _ => exact q.elim
theorem de_eqS (ha : DE X E a f) (hb : DE X E b g) : DE X E (.Compare a [.Eq] [b] pos) (fBin dEqS f g) := de_cmp op_eq od_eqS ha hb (nomark _)
/-! ### repr -/
def okRep (p : PyData) : Bool := p.showable && !p.hasDict && decide (p.depth ≤ 60) && decide (p.shown.length ≤ 100000)
/-! ### list(d), min(xs) -/
/-! ### d.get(k) -/
/-! ### zip(xs, ys) -/
/-! ### own != -/
structure NoNe (K : PySem.W.Frag) (C : Addr) : Prop where
  ne : PySem.W.findIn K (.ref C) "__ne__" = some (some (.builtin "object.__ne__"))
  ob : PySem.W.subIn K (.ref C) (.type "object") = some true
end
section
open PySem.W
variable {prog : Program} {w : World} {A : Around} {XE : Value → Shared → Prop} {s : Shared} {K : Frag} {x C f : Addr} {ox : Obj} {od : Option Obj} {b : Value}
end
section
variable {X : Cx} {T : CXT} {k : Nat} {f : Addr} {fd : FuncData} {ps : List Str} {sp : Sp} {E : St → XK}
end
section
variable {X : Cx} {E : St → XK} {a b : Expr} {f g : Den D} {pos : Pos} {c : Str} {ps : List Str} {k n : Nat} {F : FD}
end
theorem bt_repr : bootBuiltins "repr" = some (.builtin "repr") := by decide +kernel
end Dn


set_option Elab.async false
set_option linter.all false
set_option maxRecDepth 100000
/-! DnKw: f(k = e, ..), keywords alone; C(k = e). -/
namespace Dn
open PySem L2
structure FnK (P : Program) (w : World) (K : PySem.W.Frag) (mg : Str → Option Value) (base : Heap) (x : Str) (ps : List Str) (ks : List Str) (ix : List Nat) (k : Nat) (F : FD) : Prop where
  ex : ∃ f fd, mg x = some (.ref f) ∧ FnOkG P w K mg base (L2N.CX P w) k f fd ps (spD K ps.length F) ∧ PySem.W.keepIn K (.ref f) = true ∧ KwB K fd ps 0 ks ix
section
variable {X : Cx} {E : St → XK} {kws : List Keyword} {r : Den (List D)} {p pos : Pos} {x : Str} {ps ks : List Str} {k n l : Nat} {F : FD} {ix : List Nat}
end
/-! ### tuples put together -/
section
variable {K : PySem.W.Frag} {X : Cx} {E : St → XK} {a b : Expr} {f g : Den D} {pos : Pos}
end
end Dn


set_option Elab.async false
set_option linter.all false
set_option maxRecDepth 100000
/-! DnOwn2: an instance called, asked with `in`, its len, its repr, its properties. -/
namespace Dn
open PySem L2
structure ClG (P : Program) (w : World) (K : PySem.W.Frag) (mg : Str → Option Value) (base : Heap) (c : Str) (ps : List Str) (k : Nat) (F : FD) : Prop where
  ex : ∃ f fd, StX.CallO K (cad K c) f ∧ FnOkG P w K mg base (L2N.CX P w) k f fd ps (spD K ps.length F) ∧ Binds K fd ps []
section
variable {X : Cx} {E : St → XK} {fe e : Expr} {es : List Expr} {fo : Den D} {r : Den (List D)} {pos : Pos} {c : Str} {ps : List Str} {k n : Nat} {F : FD}
/-! ### len(x) -/
/-! ### repr(x) -/
/-! ### v in x -/
/-! ### a property -/
structure PpG (P : Program) (w : World) (K : PySem.W.Frag) (mg : Str → Option Value) (base : Heap) (c at_ : Str) (ps : List Str) (k : Nat) (F : FD) : Prop where
  ex : ∃ p f fd, PropOf K (cad K c) at_ p f ∧ FnOkG P w K mg base (L2N.CX P w) k f fd ps (spD K ps.length F) ∧ Binds K fd ps []
/-! ### x(v) -/
end
end Dn


set_option Elab.async false
set_option linter.all false
set_option maxRecDepth 100000
set_option maxHeartbeats 2000000
/-! DnExc: errors of own classes over any built-in one, with an __init__ of their own. -/
namespace Dn
open PySem L2
/-- a row of classes: own ones, then a built-in tail -/
def overB (tl : List Value) : List Value → Bool
  | [] => false
  | v :: r => (match v with | .ref _ => overB tl r | _ => false) || decide (v :: r = tl)
structure MroOk (l : List Value) : Prop where
  ne : l.isEmpty = false
  ob : l.contains (.type "object") = true
  ps : ∀ self : Value, refuseLoop self "__setattr__" l = pure ()
theorem over_ok {B sa ow : String} {tl : List Value} (SF : StoreFacts B tl sa ow) (ht : tl.contains (.type "object") = true) : ∀ {l : List Value}, overB tl l = true → MroOk l
  | [], h => by cases h
  | v :: r, h => by
    unfold overB at h
    rcases Bool.or_eq_true_iff.mp h with h | h
    · cases v with
      | ref c =>
        have ih := over_ok SF ht (l := r) h
        exact ⟨rfl, by rw [List.contains_cons, ih.ob, Bool.or_true], fun self => by rw [refuseLoop_ref]; exact ih.ps self⟩
      | _ => cases h
    · have e := of_decide_eq_true h
      exact ⟨rfl, by rw [e]; exact ht, fun self => by rw [e]; exact SF.passes self⟩
theorem over_has {tl : List Value} (T : String) : ∀ {l : List Value}, overB tl l = true → l.contains (.type T) = tl.contains (.type T)
  | [], h => by cases h
  | v :: r, h => by
    unfold overB at h
    rcases Bool.or_eq_true_iff.mp h with h | h
    · cases v with
      | ref c =>
        rw [List.contains_cons, over_has T h]
        rfl
      | _ => cases h
    · rw [of_decide_eq_true h]
section
open Builtin Builtin.ObjectAttr PySem.W PySem.Calls PyProof.Rows PySem.HandSPX
variable {prog : Program} {w : World} {A : Around} {R : Result → Shared → Prop} {hp : Heap} {g : Array GenState} {d : Drawn} {t : Nat} {os : OsState}
/-- self.name = v of an error: the way to its own dict -/
theorem set_enter {K : PySem.W.Frag} {name : Str} {tk : Tok} {v : Value} {x C : Addr} {ox : Obj} {od : Option Obj} {cd : ClassData} (X : K.In hp) (I : PySem.W.InstAt hp x ox C od) (hcd : PySem.W.clsIn K C = some cd) (hm : MroOk cd.mro) (ha : PySem.W.findIn K (.ref C) name = some none)
    (hq : wpAny (model prog w) A.in1 (storeInOwnDict (.ref x) (.ref C) (.str name tk) name v false) (fun fin s' => match fin with
      | .done f => R (.ok f) s'
      | .again c' => c'.quiet = true ∧ codeAny (model prog w) A c' R s') (fun e s' => R (.error e) s') ⟨hp, g, d, t, os⟩) :
    codeAny (model prog w) A (.call (.builtin "object.__setattr__") ⟨[.ref x, .str name tk, v], []⟩) R ⟨hp, g, d, t, os⟩ := by
  have sf := F.store_object
  have isO : PySem.W.Looks (model prog w) hp (isInstance (.ref x) (.type "object")) true :=
    I.type.andThen (PySem.W.looks_mroIn X (by
      unfold PySem.W.mroIn
      rw [hcd, Option.bind_some, if_neg (by simp [hm.ne]), hm.ob]))
  have lm : PySem.W.Looks (model prog w) hp (mroOf (.ref C)) cd.mro := (PySem.W.looks_clsIn X hcd).andThen .now
  have ln : PySem.W.Looks (model prog w) hp (storeTaker? none) none := .now
  have fits := sf.args (.ref x) (.str name tk) v
  refine codeAny_call_builtin sf.slot.plain sf.entry
    (@PySem.W.check_slot (model prog w) _ _ ⟨hp, g, d, t, os⟩ "object.__setattr__" "object" "__setattr__"
      (.ref x) [.str name tk, v] [] _ sf.kind sf.split isO fits ?_)
  rw [PySem.W.osa_eq, refuse_eq]
  refine wpAny_bind (wpAny_bind (I.type.at (wpAny_bind (lm.at ?_))))
  rw [hm.ps]
  exact wpAny_pure (wpAny_bind (I.type.at (wpAny_bind ((PySem.W.looks_findIn X ha).at (wpAny_bind (ln.at hq))))))
/-- the first attribute: a dict is made -/
theorem set_first {K : PySem.W.Frag} {name : Str} {tk : Tok} {v : Value} {x C : Addr} {fv : Array Value} {cd : ClassData} (X : K.In hp) (hx : hp.get? x = some { cls := .ref C, data := .fields fv }) (hcd : PySem.W.clsIn K C = some cd) (hm : MroOk cd.mro) (hh : cd.hasDict = true) (ha : PySem.W.findIn K (.ref C) name = some none)
    (hq : ∀ h' tk' dx, (∀ b o, b ≠ x → hp.get? b = some o → h'.get? b = some o) → hp.objs.size ≤ dx → dx ≠ x →
      h'.get? x = some { cls := .ref C, dict := some dx, data := .fields fv } → h'.Ns1 dx (fun y => if y = name then some v else none) → R (.ok (.ret .none)) ⟨h', g, d, tk', os⟩) :
    codeAny (model prog w) A (.call (.builtin "object.__setattr__") ⟨[.ref x, .str name tk, v], []⟩) R ⟨hp, g, d, t, os⟩ := by
  refine set_enter (od := none) X ⟨hx, rfl, rfl, trivial⟩ hcd hm ha ?_
  have far : x ≠ hp.objs.size := Nat.ne_of_lt (Heap.lt_size hx)
  have lc : PySem.W.Looks (model prog w) hp (classData C) cd := PySem.W.looks_clsIn X hcd
  cases cd
  cases hh
  unfold storeInOwnDict ownDictForStores
  repeat (first
    | with_reducible refine store_in_new ?_ ?_
    | with_reducible refine wpAny_loadPart_at hx ?_
    | with_reducible refine lc.at ?_
    | wp_step)
  · refine ⟨_, #[], _, (Heap.get?_update_ne _ _ _ _ far.symm).trans (Heap.get?_push_at rfl rfl), rfl, ?_, fun _ => rfl⟩
    exact fun e z => absurd z (by simp)
  · intro h' tk' n s
    have there := Heap.get?_push_of_some ({ cls := .type "dict", data := .dict #[] } : Obj) hx
    refine hq h' tk' hp.objs.size (fun b o nb z => ?_) (Nat.le_refl _) far.symm ?_ n
    · have e1 := s.2 b (Nat.ne_of_lt (Heap.lt_size z))
      rw [e1, Heap.get?_update_ne _ _ _ _ nb]
      exact Heap.get?_push_of_some _ z
    · rw [s.2 x far]
      exact Heap.get?_update_self _ there rfl
/-- a further one -/
theorem set_next {K : PySem.W.Frag} {name : Str} {tk : Tok} {v : Value} {x C dx : Addr} {fv : Array Value} {cd : ClassData} {m0 : Str → Option Value} {nl : List Str} (X : K.In hp) (hx : hp.get? x = some { cls := .ref C, dict := some dx, data := .fields fv })
    (hns : hp.Ns1 dx m0) (hw : Within m0 nl) (hz : nl.length ≤ 1000) (hcd : PySem.W.clsIn K C = some cd) (hm : MroOk cd.mro) (hh : cd.hasDict = true) (ha : PySem.W.findIn K (.ref C) name = some none)
    (hq : ∀ h' tk', (∀ b o, b ≠ dx → hp.get? b = some o → h'.get? b = some o) →
      h'.Ns1 dx (fun y => if y = name then some v else m0 y) → R (.ok (.ret .none)) ⟨h', g, d, tk', os⟩) :
    codeAny (model prog w) A (.call (.builtin "object.__setattr__") ⟨[.ref x, .str name tk, v], []⟩) R ⟨hp, g, d, t, os⟩ := by
  obtain ⟨oD, _, _, at_, _⟩ := hns.count hw
  refine set_enter (od := some oD) X ⟨hx, rfl, rfl, at_⟩ hcd hm ha ?_
  have lc : PySem.W.Looks (model prog w) hp (classData C) cd := PySem.W.looks_clsIn X hcd
  cases cd
  cases hh
  unfold storeInOwnDict ownDictForStores
  repeat (first
    | with_reducible refine PySem.OEX.store_in_old hns hw hz ?_
    | with_reducible refine wpAny_loadPart_at hx ?_
    | with_reducible refine lc.at ?_
    | wp_step)
  exact fun h' tk' n s => hq h' tk' (fun b o nb z => (s.2 b nb).trans z) n
end
/-! ### over the abstract heap -/
/-- the class of an error: over the built-in B -/
structure ErC (K : PySem.W.Frag) (C : Addr) (bmB : List Value) (newId : String) : Prop where
  cls : ∃ nm q N bs bm sn sub ab col dd k0 k1 k2 k3 k5, K.lookup C = some (excClassObj nm q C N bs bm true sn sub ab col dd k0 k1 k2 k3 k5 newId) ∧ overB bmB (.ref C :: bm) = true ∧ overB bmB bm = true
  mok : ∀ l, overB bmB l = true → MroOk l
  sa : PySem.W.findIn K (.ref C) "__setattr__" = some (some (.builtin "object.__setattr__"))
  exC : PySem.W.subIn K (.ref C) (.type "BaseException") = some true
  tyC : PySem.W.typeIn K (.ref C) = some (.type "type")
  kC : PySem.W.keepIn K (.ref C) = true
theorem ErC.cd {K : PySem.W.Frag} {C : Addr} {bmB : List Value} {newId : String} (T : ErC K C bmB newId) : ∃ cd, PySem.W.clsIn K C = some cd ∧ MroOk cd.mro ∧ cd.hasDict = true := by
  obtain ⟨nm, q, N, bs, bm, sn, sub, ab, col, dd, k0, k1, k2, k3, k5, hC, hm, _⟩ := T.cls
  refine ⟨{ name := nm, bases := bs, mro := .ref C :: bm, ns := N, qualname := q, hasDict := true, slotNames := sn, subclasses := sub, abstract := ab, collection := col, hasDel := false }, ?_, T.mok _ hm, rfl⟩
  unfold PySem.W.clsIn
  rw [hC] <;> rfl
section
variable {X : Cx} {pins : List (Addr × Obj)} {σ : St} {H : Hp} {s : Shared} {a C dx : Addr} {f : Str} {y : V} {u : Value} {fs : List (Str × V)} {Q : Unit → Shared → Prop} {E : Value → Shared → Prop} {A : Around} {bmB : List Value} {newId : String}
theorem err_first (T : ErC X.K C bmB newId) (I : Inv X pins σ H s) (e : H a = some (exo a C none)) (hno : PySem.W.findIn X.K (.ref C) f = some none) (ry : RelV y u)
    (h : ∀ dx s', H dx = none → dx ≠ a → Inv X pins σ (upd (upd H dx (exd dx [(f, y)])) a (exo a C (some dx))) s' → Q () s') : wpAny (model X.prog X.w) A (setAttr (.ref a) f u) Q E s := by
  obtain ⟨cd, hcd, hm, hh⟩ := T.cd
  obtain ⟨t1, ho⟩ := exo_at I.hok e
  obtain ⟨hp, g, d, t, os⟩ := s
  refine PySem.W.set_plain I.kIn (od := none) ⟨ho, rfl, rfl, trivial⟩ T.sa (set_first I.kIn ho hcd hm hh hno fun h' tk' dx k dn dne hx hn => ?_)
  have hnd : H dx = none := I.hok.fresh dn
  have off : ∀ {b : Addr} {o : Obj}, hp.get? b = some o → b ≠ dx := fun q => Nat.ne_of_lt (Nat.lt_of_lt_of_le (Heap.lt_size q) dn)
  have na : ∀ {b : Addr}, H b = none → b ≠ a := fun n z => by
    rw [z, e] at n
    cases n
  refine h dx _ hnd dne (I.un (t' := tk') {
    keep := fun b o q n _ _ => k b o (na n) q
    slot := fun b o q n _ _ => ⟨o.slots, k b o (na n) q⟩
    free := fun b o q n _ => by
      rw [upd_ne (na n), upd_ne (off q)]
      exact n
    there := fun b o q _ => if hb : b = a then ⟨_, hb ▸ hx⟩ else ⟨o, k b o hb q⟩
    tups := fun b xs q => by
      rw [upd_ne (at_ne e q exo_tup), upd_ne (ne_of_none q hnd)]
      exact q
    frzs := fun b o v q => by
      rw [upd_ne (at_ne e q exo_frz), upd_ne (ne_of_none q hnd)]
      exact q
    tbls := fun b ps q => ⟨#[], by
      rw [upd_ne (at_ne e q exo_tbl), upd_ne (ne_of_none q hnd), q]
      simp⟩ } fun b o q => ?_)
  rcases Decidable.em (b = a) with rfl | hb
  · rw [upd_same] at q
    cases q
    exact exo_ok hx
  · rw [upd_ne hb] at q
    rcases Decidable.em (b = dx) with rfl | hd
    · rw [upd_same] at q
      cases q
      exact exd_ok hn (relO_put (fs := []) ry fun g => True.intro)
    · rw [upd_ne hd] at q
      refine (I.hok b o q).stay (fun c v hc z => k c v ?_ z) (fun c hc => ?_) (fun c xs hc => ?_)
      · rcases hc with hc | hc
        · rw [hc]
          exact hb
        · exact at_ne e hc exo_own
      · rw [upd_ne (at_ne e hc exo_own), upd_ne (ne_of_none hc hnd)]
        exact hc
      · rw [upd_ne (at_ne e hc exo_tup), upd_ne (ne_of_none hc hnd)]
        exact hc
theorem err_next (T : ErC X.K C bmB newId) (I : Inv X pins σ H s) (e : H a = some (exo a C (some dx))) (ed : H dx = some (exd dx fs)) (hl : fs.length ≤ 900) (hno : PySem.W.findIn X.K (.ref C) f = some none) (ry : RelV y u)
    (h : ∀ s', Inv X pins σ (upd H dx (exd dx ((f, y) :: fs))) s' → Q () s') : wpAny (model X.prog X.w) A (setAttr (.ref a) f u) Q E s := by
  obtain ⟨cd, hcd, hm, hh⟩ := T.cd
  obtain ⟨t1, ho⟩ := exo_at I.hok e
  obtain ⟨mA, hns, rel⟩ := exd_at I.hok ed
  have hw := within_of rel
  obtain ⟨hp, g, d, t, os⟩ := s
  obtain ⟨oD, _, _, hoD, _⟩ := hns.count hw
  refine PySem.W.set_plain I.kIn (od := some oD) ⟨ho, rfl, rfl, hoD⟩ T.sa (set_next I.kIn ho hns hw (by rw [List.length_map]; omega) hcd hm hh hno fun h' tk' k hn => ?_)
  obtain ⟨o, _, _, e', _⟩ := id hn
  exact h _ (I.write (t' := tk') (x := dx) (e := dx) (o := exd dx ((f, y) :: fs)) (by rw [ed]; trivial) (.inl rfl) k ⟨o, e'⟩ (exd_ok hn (relO_put ry rel)))
end
end Dn


set_option Elab.async false
set_option linter.all false
set_option maxRecDepth 100000
set_option maxHeartbeats 2000000
/-! DnErr: an error's __init__, the error made, raised. -/
namespace Dn
open PySem L2
/-- self.f = e, self an error under construction -/
def tEst (K : PySem.W.Frag) (bmB : List Value) (newId : String) (f : Str) (to te : TE) : TS := fun D σ H => te σ H fun y H1 => to σ H1 fun x H2 => ∃ a C : Addr, x = .ref a ∧ ErC K C bmB newId ∧ PySem.W.findIn K (.ref C) f = some none ∧
  ((H2 a = some (exo a C none) ∧ ∀ dx, H2 dx = none → dx ≠ a → D.nx σ (upd (upd H2 dx (exd dx [(f, y)])) a (exo a C (some dx)))) ∨
    ∃ (dx : Addr) (fs : List (Str × V)), H2 a = some (exo a C (some dx)) ∧ H2 dx = some (exd dx fs) ∧ fs.length ≤ 900 ∧ D.nx σ (upd H2 dx (exd dx ((f, y) :: fs))))
theorem ps_est {X : Cx} {bmB : List Value} {newId : String} {o e : Expr} {to te : TE} {f : Str} {p' pos : Pos} (ho : PE X o to) (he : PE X e te) (hs : swapsWith e (some (.Attribute o f p')) pos.line X.env = pure false) :
    PS X (.Assign [.Attribute o f p'] e pos) (tEst X.K bmB newId f to te) := ⟨fun pins s σ H D I h => by
  refine plainObj_wpAny_Assign_Attribute (thn (he.run pins s σ H _ I h) fun v s1 ⟨y, H1, I1, r1, q1⟩ => thn (ho.run pins s1 σ H1 _ I1 q1) fun u s2 ⟨x, H2, I2, r2, a, C, ex, T, hno, q⟩ => ?_) hs
  cases ex
  cases r2
  rcases q with ⟨ea, q⟩ | ⟨dx, fs, ea, ed, hl, q⟩
  · exact err_first T I2 ea hno r1 fun dx s' n ne J => ⟨σ, _, J, q dx n ne⟩
  · exact err_next T I2 ea ed hl hno r1 fun s' J => ⟨σ, _, J, q⟩⟩
/-- the promise of such an __init__ -/
def spE (K : PySem.W.Frag) (bmB : List Value) (newId : String) (fns : List Str) : Sp := fun vs H Q _ => ∃ (a C : Addr) (ws : List V), vs = .ref a :: ws ∧ ws.length = fns.length ∧ H a = some (exo a C none) ∧ ErC K C bmB newId ∧ (∀ f ∈ fns, PySem.W.findIn K (.ref C) f = some none) ∧
  ∀ dx, H dx = none → dx ≠ a → Q .non (upd (upd H dx (exd dx (fns.zip ws).reverse)) a (exo a C (some dx)))
section
variable {P : Program} {w : World} {K : PySem.W.Frag} {mg : Str → Option Value} {base : Heap} {T : CXT} {k : Nat} {f : Addr} {fd : FuncData} {x qual f1 f2 : Str} {params : Arguments} {scope : Scope} {bmB : List Value} {newId : String} {p1 p2 p3 p4 q1 q2 q3 q4 : Pos}
theorem fn_err1 (G : FunD K x qual params [.Assign [.Attribute (.Name "self" p1) f1 p2] (.Name f1 p3) p4] scope [] [] f fd) (S : FnScope ["self", f1] ["self", f1] scope) (v0 : Vis scope "self") (v1 : Vis scope f1)
    (d1 : (f1 == ("__debug__" : Str)) = false) (c1 : (f1 == ("__classdict__" : Str)) = false) (sw : ∀ env, swapsWith (.Name f1 p3) (some (.Attribute (.Name "self" p1) f1 p2)) p4.line env = pure false) :
    FnOkG P w K mg base T (k + 1) f fd ["self", f1] (spE K bmB newId [f1]) := by
  refine fn_ofG G S (fun vs H Q E h => ?_) fun cdv A out s H vs Q E hr h => ⟨_, pss_one (ps_est (bmB := bmB) (newId := newId) (pe_var (i := 0) rfl v0) (pe_var (i := 1) rfl v1 d1 c1) (sw _)), ?_⟩
  · obtain ⟨a, C, ws, rfl, hl, _⟩ := h
    simp [hl]
  · obtain ⟨a, C, ws, rfl, hl, ha, hT, hno, q⟩ := h
    match ws, hl with
    | [y], _ => exact ⟨y, rfl, .ref a, rfl, a, C, rfl, hT, hno f1 (by simp), .inl ⟨ha, fun dx h1 h2 => q dx h1 h2⟩⟩
theorem upd_pair {H : Hp} {a d : Addr} {o u v : HO} (h : d ≠ a) : upd (upd (upd H d o) a u) d v = upd (upd H d v) a u := by
  funext b
  unfold upd
  by_cases h1 : b = d
  · subst h1
    simp [h]
  · simp [h1]
theorem fn_err2 (G : FunD K x qual params [.Assign [.Attribute (.Name "self" p1) f1 p2] (.Name f1 p3) p4, .Assign [.Attribute (.Name "self" q1) f2 q2] (.Name f2 q3) q4] scope [] [] f fd) (S : FnScope ["self", f1, f2] ["self", f1, f2] scope)
    (v0 : Vis scope "self") (v1 : Vis scope f1) (v2 : Vis scope f2) (d1 : (f1 == ("__debug__" : Str)) = false) (c1 : (f1 == ("__classdict__" : Str)) = false) (d2 : (f2 == ("__debug__" : Str)) = false) (c2 : (f2 == ("__classdict__" : Str)) = false)
    (sw : ∀ env, swapsWith (.Name f1 p3) (some (.Attribute (.Name "self" p1) f1 p2)) p4.line env = pure false) (sw2 : ∀ env, swapsWith (.Name f2 q3) (some (.Attribute (.Name "self" q1) f2 q2)) q4.line env = pure false) :
    FnOkG P w K mg base T (k + 1) f fd ["self", f1, f2] (spE K bmB newId [f1, f2]) := by
  refine fn_ofG G S (fun vs H Q E h => ?_) fun cdv A out s H vs Q E hr h => ⟨_, pss_cons (ps_est (bmB := bmB) (newId := newId) (pe_var (i := 0) rfl v0) (pe_var (i := 1) rfl v1 d1 c1) (sw _)) (pss_one (ps_est (bmB := bmB) (newId := newId) (pe_var (i := 0) rfl v0) (pe_var (i := 2) rfl v2 d2 c2) (sw2 _))), ?_⟩
  · obtain ⟨a, C, ws, rfl, hl, _⟩ := h
    simp [hl]
  · obtain ⟨a, C, ws, rfl, hl, ha, hT, hno, q⟩ := h
    match ws, hl with
    | [y, z], _ =>
      refine ⟨y, rfl, .ref a, rfl, a, C, rfl, hT, hno f1 (by simp), .inl ⟨ha, fun dx h1 h2 => ?_⟩⟩
      refine ⟨z, rfl, .ref a, rfl, a, C, rfl, hT, hno f2 (by simp), .inr ⟨dx, [(f1, y)], upd_same, ?_, by simp, ?_⟩⟩
      · rw [upd_ne h2, upd_same]
      · rw [upd_pair h2]
        exact q dx h1 h2
end
/-! ### the error made, raised -/
def tMkE (C : Addr) (fns : List Str) (ta : TA) : St → Hp → XK → Prop := fun σ H Q => ta σ H fun vs H1 => vs.length = fns.length ∧ ∀ d, H1 d = none → Q (.ref C) (some d) (upd H1 d (.xd (fns.zip vs).reverse))
theorem del_pair {H : Hp} {a d : Addr} {o u v w : HO} (ha : H a = none) (h : d ≠ a) : upd (L2.del (upd (upd (upd H a w) d o) a u) a) d v = upd H d v := by
  funext b
  unfold upd L2.del
  by_cases h1 : b = d
  · simp [h1]
  · by_cases h2 : b = a
    · subst h2
      simp [h1, ha]
    · simp [h1, h2]
section
variable {X : Cx} {e : Expr} {es : List Expr} {ta : TA} {p pos : Pos} {x : Str} {C fI : Addr} {k : Nat} {fd : FuncData} {ps fns : List Str} {B newId initId : String} {bmB : List Value}
theorem pmk_err (FB : ExcBaseFacts B newId initId bmB) (T : ErC X.K C bmB newId) (hno : ∀ f ∈ fns, PySem.W.findIn X.K (.ref C) f = some none) (iC : PySem.W.findIn X.K (.ref C) "__init__" = some (some (.ref fI))) (tI : PySem.W.typeIn X.K (.ref fI) = some (.type "function"))
    (F1 : FnOkG X.prog X.w X.K X.mg X.base (L2N.CX X.prog X.w) k fI fd ps (spE X.K bmB newId fns)) (hr : RoomG (k + 1) X.A) (hb : Binds X.K fd ps []) (hz : fns.length ≤ 900) (hg : Gl X x) (hm : X.mg x = some (.ref C)) (ha : PA X (e :: es) ta)
    (hdb : (x == ("__debug__" : Str)) = false) (he : starEach (e :: es) X.env = (false, eval e X.env) :: starEach es X.env) (hpl : (backTo pos (starEach es X.env)).any (·.1) = false) :
    L2N.PMk X (.Call (.Name x p) (e :: es) [] pos) (tMkE C fns ta) := by
  intro pins s σ H Q I h
  obtain ⟨nm, q, N, bs, bm, sn, sub, ab, col, dd, k0, k1, k2, k3, k5, hC, _, hbm⟩ := T.cls
  refine wpAny_Call_Name_kw (ld_glob I hg hm (PySem.W.callWith_K (h₀ := X.base) I.ok.mod.kin T.kC
    (thn (ha.run pos pins s σ H _ I h) fun us s1 ⟨vs, H1, I1, r1, hl, q1⟩ => ⟨I1.kIn, ?_⟩) he hpl) hdb)
  show wpAny _ _ (call (.ref C) us) _ _ _
  obtain ⟨hp, g, dr, tk, os⟩ := s1
  obtain ⟨a, hA⟩ : ∃ a, a = hp.objs.size + 1 := ⟨_, rfl⟩
  have hsz : hp.objs.size ≤ a := by omega
  have hn : H1 a = none := I1.hok.fresh hsz
  obtain ⟨h2, hH⟩ : ∃ h2, h2 = (hp.push (PySem.W.kdv_tup us)).push (PySem.HandSPX.excO C hp.objs.size) := ⟨_, rfl⟩
  have kk : ∀ b o, hp.get? b = some o → h2.get? b = some o := fun b o z => by
    rw [hH]
    exact Heap.get?_push_of_some _ (Heap.get?_push_of_some _ z)
  have at2 : h2.get? a = some (PySem.HandSPX.excO C hp.objs.size) := by
    rw [hH, hA]
    heap_get
  have I2 : Inv X pins σ (upd H1 a (exo a C none)) ⟨h2, g, dr, tk, os⟩ := I1.laid (t' := tk) (a := a) (o := exo a C none) (h' := h2) kk hsz (exo_ok at2)
  have lus : us.length = fns.length := by rw [← r1.length, hl]
  have sp : spE X.K bmB newId fns (.ref a :: vs) (upd H1 a (exo a C none)) (fun v H2 => v = .non ∧ ∃ (d : Addr) (fs : List (Str × V)), H2 a = some (exo a C (some d)) ∧ H2 d = some (exd d fs) ∧ H1 d = none ∧ Q (.ref C) (some d) (upd (L2.del H2 a) d (.xd fs))) fun _ _ _ => False := by
    refine ⟨a, C, vs, rfl, hl, upd_same, T, hno, fun dx h1 h3 => ⟨rfl, dx, (fns.zip vs).reverse, upd_same, ?_, ?_, ?_⟩⟩
    · rw [upd_ne h3, upd_same]
    · rw [upd_ne h3] at h1
      exact h1
    · rw [del_pair hn h3]
      rw [upd_ne h3] at h1
      exact q1 dx h1
  have nps := F1.len _ _ _ _ sp
  have r2 : Vals (V.ref a :: vs) (Value.ref a :: us) := .cons rfl r1
  have b2 := hb ⟨h2, g, dr, tk, os⟩ (.ref a :: us) I2.kIn (by rw [List.append_nil, ← nps, r2.length])
  rw [List.append_nil] at b2
  have big : us.length ≤ sizeLine := by
    rw [lus, sizeLine_eq]
    omega
  subst hA hH
  refine wpAny_call (PySem.HandSPX.call_own FB (fun Y => over_has Y hbm) (I1.kIn _ _ hC) (PySem.W.looks_findIn I1.kIn iC) (fun self => PySem.W.bind_fn I1.kIn self tI) big
    (codeAny_mono (F1.run _ X.stack _ _ ⟨Value.ref (hp.objs.size + 1) :: us, []⟩ _ _ _ (fun _ _ _ => False) (hr.make C us []) (I2.env0.make C us []) b2 r2 sp) fun r s' hq => ?_))
  match r, hq with
  | .error er, hq =>
    obtain ⟨_, _, _, _, _, _, _, _, _, _, _, _, z⟩ := hq
    exact z.elim
  | .ok (.ret u), hq =>
    obtain ⟨v, H2, os2, bare2, un2, hok2, rv, ev, d, fs, ea, ed, hd1, q2⟩ := hq
    cases ev
    obtain ⟨h3, g2, d2, t2, os'⟩ := s'
    obtain ⟨t0, G, J, kG, ge, hoe, na⟩ := mk_end0 (d2 := d2) (t2 := t2) I1 hsz kk un2 hok2 os2 bare2 ea ed hd1
    exact ⟨rv, _, _, _, ⟨G, g2, d2, t2, os'⟩, _, .ref C, some d, rfl, J, kG, ge, hoe, ⟨rfl, rfl, fun vs hv => by cases hv; rfl⟩, rfl, rfl, na, rfl, bare2, raises_own T.exC T.tyC, q2⟩
  | .ok .next, hq => exact hq.elim
  | .ok .brk, hq => exact hq.elim
  | .ok .cont, hq => exact hq.elim
end
/-- raise C(e, ..) -/
def sRaise (c : Str) (fns : List Str) (r : Den (List D)) : DenS := fun Γ Ω => match r Γ Ω with
  | none => none
  | some (.ok ds, Ω1) => if ds.length = fns.length then some (.ex ⟨c, (fns.zip ds).reverse⟩, Γ, Ω1) else none
  | some (.ex e, Ω1) => some (.ex e, Γ, Ω1)
theorem rlF_snoc {K : PySem.W.Frag} {m : Mp} {Ω : Om} {H : Hp} {f : Str} {d : D} {v : V} : ∀ {fs : List (Str × D)} {gs : List (Str × V)}, RlF K m Ω H fs gs → Rl K m Ω H d v → RlF K m Ω H (fs ++ [(f, d)]) (gs ++ [(f, v)])
  | [], gs, h, r => by
    unfold RlF at h
    subst h
    rw [List.nil_append, List.nil_append]
    unfold RlF
    exact ⟨v, [], rfl, r, by unfold RlF; rfl⟩
  | (k, d') :: fs, gs, h, r => by
    unfold RlF at h
    obtain ⟨v', gs', rfl, h1, h2⟩ := h
    rw [List.cons_append, List.cons_append]
    unfold RlF
    exact ⟨v', gs' ++ [(f, v)], rfl, h1, rlF_snoc h2 r⟩
theorem rlF_zip {K : PySem.W.Frag} {m : Mp} {Ω : Om} {H : Hp} : ∀ {fns : List Str} {ds : List D} {vs : List V}, RlL K m Ω H ds vs → ds.length = fns.length → RlF K m Ω H (fns.zip ds).reverse (fns.zip vs).reverse
  | [], ds, vs, h, hl => by
    rw [List.zip_nil_left, List.zip_nil_left, List.reverse_nil, List.reverse_nil]
    unfold RlF
    rfl
  | f :: fns, [], vs, h, hl => by cases hl
  | f :: fns, d :: ds, vs, h, hl => by
    unfold RlL at h
    obtain ⟨v, vs', rfl, h1, h2⟩ := h
    rw [List.zip_cons_cons, List.zip_cons_cons, List.reverse_cons, List.reverse_cons]
    exact rlF_snoc (rlF_zip h2 (by simpa using hl)) h1
structure ErG (P : Program) (w : World) (K : PySem.W.Frag) (mg : Str → Option Value) (base : Heap) (c : Str) (fns ps : List Str) (k : Nat) : Prop where
  ex : ∃ (B newId initId : String) (bmB : List Value) (fI : Addr) (fd : FuncData), ExcBaseFacts B newId initId bmB ∧ ErC K (cad K c) bmB newId ∧ (∀ f ∈ fns, PySem.W.findIn K (.ref (cad K c)) f = some none) ∧ PySem.W.findIn K (.ref (cad K c)) "__init__" = some (some (.ref fI)) ∧
    PySem.W.typeIn K (.ref fI) = some (.type "function") ∧ FnOkG P w K mg base (L2N.CX P w) k fI fd ps (spE K bmB newId fns) ∧ Binds K fd ps [] ∧ fns.length ≤ 900 ∧ mg c = some (.ref (cad K c))
section
variable {X : Cx} {E : St → XK} {e : Expr} {es : List Expr} {r : Den (List D)} {p pos pos' : Pos} {c : Str} {k : Nat} {ps fns : List Str}
theorem ds_raise (G : ErG X.prog X.w X.K X.mg X.base c fns ps k) (hr : RoomG (k + 1) X.A) (hc : X.calm = true) (tk : L2N.Takes X (fun cls d σ H => E σ cls d H)) (ha : DA X E (e :: es) r) (hg : Gl X c := by rfl)
    (hdb : (c == ("__debug__" : Str)) = false := by decide) (he : starEach (e :: es) X.env = (false, eval e X.env) :: starEach es X.env := by rfl) (hpl : (backTo pos (starEach es X.env)).any (·.1) = false := by rfl) :
    DS X E (.Raise (some (.Call (.Name c p) (e :: es) [] pos)) none pos') (sRaise c fns r) := by
  obtain ⟨B, newId, initId, bmB, fI, fd, FB, T, hno, iC, tI, F1, hb, hz, hm⟩ := G.ex
  refine PS.mono (L2N.ps_raise hc tk (pmk_err FB T hno iC tI F1 hr hb hz hg hm ha hdb he hpl)) fun D σ H h => ?_
  obtain ⟨m, Γ, Ω, s, h⟩ := h
  refine ⟨m, Γ, Ω, s, ?_⟩
  unfold sRaise at h
  cases e1 : r Γ Ω with
  | none => rw [e1] at h; exact h
  | some x =>
    obtain ⟨q, Ω'⟩ := x
    rw [e1] at h
    cases q with
    | ok ds =>
      dsimp only at h
      by_cases hl : ds.length = fns.length
      · rw [if_pos hl] at h
        intro m' vs H' g rl
        refine ⟨by rw [← rl.length, hl], fun d hd => ?_⟩
        have g2 := Go.new (K := X.K) g.ok (o := .xd (fns.zip vs).reverse) hd
        exact h m' σ _ _ _ (g.trans g2) ((s.go (g.trans g2)).slots) ⟨rfl, .inr ⟨d, _, rfl, upd_same, RlF.go g2.toGw g.ok _ _ (rlF_zip rl hl)⟩⟩
      · rw [if_neg hl] at h
        exact h.elim
    | ex e => exact fun m' H' cls dd g r => h m' σ H' cls dd g (s.go g).slots r
end
end Dn


set_option Elab.async false
set_option linter.all false
set_option maxRecDepth 100000
set_option maxHeartbeats 2000000
/-! DnTry: try: .. except C as n: .. -/
namespace Dn
open PySem L2
section
open PyProof.Rows
variable {prog : Program} {w : World} {A : Around} {E : Value → Shared → Prop} {s : Shared}
end
/-! ### the statement -/
theorem Slots.drop {K : PySem.W.Frag} {m : Mp} {Ω : Om} {H : Hp} {Γ : Gm} {σ : St} (s : Slots K m Ω H Γ σ) (i : Nat) (v : Option V) : Slots K m Ω H (Γ.set i none) (σ.set i v) := by
  refine ⟨by rw [List.length_set, List.length_set, s.1], fun j e h => ?_⟩
  by_cases hj : i = j
  · subst hj
    have hl : i < Γ.length := by
      have := (List.getElem?_eq_some_iff.mp h).1
      rwa [List.length_set] at this
    rw [List.getElem?_set_self hl] at h
    cases h
  · rw [List.getElem?_set_ne hj] at h ⊢
    exact s.2 j e h
/-- behind the suite the name is gone -/
def endX (i : Nat) : Option (Fl × Gm × Om) → Option (Fl × Gm × Om)
  | some (.nx, Γ, Ω) => some (.nx, Γ.set i none, Ω)
  | some (.bk, Γ, Ω) => some (.bk, Γ.set i none, Ω)
  | some (.ct, Γ, Ω) => some (.ct, Γ.set i none, Ω)
  | some (.rt d, Γ, Ω) => some (.rt d, Γ, Ω)
  | _ => none
theorem mem_lookup {tab : List (Str × Bool)} {c : Str} {b : Bool} : tab.lookup c = some b → (c, b) ∈ tab := by
  induction tab with
  | nil => intro h; cases h
  | cons p tab ih =>
    intro h
    obtain ⟨k, v⟩ := p
    rw [List.lookup_cons] at h
    by_cases e : c = k
    · subst e
      rw [beq_self_eq_true] at h
      cases h
      exact List.mem_cons_self ..
    · rw [beq_eq_false_iff_ne.mpr e] at h
      exact List.mem_cons_of_mem _ (ih h)
section
variable {X : Cx} {E : St → XK} {c n : Str} {i : Nat} {body suite : List Stmt} {b₀ : Stmt} {np pos pos' : Pos} {b : DenS} {u : Xn → DenS} {tab : List (Str × Bool)}
end
/-! ### expressions in a suite -/
theorem xd_go {K : PySem.W.Frag} {m m' : Mp} {Ω Ω' : Om} {H H' : Hp} {dd : Addr} {gs : List (Str × V)} (c : CellsOk K m Ω H) (h : H dd = some (.xd gs)) (g : Go K m Ω H m' Ω' H') : H' dd = some (.xd gs) := by
  refine g.frame _ _ h fun l => ?_
  rcases c.live l with ⟨_, z⟩ | ⟨_, z⟩ | ⟨_, _, _, z⟩ | ⟨_, z⟩ | ⟨_, z⟩ <;> rw [h] at z <;> cases z
/-- e.f of the caught error -/
def fXf (c f : Str) (x : Xn) : Den D := fun _ Ω => if x.cls = c then match x.fs.lookup f with
  | some d => some (.ok d, Ω)
  | none => none
  else none
section
variable {X : Cx} {i : Nat} {a : Addr} {cls : Value} {d : Option Addr} {e e2 : Expr} {es : List Expr} {f g : Xn → Den D} {r : Xn → Den (List D)} {pos : Pos}
end
end Dn


set_option Elab.async false
set_option linter.all false
set_option maxRecDepth 100000
set_option maxHeartbeats 2000000
/-! DnErrH: what the head must know of errors; sorted(d) of any size. -/
namespace Dn
open PySem PySem.Spec PyProof.Rows L2
def erClsB (K : PySem.W.Frag) (C : Addr) (bmB : List Value) (newId : String) : Bool := match K.lookup C with
  | some ⟨.type "type", _, .cls cd, sl⟩ => (match cd.mro, sl.toList with
    | .ref D :: bm, [_, _, _, _, some (.builtin n), _] => decide (D = C) && (decide (n = newId) && (!cd.hasDel && (cd.hasDict && overB bmB bm)))
    | _, _ => false)
  | _ => false
theorem erCls_ok {K : PySem.W.Frag} {C : Addr} {bmB : List Value} {newId : String} (q : erClsB K C bmB newId = true) :
    ∃ nm q N bs bm sn sub ab col dd k0 k1 k2 k3 k5, K.lookup C = some (excClassObj nm q C N bs bm true sn sub ab col dd k0 k1 k2 k3 k5 newId) ∧ overB bmB (.ref C :: bm) = true ∧ overB bmB bm = true := by
  unfold erClsB at q
  split at q
  · rename_i dd cd sl ho
    split at q
    · rename_i D bm k0 k1 k2 k3 n k5 hm hs
      obtain ⟨q1, q⟩ := He.ba q
      obtain ⟨q2, q⟩ := He.ba q
      obtain ⟨q3, q⟩ := He.ba q
      obtain ⟨q4, q5⟩ := He.ba q
      have e1 := of_decide_eq_true q1
      have e2 := of_decide_eq_true q2
      subst e1 e2
      cases cd with
      | mk nm bs mro ns qn hd sn sub ab col del =>
        dsimp only at hm q3 q4
        have e3 : del = false := by simpa using q3
        subst hm q4 e3
        have e4 : sl = #[k0, k1, k2, k3, some (.builtin n), k5] := by
          cases sl with
          | mk l => exact congrArg Array.mk hs
        subst e4
        refine ⟨nm, qn, ns, bs, bm, sn, sub, ab, col, dd, k0, k1, k2, k3, k5, ho, ?_, q5⟩
        unfold overB
        rw [q5, Bool.true_or]
    · cases q
  · cases q
/-- the built-in ones -/
inductive Base2 where
  | value | arith | lookup_ | runtime
def veT : List Value := [.type "ValueError", .type "Exception", .type "BaseException", .type "object"]
def aeT : List Value := [.type "ArithmeticError", .type "Exception", .type "BaseException", .type "object"]
def erB (c : Str) (fns : List Str) (bmB : List Value) (newId : String) (K : PySem.W.Frag) : Bool := erClsB K (cad K c) bmB newId && (He.eqO (PySem.W.findIn K (.ref (cad K c)) "__setattr__") (some (some (.builtin "object.__setattr__"))) && (decide (PySem.W.subIn K (.ref (cad K c)) (.type "BaseException") = some true) &&
  (decide (PySem.W.typeIn K (.ref (cad K c)) = some (.type "type")) && (PySem.W.keepIn K (.ref (cad K c)) && ((fns.all fun f => He.eqO (PySem.W.findIn K (.ref (cad K c)) f) (some none)) &&
  (decide (PySem.W.typeIn K (.ref (He.ma K (cad K c) "__init__")) = some (.type "function")) && He.eqO (PySem.W.findIn K (.ref (cad K c)) "__init__") (some (some (.ref (He.ma K (cad K c) "__init__"))))))))))
structure ErF (K : PySem.W.Frag) (c : Str) (fns : List Str) (bmB : List Value) (newId : String) : Prop where
  er : (∀ l, overB bmB l = true → MroOk l) → ErC K (cad K c) bmB newId
  no : ∀ f ∈ fns, PySem.W.findIn K (.ref (cad K c)) f = some none
  ty : PySem.W.typeIn K (.ref (He.ma K (cad K c) "__init__")) = some (.type "function")
  ini : PySem.W.findIn K (.ref (cad K c)) "__init__" = some (some (.ref (He.ma K (cad K c) "__init__")))
theorem erB_ok {c : Str} {fns : List Str} {bmB : List Value} {newId : String} {K : PySem.W.Frag} (h : erB c fns bmB newId K = true) : ErF K c fns bmB newId := by
  unfold erB at h
  obtain ⟨h1, h⟩ := He.ba h
  obtain ⟨h2, h⟩ := He.ba h
  obtain ⟨h3, h⟩ := He.ba h
  obtain ⟨h4, h⟩ := He.ba h
  obtain ⟨h5, h⟩ := He.ba h
  obtain ⟨h6, h⟩ := He.ba h
  obtain ⟨h7, h8⟩ := He.ba h
  exact ⟨fun m => ⟨erCls_ok h1, m, He.eqO_ok h2, of_decide_eq_true h3, of_decide_eq_true h4, h5⟩, fun f hf => He.eqO_ok (List.all_eq_true.mp h6 f hf), of_decide_eq_true h7, He.eqO_ok h8⟩
theorem ve_mok : ∀ l, overB veT l = true → MroOk l := fun l h => over_ok F.store_ValueError (by decide +kernel) h
theorem ae_mok : ∀ l, overB aeT l = true → MroOk l := fun l h => over_ok F.store_ArithmeticError (by decide +kernel) h
/-! ### sorted(d), any size -/
section
variable {X : Cx}
end
end Dn


set_option Elab.async false
set_option linter.all false
set_option maxRecDepth 100000
/-! DnHead2: the Hook with defs inside properties and class methods. -/
namespace Dn
open PySem L2
abbrev AlC : Type := AlB × He.AlD
structure SaysC (fa : List He.Fa) (fn : List He.DefD) (fw : List He5.DefA) (ex : PySem.W.Frag → Bool) (K : PySem.W.Frag) : Prop extends SaysB fa fn ex K where
  w : He5.SaysA [] fw K
/-! ### properties -/
/-! ### what a handler must know -/
def xfOkB (c : Str) (K : PySem.W.Frag) : Bool := xfB K (cad K c)
theorem xfOk {c : Str} {K : PySem.W.Frag} (h : xfOkB c K = true) : XfC K (cad K c) := xfB_ok h
def exmB (c d : Str) (b : Bool) (K : PySem.W.Frag) : Bool := decide (PySem.W.exmOne K (.ref (He.ga K c)) (.ref (cad K d)) = some b)
theorem exmB_ok {c d : Str} {b : Bool} {K : PySem.W.Frag} (h : exmB c d b K = true) : PySem.W.exmOne K (.ref (He.ga K c)) (.ref (cad K d)) = some b := of_decide_eq_true h
end Dn


set_option Elab.async false
set_option linter.all false
set_option maxRecDepth 100000
/-! DnVal: what denotations come to. -/
namespace Dn
open PySem L2
/-! ### no cell is named -/
mutual
theorem below_mo {j k : Nat} (hjk : j ≤ k) : ∀ d : D, below j d = true → below k d = true
  | .tup xs, h => by unfold below at h ⊢; exact belowL_mo hjk xs h
  | .tpk xs, h => by unfold below at h ⊢; exact belowL_mo hjk xs h
  | .lst xs, h => by unfold below at h ⊢; exact belowL_mo hjk xs h
  | .dct xs, h => by unfold below at h ⊢; exact belowK_mo hjk xs h
  | .dcT xs, h => by unfold below at h ⊢; exact belowT_mo hjk xs h
  | .dcN _ xs, h => by unfold below at h ⊢; exact belowN_mo hjk xs h
  | .obj _ xs, h => by unfold below at h ⊢; exact belowF_mo hjk xs h
  | .ref n, h => by unfold below at h ⊢; exact decide_eq_true (Nat.lt_of_lt_of_le (of_decide_eq_true h) hjk)
  | .non, _ => rfl
  | .bl _, _ => rfl
  | .int _, _ => rfl
  | .str _, _ => rfl
  | .scr _, _ => rfl
  | .cl _, _ => rfl
  | .clo _ ds _, h => by unfold below at h ⊢; exact belowL_mo hjk ds h
theorem belowL_mo {j k : Nat} (hjk : j ≤ k) : ∀ d : List D, belowL j d = true → belowL k d = true
  | [], _ => rfl
  | d :: ds, h => by
    unfold belowL at h ⊢
    rw [Bool.and_eq_true] at h ⊢
    exact ⟨below_mo hjk d h.1, belowL_mo hjk ds h.2⟩
theorem belowK_mo {j k : Nat} (hjk : j ≤ k) : ∀ d : List (Key × D), belowK j d = true → belowK k d = true
  | [], _ => rfl
  | (_, d) :: ds, h => by
    unfold belowK at h ⊢
    rw [Bool.and_eq_true] at h ⊢
    exact ⟨below_mo hjk d h.1, belowK_mo hjk ds h.2⟩
theorem belowT_mo {j k : Nat} (hjk : j ≤ k) : ∀ d : List (List Key × D), belowT j d = true → belowT k d = true
  | [], _ => rfl
  | (_, d) :: ds, h => by
    unfold belowT at h ⊢
    rw [Bool.and_eq_true] at h ⊢
    exact ⟨below_mo hjk d h.1, belowT_mo hjk ds h.2⟩
theorem belowN_mo {j k : Nat} (hjk : j ≤ k) : ∀ d : List (NK × D), belowN j d = true → belowN k d = true
  | [], _ => rfl
  | (_, d) :: ds, h => by
    unfold belowN at h ⊢
    rw [Bool.and_eq_true] at h ⊢
    exact ⟨below_mo hjk d h.1, belowN_mo hjk ds h.2⟩
theorem belowF_mo {j k : Nat} (hjk : j ≤ k) : ∀ d : List (Str × D), belowF j d = true → belowF k d = true
  | [], _ => rfl
  | (_, d) :: ds, h => by
    unfold belowF at h ⊢
    rw [Bool.and_eq_true] at h ⊢
    exact ⟨below_mo hjk d h.1, belowF_mo hjk ds h.2⟩
end
theorem below_up {k : Nat} (d : D) (h : below 0 d = true) : below k d = true := below_mo (Nat.zero_le _) d h
theorem belowL_up {k : Nat} (d : List D) (h : belowL 0 d = true) : belowL k d = true := belowL_mo (Nat.zero_le _) d h
theorem belowK_up {k : Nat} (d : List (Key × D)) (h : belowK 0 d = true) : belowK k d = true := belowK_mo (Nat.zero_le _) d h
theorem belowF_up {k : Nat} (d : List (Str × D)) (h : belowF 0 d = true) : belowF k d = true := belowF_mo (Nat.zero_le _) d h
theorem belowL_all {k : Nat} : ∀ {ds : List D}, (∀ d ∈ ds, below k d = true) → belowL k ds = true
  | [], _ => rfl
  | d :: ds, h => by
    unfold belowL
    rw [Bool.and_eq_true]
    exact ⟨h d (by simp), belowL_all fun e he => h e (by simp [he])⟩
theorem belowL_map {α : Type} {k : Nat} {e : α → D} (h : ∀ a, below k (e a) = true) (xs : List α) : belowL k (xs.map e) = true := belowL_all fun d hd => by
  obtain ⟨a, _, rfl⟩ := List.mem_map.mp hd
  exact h a
theorem cellBelow_mo {j k : Nat} (hjk : j ≤ k) {c : Cell} (h : cellBelow j c = true) : cellBelow k c = true := by
  cases c with
  | lst xs => exact belowL_mo hjk xs h
  | dct xs => exact belowK_mo hjk xs h
  | dcT xs => exact belowT_mo hjk xs h
  | dcN _ xs => exact belowN_mo hjk xs h
  | ins c xs => exact belowF_mo hjk xs h
  | dead => rfl
theorem cellBelow_up {k : Nat} {c : Cell} (h : cellBelow 0 c = true) : cellBelow k c = true := cellBelow_mo (Nat.zero_le _) h
/-- cells name cells of the store alone -/
def PureΩ (Ω : Om) : Prop := ∀ c ∈ Ω, cellBelow Ω.length c = true
theorem PureΩ.below {Ω : Om} (h : PureΩ Ω) : (Ω.all (cellBelow Ω.length)) = true := List.all_eq_true.mpr fun c hc => h c hc
theorem PureΩ.addL {Ω : Om} (h : PureΩ Ω) {c : Cell} (hc : cellBelow (Ω.length + 1) c = true) : PureΩ (Ω ++ [c]) := fun x hx => by
  rw [List.length_append, List.length_singleton]
  rcases List.mem_append.mp hx with hx | hx
  · exact cellBelow_mo (Nat.le_succ _) (h x hx)
  · rw [List.mem_singleton.mp hx]; exact hc
theorem PureΩ.add {Ω : Om} (h : PureΩ Ω) {c : Cell} (hc : cellBelow 0 c = true) : PureΩ (Ω ++ [c]) := h.addL (cellBelow_up hc)
theorem PureΩ.setL {Ω : Om} (h : PureΩ Ω) {n : Nat} {c : Cell} (hc : cellBelow Ω.length c = true) : PureΩ (Ω.set n c) := fun x hx => by
  rw [List.length_set]
  rcases List.mem_or_eq_of_mem_set hx with hx | rfl
  · exact h x hx
  · exact hc
theorem PureΩ.set {Ω : Om} (h : PureΩ Ω) {n : Nat} {c : Cell} (hc : cellBelow 0 c = true) : PureΩ (Ω.set n c) := h.setL (cellBelow_up hc)
/-- the outer cells name outer cells alone, the others none -/
def PureA (A Ω : Om) : Prop := PureΩ A ∧ ∀ (n : Nat) c, A.length ≤ n → Ω[n]? = some c → cellBelow 0 c = true
theorem PureA.add {A Ω : Om} (h : PureA A Ω) {c : Cell} (hc : cellBelow 0 c = true) : PureA A (Ω ++ [c]) := ⟨h.1, fun n x hn hx => by
  by_cases hl : n < Ω.length
  · rw [List.getElem?_append_left hl] at hx
    exact h.2 n x hn hx
  · rw [List.getElem?_append_right (by omega)] at hx
    have := List.mem_of_getElem? hx
    rw [List.mem_singleton.mp this]
    exact hc⟩
theorem set_at {Ω : Om} {m n : Nat} {c x : Cell} (h : (Ω.set m c)[n]? = some x) : x = c ∨ Ω[n]? = some x := by
  by_cases e : m = n
  · subst e
    have hl := (List.getElem?_eq_some_iff.mp h).1
    rw [List.length_set] at hl
    rw [List.getElem?_set_self hl] at h
    exact .inl (Option.some.inj h).symm
  · rw [List.getElem?_set_ne e] at h
    exact .inr h
theorem PureA.set {A Ω : Om} (h : PureA A Ω) {n : Nat} {c : Cell} (hc : cellBelow 0 c = true) : PureA A (Ω.set n c) := ⟨h.1, fun m x hm hx => by
  rcases set_at hx with e | e
  · rw [e]; exact hc
  · exact h.2 m x hm e⟩
theorem PureA.setO {A Ω : Om} (h : PureA A Ω) {n : Nat} {c : Cell} (hn : n < A.length) (hc : cellBelow A.length c = true) : PureA (A.set n c) (Ω.set n c) := ⟨h.1.setL hc, fun m x hm hx => by
  rw [List.length_set] at hm
  rw [List.getElem?_set_ne (by omega)] at hx
  exact h.2 m x hm hx⟩
theorem PureΩ.self {A : Om} (h : PureΩ A) : PureA A A := ⟨h, fun n c hn hx => by
  have := (List.getElem?_eq_some_iff.mp hx).1
  omega⟩
theorem PureA.all {A Ω : Om} (h : PureA A Ω) (hb : ∃ W, Ω = A ++ W) : PureΩ Ω := by
  obtain ⟨W, e⟩ := hb
  intro c hc
  obtain ⟨n, hn⟩ := List.getElem?_of_mem hc
  by_cases hl : n < A.length
  · rw [e, List.getElem?_append_left hl] at hn
    exact cellBelow_mo (by rw [e, List.length_append]; omega) (h.1 c (List.mem_of_getElem? hn))
  · exact cellBelow_up (h.2 n c (by omega) hn)
theorem PureA.more {A Ω W : Om} (h : PureA A Ω) (h2 : PureA Ω (Ω ++ W)) : PureA A (Ω ++ W) := ⟨h.1, fun n c hn hx => by
  by_cases hl : n < Ω.length
  · rw [List.getElem?_append_left hl] at hx
    exact h.2 n c hn hx
  · exact h2.2 n c (by omega) hx⟩
/-- the base moves down -/
theorem PureA.back {A B Ω : Om} (h1 : PureΩ A) (hl : A.length ≤ B.length) (h2 : ∀ (n : Nat) c, A.length ≤ n → B[n]? = some c → cellBelow 0 c = true) (hp : PureA B Ω) (hb : ∃ W, Ω = B ++ W) : PureA A Ω := by
  obtain ⟨W, e⟩ := hb
  refine ⟨h1, fun n c hn hx => ?_⟩
  by_cases hz : n < B.length
  · rw [e, List.getElem?_append_left hz] at hx
    exact h2 n c hn hx
  · exact hp.2 n c (by omega) hx
theorem frz_pure {k : Nat} {Ω : Om} {d : D} (h : below 0 d = true) : frz k Ω d = d := by
  cases d with
  | ref n => unfold below at h; exact absurd (of_decide_eq_true h) (Nat.not_lt_zero n)
  | _ => rfl
/-- a pure answer -/
theorem clean_val {F : FD} {ds : List D} {Ω Ω1 W : Om} {d : D} (h : F ds Ω = some (.ok d, Ω1 ++ W)) (hl : Ω1.length = Ω.length) (hp : PureΩ Ω1) (hd : below 0 d = true) : clean F ds Ω = some (.ok d, Ω1) := by
  unfold clean
  rw [h]
  dsimp only
  rw [frz_pure hd, ← hl, List.take_left]
  have e : cellsBelow Ω1.length (Ω1 ++ W) = true := by
    unfold cellsBelow
    rw [List.take_left]
    exact hp.below
  rw [if_pos ⟨below_up d hd, e⟩]
theorem clean_val0 {F : FD} {ds : List D} {Ω Ω1 : Om} {d : D} (h : F ds Ω = some (.ok d, Ω1)) (hl : Ω1.length = Ω.length) (hp : PureΩ Ω1) (hd : below 0 d = true) : clean F ds Ω = some (.ok d, Ω1) := clean_val (W := []) (by rw [h, List.append_nil]) hl hp hd
/-- the answer is a list of its own -/
theorem clean_lst {F : FD} {ds : List D} {Ω Ω1 W : Om} {n : Nat} {xs : List D} (h : F ds Ω = some (.ok (.ref n), Ω1 ++ W)) (hl : Ω1.length = Ω.length) (hn : Ω.length ≤ n) (he : (Ω1 ++ W)[n]? = some (.lst xs)) (hp : PureΩ Ω1) (hd : belowL 0 xs = true) : clean F ds Ω = some (.ok (.lst xs), Ω1) := by
  unfold clean
  rw [h]
  have ef : frz Ω.length (Ω1 ++ W) (.ref n) = .lst xs := by
    unfold frz
    dsimp only
    rw [if_neg (by omega), he]
  dsimp only
  rw [ef, ← hl, List.take_left]
  have e : cellsBelow Ω1.length (Ω1 ++ W) = true := by
    unfold cellsBelow
    rw [List.take_left]
    exact hp.below
  rw [if_pos ⟨by unfold below; exact belowL_up xs hd, e⟩]
theorem clean_dct {F : FD} {ds : List D} {Ω Ω1 W : Om} {n : Nat} {xs : List (Key × D)} (h : F ds Ω = some (.ok (.ref n), Ω1 ++ W)) (hl : Ω1.length = Ω.length) (hn : Ω.length ≤ n) (he : (Ω1 ++ W)[n]? = some (.dct xs)) (hp : PureΩ Ω1) (hd : belowK 0 xs = true) : clean F ds Ω = some (.ok (.dct xs), Ω1) := by
  unfold clean
  rw [h]
  have ef : frz Ω.length (Ω1 ++ W) (.ref n) = .dct xs := by
    unfold frz
    dsimp only
    rw [if_neg (by omega), he]
  dsimp only
  rw [ef, ← hl, List.take_left]
  have e : cellsBelow Ω1.length (Ω1 ++ W) = true := by
    unfold cellsBelow
    rw [List.take_left]
    exact hp.below
  rw [if_pos ⟨by unfold below; exact belowK_up xs hd, e⟩]
/-- C(..) -/
theorem mk_val {c : Str} {n : Nat} {F : FD} {ds : List D} {Ω Ω1 W : Om} {fs : List (Str × D)} (h : F (.ref Ω.length :: ds) (Ω ++ [.ins c []]) = some (.ok .non, Ω1 ++ .ins c fs :: W)) (hn : ds.length + 1 = n) (hl : Ω1.length = Ω.length) (hp : PureΩ Ω1) (hf : belowF 0 fs = true) : mkD c n F ds Ω = some (.ok (.obj c fs), Ω1) := by
  unfold mkD
  rw [if_pos hn, h]
  have ef : frz Ω.length (Ω1 ++ .ins c fs :: W) (.ref Ω.length) = .obj c fs := by
    unfold frz
    dsimp only
    rw [if_neg (by omega), ← hl]
    simp
  dsimp only
  rw [ef, ← hl, List.take_left]
  have e : cellsBelow Ω1.length (Ω1 ++ .ins c fs :: W) = true := by
    unfold cellsBelow
    rw [List.take_left]
    exact hp.below
  rw [if_pos ⟨by unfold below; exact belowF_up fs hf, e⟩]
/-! ### cells at the end -/
@[simp] theorem at_end {Ω : Om} {c : Cell} : (Ω ++ [c])[Ω.length]? = some c := by simp
@[simp] theorem set_end {Ω : Om} {c c' : Cell} : (Ω ++ [c]).set Ω.length c' = Ω ++ [c'] := by simp
@[simp] theorem cellL_end {Ω : Om} {xs : List D} : cellL (Ω ++ [.lst xs]) Ω.length = some xs := by unfold cellL; simp
@[simp] theorem asL_end {Ω : Om} {xs : List D} : asL (Ω ++ [.lst xs]) (.ref Ω.length) = some xs := by unfold asL; simp
@[simp] theorem asK_end {Ω : Om} {xs : List (Key × D)} : asK (Ω ++ [.dct xs]) (.ref Ω.length) = some xs := by unfold asK; simp
@[simp] theorem atI_nat {α : Type} (xs : List α) (n : Nat) : L2.atI xs (n : Int) = xs[n]? := by
  unfold L2.atI ixN
  by_cases h : n < xs.length
  · simp [h]
  · simp [h]
    try omega
@[simp] theorem atI_0 {α : Type} (x : α) (xs : List α) : L2.atI (x :: xs) 0 = some x := atI_nat (x :: xs) 0
@[simp] theorem atI_1 {α : Type} (x y : α) (xs : List α) : L2.atI (x :: y :: xs) 1 = some y := atI_nat (x :: y :: xs) 1
@[simp] theorem atI_2 {α : Type} (x y z : α) (xs : List α) : L2.atI (x :: y :: z :: xs) 2 = some z := atI_nat (x :: y :: z :: xs) 2
@[simp] theorem ixN_last (n : Nat) : ixN (n + 1) (-1) = some n := by
  unfold ixN
  simp
  omega
@[simp] theorem atI_last {α : Type} (ys : List α) (z : α) : L2.atI (ys ++ [z]) (-1) = some z := by
  unfold L2.atI
  rw [List.length_append, List.length_singleton, ixN_last]
  simp
@[simp] theorem setIx_last {Ω : Om} {ys : List D} {z d : D} : setIx (.ref Ω.length) (.int (-1)) d (Ω ++ [.lst (ys ++ [z])]) = some (Ω ++ [.lst (ys ++ [d])]) := by
  unfold setIx
  simp
/-! ### steps -/
section
variable {Γ Γ1 : Gm} {Ω Ω1 Ω2 : Om} {g k : DenS} {f : Den D} {r : Den (List D)} {d : D} {ds : List D} {i n : Nat} {F : FD} {t : DenG} {b : DenS}
theorem seq_nx (h : g Γ Ω = some (.nx, Γ1, Ω1)) : sSeq g k Γ Ω = k Γ1 Ω1 := by unfold sSeq; rw [h]; rfl
theorem seq_rt (h : g Γ Ω = some (.rt d, Γ1, Ω1)) : sSeq g k Γ Ω = some (.rt d, Γ1, Ω1) := by unfold sSeq; rw [h]; rfl
theorem set_ok (h : f Γ Ω = some (.ok d, Ω1)) : sSet i f Γ Ω = some (.nx, Γ.set i (some d), Ω1) := by unfold sSet; rw [h]; rfl
theorem ret_ok (h : f Γ Ω = some (.ok d, Ω1)) : sRet f Γ Ω = some (.rt d, Γ, Ω1) := by unfold sRet; rw [h]; rfl
theorem exp_ok (h : f Γ Ω = some (.ok d, Ω1)) : sExp f Γ Ω = some (.nx, Γ, Ω1) := by unfold sExp; rw [h]; rfl
theorem if_t {c : Den Bool} (h : c Γ Ω = some (.ok true, Ω1)) : sIf c g k Γ Ω = g Γ Ω1 := by unfold sIf; rw [h]; rfl
theorem if_f {c : Den Bool} (h : c Γ Ω = some (.ok false, Ω1)) : sIf c g k Γ Ω = k Γ Ω1 := by unfold sIf; rw [h]; rfl
theorem for_ok {fi : Den (List D)} (h : fi Γ Ω = some (.ok ds, Ω1)) : sFor fi t b Γ Ω = loopS t b ds Γ Ω1 := by unfold sFor; rw [h]
theorem call_ok (h : r Γ Ω = some (.ok ds, Ω1)) (hn : ds.length = n) (hF : F ds Ω1 = some (.ok d, Ω2)) : fCall n F r Γ Ω = some (.ok d, Ω2) := by
  unfold fCall bnd
  rw [h]
  simp [hn, hF]
theorem cons_ok {f : Den D} {r : Den (List D)} (h1 : f Γ Ω = some (.ok d, Ω1)) (h2 : r Γ Ω1 = some (.ok ds, Ω2)) : fCons f r Γ Ω = some (.ok (d :: ds), Ω2) := by
  unfold fCons bnd
  rw [h1, bR_ok]
  dsimp only
  rw [h2, bR_ok]
  rfl
theorem nil_ok : fNil Γ Ω = some (.ok [], Ω) := rfl
theorem fn_rt (h : b (startG n ds) Ω = some (.rt d, Γ1, Ω1)) : fnD n b ds Ω = some (.ok d, Ω1) := by unfold fnD; rw [h]; rfl
theorem fn_nx (h : b (startG n ds) Ω = some (.nx, Γ1, Ω1)) : fnD n b ds Ω = some (.ok .non, Ω1) := by unfold fnD; rw [h]; rfl
theorem var_at (h : Γ[i]? = some (some d)) : fVar i Γ Ω = some (.ok d, Ω) := by unfold fVar; rw [h]
end
/-! ### data that == reads -/
structure Emb {α : Type} [DecidableEq α] (e : α → D) (p : α → PyData) (n : Nat) : Prop where
  to : ∀ g a, toPg g (e a) = some (p a)
  lay : ∀ a, (p a).canLay0 = true
  dep : ∀ a, (p a).depth ≤ n
  eq : ∀ a b, PyData.eqv (p a) (p b) = decide (a = b)
section
variable {α : Type} [DecidableEq α] {e : α → D} {p : α → PyData} {n : Nat}
theorem Emb.toL (h : Emb e p n) (g : Nat → Option PyData) : ∀ xs : List α, toPLg g (xs.map e) = some (xs.map p)
  | [] => rfl
  | x :: xs => by
    rw [List.map_cons]
    unfold toPLg
    rw [h.to g x]
    dsimp only
    rw [Emb.toL h g xs]
    rfl
theorem Emb.layL (h : Emb e p n) : ∀ xs : List α, PyData.canLayAll0 (xs.map p) = true
  | [] => rfl
  | x :: xs => by
    rw [List.map_cons]
    unfold PyData.canLayAll0
    rw [h.lay x, Emb.layL h xs]
    rfl
theorem Emb.depL (h : Emb e p n) : ∀ xs : List α, PyData.depthAll (xs.map p) ≤ n
  | [] => Nat.zero_le _
  | x :: xs => by
    rw [List.map_cons]
    unfold PyData.depthAll
    exact Nat.max_le.mpr ⟨h.dep x, Emb.depL h xs⟩
theorem Emb.eqL (h : Emb e p n) : ∀ xs ys : List α, PyData.eqvAll (xs.map p) (ys.map p) = decide (xs = ys)
  | [], [] => rfl
  | [], _ :: _ => rfl
  | _ :: _, [] => rfl
  | x :: xs, y :: ys => by
    rw [List.map_cons, List.map_cons]
    unfold PyData.eqvAll
    rw [h.eq x y, Emb.eqL h xs ys]
    by_cases h1 : x = y <;> by_cases h2 : xs = ys <;> simp [h1, h2]
theorem Emb.lst (h : Emb e p n) : Emb (fun xs : List α => D.lst (xs.map e)) (fun xs => PyData.list (xs.map p)) (n + 1) :=
  ⟨fun g xs => by unfold toPg; rw [h.toL g xs]; rfl, fun xs => by unfold PyData.canLay0; exact h.layL xs, fun xs => by unfold PyData.depth; exact Nat.succ_le_succ (h.depL xs), fun xs ys => by unfold PyData.eqv; exact h.eqL xs ys⟩
theorem Emb.tup (h : Emb e p n) : Emb (fun xs : List α => D.tup (xs.map e)) (fun xs => PyData.tuple (xs.map p)) (n + 1) :=
  ⟨fun g xs => by unfold toPg; rw [h.toL g xs]; rfl, fun xs => by unfold PyData.canLay0; exact h.layL xs, fun xs => by unfold PyData.depth; exact Nat.succ_le_succ (h.depL xs), fun xs ys => by unfold PyData.eqv; exact h.eqL xs ys⟩
theorem Emb.shaped (h : Emb e p n) (hn : n ≤ 64) (a : α) : SeqAt.shaped (p a) = true := by
  unfold SeqAt.shaped
  rw [h.lay a]
  have := h.dep a
  simp
  omega
theorem Emb.toP (h : Emb e p n) {Ω : Om} {k : Nat} (a : α) : Dn.toP Ω k (e a) = some (p a) := by
  cases k <;> exact h.to _ a
theorem Emb.toPref (h : Emb e p n) {Ω : Om} {k m : Nat} {xs : List α} (hm : Ω[m]? = some (.lst (xs.map e))) : Dn.toP Ω (k + 1) (.ref m) = some (.list (xs.map p)) := by
  show toPg _ (.ref m) = _
  unfold toPg
  rw [hm]
  dsimp only
  rw [h.toL]
  rfl
end
theorem emb_int : Emb D.int PyData.int 0 := ⟨fun _ _ => rfl, fun _ => rfl, fun _ => by simp [PyData.depth], fun a b => by unfold PyData.eqv; by_cases h : a = b <;> simp [h]⟩
def stD (s : Int × Int × Int) : D := .tup [.int s.1, .int s.2.1, .int s.2.2]
def stP (s : Int × Int × Int) : PyData := .tuple [.int s.1, .int s.2.1, .int s.2.2]
def prP (s : Int × Int) : PyData := .tuple [.int s.1, .int s.2]
theorem emb_st : Emb stD stP 1 := ⟨fun _ _ => rfl, fun _ => rfl, fun _ => by simp [stP, PyData.depth, PyData.depthAll], fun a b => by
  obtain ⟨a1, a2, a3⟩ := a
  obtain ⟨b1, b2, b3⟩ := b
  by_cases h1 : a1 = b1 <;> by_cases h2 : a2 = b2 <;> by_cases h3 : a3 = b3 <;> simp [stP, PyData.eqv, PyData.eqvAll, h1, h2, h3]⟩
theorem emb_pr : Emb prD prP 1 := ⟨fun _ _ => rfl, fun _ => rfl, fun _ => by simp [prP, PyData.depth, PyData.depthAll], fun a b => by
  obtain ⟨a1, a2⟩ := a
  obtain ⟨b1, b2⟩ := b
  by_cases h1 : a1 = b1 <;> by_cases h2 : a2 = b2 <;> simp [prP, PyData.eqv, PyData.eqvAll, h1, h2]⟩
/-- x == y by what they are read as -/
theorem eqG_of {b : Bool → D} {x y : D} {Ω : Om} {p q : PyData} (h1 : toP Ω 3 x = some p) (h2 : toP Ω 3 y = some q) (s1 : SeqAt.shaped p = true) (s2 : SeqAt.shaped q = true) : eqG b x y Ω = some (.ok (b (PyData.eqv p q)), Ω) := by
  unfold eqG
  split
  · rename_i i j
    cases h1
    cases h2
    unfold PyData.eqv
    rfl
  · rw [h1]
    dsimp only
    rw [h2]
    dsimp only
    rw [if_pos ⟨s1, s2⟩]
section
variable {α : Type} [DecidableEq α] {e : α → D} {p : α → PyData} {n : Nat}
theorem eq_emb (E : Emb e p n) (hn : n ≤ 60) {Ω : Om} (b : Bool → D) (x y : α) : eqG b (e x) (e y) Ω = some (.ok (b (decide (x = y))), Ω) := by
  rw [eqG_of (E.toP x) (E.toP y) (E.shaped (by omega) x) (E.shaped (by omega) y), E.eq]
end
end Dn




set_option Elab.async false
set_option linter.all false
set_option maxRecDepth 100000
set_option maxHeartbeats 2000000
/-! DnFmt: {e!r} of plain data in a formatted text. -/
namespace Dn
open PySem PySem.Spec PyProof.Rows L2
end Dn


set_option Elab.async false
set_option linter.all false
set_option maxRecDepth 100000
set_option maxHeartbeats 2000000
/-! DnCls: C.m(..) of a classmethod, by places and by names; cls(..). -/
namespace Dn
open PySem L2
structure CmG (P : Program) (w : World) (K : PySem.W.Frag) (mg : Str → Option Value) (base : Heap) (c mt : Str) (ps : List Str) (k : Nat) (F : FD) : Prop where
  ex : ∃ mc p g fd, ClX.CRead K (cad K c) mc ∧ ClX.CMet K (cad K c) mc mt p g ∧ FnOkG P w K mg base (L2N.CX P w) k g fd ps (spD K ps.length F) ∧ Binds K fd ps []
structure CmK (P : Program) (w : World) (K : PySem.W.Frag) (mg : Str → Option Value) (base : Heap) (c mt : Str) (ps ks : List Str) (ix : List Nat) (k : Nat) (F : FD) : Prop where
  ex : ∃ mc p g fd, ClX.CRead K (cad K c) mc ∧ ClX.CMet K (cad K c) mc mt p g ∧ FnOkG P w K mg base (L2N.CX P w) k g fd ps (spD K ps.length F) ∧ KwB K fd ps 1 ks ix
def fCMeth (c : Str) (n : Nat) (F : FD) (r : Den (List D)) : Den D := bnd r fun ds _ Ω => if (D.cl c :: ds).length = n then F (D.cl c :: ds) Ω else none
def fCMethK (c : Str) (n l : Nat) (ix : List Nat) (F : FD) (r : Den (List D)) : Den D := bnd r fun ds _ Ω => if ds.length = l ∧ (reord ix (D.cl c :: ds)).length = n then F (reord ix (D.cl c :: ds)) Ω else none
def fMakeV (i : Nat) (c : Str) (n : Nat) (F : FD) (r : Den (List D)) : Den D := fun Γ Ω => match Γ[i]? with
  | some (some (.cl c')) => if c' = c then fMake c n F r Γ Ω else none
  | _ => none
section
variable {X : Cx} {E : St → XK} {e : Expr} {es : List Expr} {kws : List Keyword} {r : Den (List D)} {p apos pos : Pos} {c mt : Str} {ps ks : List Str} {ix : List Nat} {k n l : Nat} {F : FD} {pl : Sem Bool}
theorem rl_cl {m : Mp} {Ω : Om} {H : Hp} {ds : List D} {vs : List V} (h : RlL X.K m Ω H ds vs) : RlL X.K m Ω H (.cl c :: ds) (.ref (cad X.K c) :: vs) := by
  unfold RlL
  exact ⟨_, _, rfl, (by unfold Rl; rfl), h⟩
theorem de_cmeth (hm : X.mg c = some (.ref (cad X.K c))) (G : CmG X.prog X.w X.K X.mg X.base c mt ps k F) (hr : RoomG k X.A) (hx : ∀ σ, PassesAt (L2N.CX X.prog X.w) X σ (E σ)) (ha : DA X E (e :: es) r) (hn : ps.length = n := by rfl) (hg : Gl X c := by rfl) (hd : (c == ("__debug__" : Str)) = false := by decide)
    (hst : starEach (e :: es) X.env = (false, eval e X.env) :: starEach es X.env := by rfl) (hpl : (backTo pos (starEach es X.env)).any (·.1) = false := by rfl)
    (ht : eval (.Call (.Attribute (.Name c p) mt apos) (e :: es) [] pos) X.env = (do
      let ov ← eval (.Name c p) X.env
      standAt apos.atName
      let (f, first) ← holding [ov] (getMethod ov mt pl)
      callWith pos f first (backTo pos (starEach (e :: es) X.env)) (backToKw pos (keywordEach [] X.env))) := by rfl) :
    DE X E (.Call (.Attribute (.Name c p) mt apos) (e :: es) [] pos) (fCMeth c n F r) := by
  subst hn
  obtain ⟨mc, pp, g, fd, rd, cm, ok, bi⟩ := G.ex
  refine ⟨fun pins s σ H Q I h => ?_⟩
  have h2 : tDA X.K E r σ H fun vs H2 => spD X.K ps.length F (.ref (cad X.K c) :: vs) H2 Q (E σ) := by
    obtain ⟨m, Γ, Ω, s, h⟩ := h
    refine ⟨m, Γ, Ω, s, (Af.bind (R := RlL X.K) h).imp fun _ _ H2 _ vs2 _ _ _ ⟨m2, Ω2, ds, g2, r2, q2⟩ => ?_⟩
    obtain ⟨hl, q2⟩ := Af.guard q2
    have rr := rl_cl (c := c) r2
    exact ⟨by rw [← rr.length]; exact hl, m2, Ω2, _, g2.ok, rr, q2⟩
  refine PySem.W.methodCall_KW (pl := pl) (thn ((pe_glob (v := .ref (cad X.K c)) hg hm rfl hd).run pins s σ H (fun x H1 => x = .ref (cad X.K c) ∧ H1 = H) I ⟨rfl, rfl⟩) fun u s1 ⟨x, H1, I1, rx, ex, eH⟩ => ?_) ht
  subst ex eH
  obtain rfl : u = Value.ref (cad X.K c) := rx
  refine ClX.getmethcm_ok I1 rd cm fun s2 I2 => ?_
  refine ClX.callwith_cm I2 (ClX.base_none I1 (Nat.le_refl _)) cm.fi (thn (ha.run pos _ s2 σ H1 _ I2 h2) fun us s3 ⟨vs, H2, I3, rv, q2⟩ => ⟨⟨ClX.pin_at I3, I3.kIn⟩, ?_⟩) hst hpl
  have n1 := ok.len _ _ _ _ q2
  have n2 := rv.length
  have b := bi s3 (.ref (cad X.K c) :: us) I3.kIn (by rw [List.append_nil, List.length_cons, ← n2, ← n1, List.length_cons])
  rw [List.append_nil] at b
  refine wpAny_call (PySem.W.method_call (ClX.pin_at I3) (codeAny_mono (ok.run X.A X.stack s3 H2 ⟨.ref (cad X.K c) :: us, []⟩ (.ref (cad X.K c) :: us) (.ref (cad X.K c) :: vs) Q (E σ) hr I3.env0 b (.cons rfl rv) q2) fun out s' q => ?_))
  match out, q with
  | .error er, q => exact hx σ _ H2 s3 er s' I3 q
  | .ok (.ret u), q => exact ClX.unpinE (I3.after q)
  | .ok .next, q => exact q.elim
  | .ok .brk, q => exact q.elim
  | .ok .cont, q => exact q.elim
theorem de_cmethK (hm : X.mg c = some (.ref (cad X.K c))) (G : CmK X.prog X.w X.K X.mg X.base c mt ps ks ix k F) (hr : RoomG k X.A) (hx : ∀ σ, PassesAt (L2N.CX X.prog X.w) X σ (E σ)) (ha : DK X E kws r) (hn : ps.length = n := by rfl) (hl : ks.length = l := by rfl) (hg : Gl X c := by rfl) (hd : (c == ("__debug__" : Str)) = false := by decide)
    (hall : (backToKw pos (keywordEach kws X.env)).all (·.1.isSome) = true := by rfl) (hks : (backToKw pos (keywordEach kws X.env)).filterMap (·.1) = ks := by rfl)
    (hpl : ((backTo pos (starEach [] X.env)).any (·.1) || (backToKw pos (keywordEach kws X.env)).any (·.1.isNone)) = false := by rfl)
    (ht : eval (.Call (.Attribute (.Name c p) mt apos) [] kws pos) X.env = (do
      let ov ← eval (.Name c p) X.env
      standAt apos.atName
      let (f, first) ← holding [ov] (getMethod ov mt pl)
      callWith pos f first (backTo pos (starEach [] X.env)) (backToKw pos (keywordEach kws X.env))) := by rfl) :
    DE X E (.Call (.Attribute (.Name c p) mt apos) [] kws pos) (fCMethK c n l ix F r) := by
  subst hn hl
  obtain ⟨mc, pp, g, fd, rd, cm, ok, bi⟩ := G.ex
  refine ⟨fun pins s σ H Q I h => ?_⟩
  have h2 : tDA X.K E r σ H fun vs H2 => vs.length = ks.length ∧ spD X.K ps.length F (reord ix (.ref (cad X.K c) :: vs)) H2 Q (E σ) := by
    obtain ⟨m, Γ, Ω, s, h⟩ := h
    refine ⟨m, Γ, Ω, s, (Af.bind (R := RlL X.K) h).imp fun _ _ H2 _ vs2 _ _ _ ⟨m2, Ω2, ds, g2, r2, q2⟩ => ?_⟩
    obtain ⟨⟨hl, hn⟩, q2⟩ := Af.guard q2
    have rr := rl_cl (c := c) r2
    exact ⟨by rw [← r2.length]; exact hl, by rw [← (reord_rl (ix := ix) rr).length]; exact hn, m2, Ω2, _, g2.ok, reord_rl rr, q2⟩
  refine PySem.W.methodCall_KW (pl := pl) (thn ((pe_glob (v := .ref (cad X.K c)) hg hm rfl hd).run pins s σ H (fun x H1 => x = .ref (cad X.K c) ∧ H1 = H) I ⟨rfl, rfl⟩) fun u s1 ⟨x, H1, I1, rx, ex, eH⟩ => ?_) ht
  subst ex eH
  obtain rfl : u = Value.ref (cad X.K c) := rx
  refine ClX.getmethcm_ok I1 rd cm fun s2 I2 => ?_
  refine PySem.W.callWith_of (P := PySem.W.MethP X.K s1.heap.objs.size g (.ref (cad X.K c))) hpl (fun hh z => PySem.W.keeps_M cm.fi hh z) (PyProof.Rows.evalArgs_kw2_nil hall (thn (ha.run pos _ s2 σ H1 _ I2 h2) fun ws s3 ⟨zs, H2, I3, rz, l2, q2⟩ => ⟨⟨ClX.pin_at I3, I3.kIn⟩, ?_⟩))
  rw [hks]
  dsimp only [List.nil_append]
  have rr : Vals (reord ix (.ref (cad X.K c) :: zs)) (reord ix ([Value.ref (cad X.K c)] ++ ws)) := reord_vals (us := .ref (cad X.K c) :: ws) (.cons rfl rz)
  refine wpAny_call (PySem.W.method_call (ClX.pin_at I3) (codeAny_mono (ok.run X.A X.stack s3 H2 ⟨[.ref (cad X.K c)], ks.zip ws⟩ (reord ix ([Value.ref (cad X.K c)] ++ ws)) (reord ix (.ref (cad X.K c) :: zs)) Q (E σ) hr I3.env0 (bi.to s3 [.ref (cad X.K c)] ws I3.kIn rfl (rz.length.symm.trans l2)) rr q2) fun out s' q => ?_))
  match out, q with
  | .error er, q => exact hx σ _ H2 s3 er s' I3 q
  | .ok (.ret u), q => exact ClX.unpinE (I3.after q)
  | .ok .next, q => exact q.elim
  | .ok .brk, q => exact q.elim
  | .ok .cont, q => exact q.elim
/-- cls(..) -/
theorem de_makeV {x : Str} (i : Nat) (G : MkG X.prog X.w X.K X.mg X.base c ps k F) (hr : RoomG (k + 1) X.A) (hx : ∀ σ, PassesAt (L2N.CX X.prog X.w) X σ (E σ)) (ha : DA X E (e :: es) r) (hn : ps.length = n := by rfl) (hN : X.N[i]? = some x := by rfl)
    (hv : Vis X.env.scope x := by first | exact Or.inl rfl | exact Or.inr (Or.inl rfl) | exact Or.inr (Or.inr rfl)) (hd : (x == ("__debug__" : Str)) = false := by decide)
    (hcd : (x == ("__classdict__" : Str)) = false := by decide) (he : starEach (e :: es) X.env = (false, eval e X.env) :: starEach es X.env := by rfl) (hpl : (backTo pos (starEach es X.env)).any (·.1) = false := by rfl) :
    DE X E (.Call (.Name x p) (e :: es) [] pos) (fMakeV i c n F r) := by
  subst hn
  obtain ⟨f, fd, M, hm, ok, bi⟩ := G.ex
  refine ⟨fun pins s σ H Q I h => ?_⟩
  obtain ⟨m, Γ, Ω, s', h⟩ := h
  unfold fMakeV at h
  cases e1 : Γ[i]? with
  | none => rw [e1] at h; exact h.elim
  | some o =>
    rw [e1] at h
    cases o with
    | none => exact h.elim
    | some d =>
      cases d with
      | cl c' =>
        dsimp only at h
        obtain ⟨ec, h⟩ := Af.guard h
        subst ec
        obtain ⟨v, z1, z2⟩ := s'.slots.2 i _ e1
        unfold Rl at z2
        subst z2
        have h2 : tDA X.K E r σ H fun vs H1 => ∀ x dx, H1 x = none → H1 dx = none → dx ≠ x → spD X.K ps.length F (.ref x :: vs) (upd (upd H1 dx (.own x)) x (.ins (cad X.K c') dx [])) (fun v H2 => v = .non ∧ Q (.ref x) H2) (E σ) :=
          ⟨m, Γ, Ω, s', (Af.bind (R := RlL X.K) h).imp fun _ _ _ _ _ _ _ _ ⟨m1, Ω1, ds, g1, r1, q⟩ => make_of g1.ok r1 q⟩
        refine wpAny_Call_Name_kw (thn ((pe_var hN hv hd hcd).run pins s σ H (fun x H1 => x = .ref (cad X.K c') ∧ H1 = H) I ⟨_, z1, rfl, rfl⟩) fun u s1 ⟨y, H1, I1, ry, ey, eH⟩ => ?_)
        subst ey eH
        obtain rfl : u = Value.ref (cad X.K c') := ry
        refine PySem.W.callWith_K (h₀ := X.base) I1.ok.mod.kin M.kp (thn (ha.run pos pins s1 σ H1 _ I1 h2) fun us s2 ⟨vs, H2, I2, r2, q⟩ => ⟨I2.kIn, ?_⟩) he hpl
        exact run_makeS (E := E) M ok hr bi (hx σ) I2 r2 q
      | _ => exact h.elim
end
/-! ### the head -/
def cmB (c m : Str) (K : PySem.W.Frag) : Bool := PySem.W.readsIn K (cad K c) (.type "type") && (He.eqO (PySem.W.specialIn K (.ref (cad K c)) "__getattribute__") (some (some (.builtin "type.__getattribute__"))) &&
  (He5.wrapB K (cad K c) "classmethod" "classmethod.__get__" m && PySem.W.fnIn K (He5.wf K (cad K c) "classmethod" m)))
theorem cmB_ok {c m : Str} {K : PySem.W.Frag} (h : cmB c m K = true) : ClX.CRead K (cad K c) (.type "type") ∧ ClX.CMet K (cad K c) (.type "type") m (He.ma K (cad K c) m) (He5.wf K (cad K c) "classmethod" m) := by
  unfold cmB at h
  obtain ⟨h1, h⟩ := He.ba h
  obtain ⟨h2, h⟩ := He.ba h
  obtain ⟨h3, h4⟩ := He.ba h
  exact ⟨⟨h1, He.eqO_ok h2⟩, He5.cmet_of h3 h4⟩
end Dn


set_option Elab.async false
set_option linter.all false
set_option maxRecDepth 100000
set_option maxHeartbeats 2000000
/-! DnRp: the repr of a list of own objects; their __repr__ while a list is shown. -/
namespace Dn
open PySem PySem.Spec PyProof.Rows L2
/-- what is shown at the time: a list whose first item is an instance -/
def Bad (H : Hp) (b : Addr) : Prop := ∃ i vs C dx fs, H b = some (.lst (.ref i :: vs)) ∧ H i = some (.ins C dx fs)
def GdOk (H : Hp) (g : List Code) : Prop := ∀ id v rest kw, Code.builtin id ⟨v :: rest, kw⟩ ∈ g → ∃ b, v = .ref b ∧ Bad H b
def LeH (H H' : Hp) : Prop := ∀ b o, H b = some o → H' b = some o
theorem LeH.refl (H : Hp) : LeH H H := fun _ _ h => h
theorem LeH.trans {H H1 H2 : Hp} (x : LeH H H1) (y : LeH H1 H2) : LeH H H2 := fun b o h => y b o (x b o h)
theorem LeH.upd {H : Hp} {q : Addr} {o : HO} (h : H q = none) : LeH H (upd H q o) := fun b u e => by
  rw [upd_ne (fun z => by rw [z, h] at e; cases e)]
  exact e
theorem Bad.up {H H' : Hp} {b : Addr} (l : LeH H H') (h : Bad H b) : Bad H' b := let ⟨i, vs, C, dx, fs, h1, h2⟩ := h; ⟨i, vs, C, dx, fs, l _ _ h1, l _ _ h2⟩
theorem GdOk.up {H H' : Hp} {g : List Code} (l : LeH H H') (h : GdOk H g) : GdOk H' g := fun id v rest kw m => let ⟨b, e, q⟩ := h id v rest kw m; ⟨b, e, q.up l⟩
theorem gd_nil {H : Hp} : GdOk H [] := fun _ _ _ _ h => nomatch h
section
variable {K : PySem.W.Frag} {H H' : Hp}
theorem sqL_up (l : LeH H H') {a : Addr} {xs : List V} (h : SqL K H a xs) : SqL K H' a xs := by
  rcases h with (h | ⟨o, h⟩) | h
  · exact .inl (.inl (l _ _ h))
  · exact .inl (.inr ⟨o, l _ _ h⟩)
  · exact .inr h
theorem sqT_up (l : LeH H H') {a : Addr} {xs : List V} (h : SqT K H a xs) : SqT K H' a xs := by
  rcases h with (h | ⟨o, h⟩) | h
  · exact .inl (.inl (l _ _ h))
  · exact .inl (.inr ⟨o, l _ _ h⟩)
  · exact .inr h
mutual
theorem dp_up (l : LeH H H') : ∀ {v : V} {p : PyData}, Dp K H v p → Dp K H' v p
  | _, _, .non => .non
  | _, _, .bl b => .bl b
  | _, _, .int i => .int i
  | _, _, .str x => .str x
  | _, _, .lst h1 h2 => .lst (sqL_up l h1) (dpA_up l h2)
  | _, _, .tup h1 h2 => .tup (sqT_up l h1) (dpA_up l h2)
theorem dpA_up (l : LeH H H') : ∀ {vs : List V} {ps : List PyData}, DpAll K H vs ps → DpAll K H' vs ps
  | _, _, .nil => .nil
  | _, _, .cons h1 h2 => .cons (dp_up l h1) (dpA_up l h2)
end
end
/-- a list of instances is no plain data -/
theorem bad_unread {P : Program} {w : World} {H : Hp} {h : Heap} {b : Addr} (ok : HOk P w H h) (x : Bad H b) {d : PyData} {as : List Addr} (r : Reads h (.ref b) d as) : False := by
  obtain ⟨i, vs, C, dx, fs, h1, h2⟩ := x
  obtain ⟨hz, its, c, rv, hb⟩ := ok b _ h1
  obtain ⟨mA, O, _⟩ := ins_get ok h2
  obtain ⟨od, J, _⟩ := O.look
  have hi := J.at_
  have hcls := J.cls
  cases rv with
  | cons r1 r2 =>
    rename_i u us
    obtain rfl : u = Value.ref i := r1
    cases r with
    | list k1 k2 k3 k4 =>
      rename_i o vs' n xs bs
      rw [hb] at k1
      cases k1
      have k3' : Data.seq (Value.ref i :: us).toArray c = Data.seq vs' n := k3
      cases k3'
      have k4' : ReadsAll h (Value.ref i :: us) xs bs := by simpa using k4
      cases k4' with
      | cons q1 q2 =>
        cases q1 with
        | list j1 j2 j3 j4 => rw [hi] at j1; cases j1; rw [hcls] at j2; cases j2
        | tuple j1 j2 j3 j4 => rw [hi] at j1; cases j1; rw [hcls] at j2; cases j2
        | dict j1 j2 j3 j4 j5 => rw [hi] at j1; cases j1; rw [hcls] at j2; cases j2
    | tuple k1 k2 k3 k4 => rw [hb] at k1; cases k1; exact absurd (Value.type.inj k2) (by decide)
    | dict k1 k2 k3 k4 k5 => rw [hb] at k1; cases k1; exact absurd (Value.type.inj k2) (by decide)
theorem clear_of {P : Program} {w : World} {H : Hp} {h : Heap} {g : List Code} (ok : HOk P w H h) (x : GdOk H g) {n : Nat} {bs : List Addr} (r : ReadAtMost h n bs) : ∀ b ∈ bs, Clear g b := by
  intro b hb id v rest kw hm e
  obtain ⟨d, as, rr, _⟩ := r b hb
  obtain ⟨b', e', bad⟩ := x id v rest kw hm
  rw [e] at e'
  cases e'
  exact bad_unread ok bad rr
/-- the repr of a list of plain data while something is shown -/
theorem reprObj_list {prog : Program} {w : World} {A : Around} {E : Value → Shared → Prop} {s : Shared} {Q : Value → Shared → Prop} {H : Hp} {g : List Code} {a : Addr} {xs : List PyData} {as : List Addr} (ok : HOk prog w H s.heap) (hG : GdOk H g)
    (r : Reads s.heap (.ref a) (.list xs) as) (hs : (PyData.list xs).showable = true) (hd : (PyData.list xs).hasDict = false) (hg : A.guards = some g) (hu : A.units + (PyData.list xs).depth < cLine)
    (hQ : ∀ h' u tk, (∀ b o, s.heap.get? b = some o → h'.get? b = some o) → Q (.str (PyData.list xs).shown u) { s with heap := h', toks := tk }) (hsz : (PyData.list xs).shown.length ≤ sizeLine) :
    wpAny (model prog w) A (pyReprObj (.ref a)) Q E s := by
  have r0 := r
  cases r with
  | list h1 h2 h3 h4 =>
    rename_i o vs n bs₀
    have hz' : (listText (PyData.shownAll xs)).length ≤ sizeLine := by simpa only [PyData.shown] using hsz
    obtain ⟨bs, hb, hk⟩ := ReprAllK.of_readsAll (prog := prog) (w := w) h4 (by simpa [PyData.showable] using hs) (fun hx => by
      have : PyData.hasDictAll xs = false := by simpa [PyData.hasDict] using hd
      rw [this] at hx
      cases hx) (fun t ht => Nat.le_trans (listText_mem_le ht) hz')
    have hna : a ∉ bs := not_mem_of_deeper r0 (by simp only [PyData.depth]; omega) hb
    have hcl : ∀ b ∈ a :: bs, Clear g b := clear_of ok hG (ReadAtMost.cons r0 (Nat.le_refl _) (hb.mono (by simp only [PyData.depth]; omega)))
    simp only [PyData.depth] at hu
    simp only [PyData.shown] at hQ
    obtain ⟨l⟩ := vs
    cases l with
    | nil =>
      have h4' : ReadsAll s.heap [] xs _ := h4
      cases h4'
      simp only [PyData.shownAll, listText_nil] at hQ
      exact wpAny_pyReprObj_list_empty ⟨_, h1, h2⟩ (by omega) h1 h3 (hQ s.heap _ _ fun _ _ e => e)
    | cons x l =>
      exact wpAny_pyReprObj_listK h1 h2 h3 hna (by simpa using hk.length_eq) (fun i y e => hk.item i y (by simpa using e)) hg hcl (by omega) (fun _ _ e => e) hQ hz'
/-! ### a def's promise while something is shown -/
structure FnOkK (P : Program) (w : World) (K : PySem.W.Frag) (mg : Str → Option Value) (base : Heap) (T : CXT) (k : Nat) (f : Addr) (fd : FuncData) (ps : List Str) (sp : Sp) : Prop where
  run : ∀ (A : Around) (g : List Code) (out : List Env) (s : Shared) (H : Hp) (ar : Args) (us : List Value) (vs : List V) (Q : VK) (E : XK), Room k A → A.guards = some g → GdOk H g → Env0 P w K mg base A out s H → BindsTo s fd ar (ps.zip us) → Vals vs us →
    sp vs H Q E → codeAny (model P w) A (.call (.ref f) ar) (CR T out P w H s Q E) s
theorem fn_ofK {P : Program} {w : World} {K : PySem.W.Frag} {mg : Str → Option Value} {base : Heap} {T : CXT} {k : Nat} {f : Addr} {fd : FuncData} {ps : List Str} {sp : Sp} {x qual : Str} {params : Arguments} {body : List Stmt} {scope : Scope} {N : List Str} (G : FunD K x qual params body scope [] [] f fd) (S : FnScope N ps scope)
    (hlen : ∀ vs H Q E, sp vs H Q E → vs.length = ps.length)
    (hbody : ∀ (cdv : Value) (A : Around) (g : List Code) (out : List Env) (s : Shared) (H : Hp) (vs : List V) (Q : VK) (E : XK), Room k (A.deeper (envOfC qual scope s.heap.objs.size f cdv)) → A.guards = some g → GdOk H g → sp vs H Q E →
      ∃ t, PSs (cxOf T P w K mg base N qual scope f cdv A out s H E) body t ∧ t { nx := fun _ Hz => Q .non Hz, rt := Q } (L2.start N vs) H) :
    FnOkK P w K mg base T (k + 1) f fd ps sp := by
  obtain ⟨oc, od, dV, kV, doc, pm, an, cdv, ct, osl, rfl, lk, hcd, _, _⟩ := G.ex
  refine ⟨fun A g out s H ar us vs Q E room hg hG env bnd vals z => ?_⟩
  have nps := hlen _ _ _ _ z
  have kin : K.In s.heap := env.mod.kin.keeps fun b o q => (env.bs b o q).1
  have nolim : s.heap.NoLimit := env.mod.nolimit.keeps fun b o q => (env.bs b o q).1
  have kinds : ∀ y ∈ ps.zip us, scope.names.lookup y.1 = some .local ∨
      (scope.names.lookup y.1 = some .cell ∧ ((cellsFrom (s.heap.objs.size + 1) scope.names []).lookup y.1).isSome = true) := fun y hy =>
    (S.par y.1 (List.of_mem_zip (a := y.1) (b := y.2) hy).1).imp (fun z => z) fun z => ⟨z, PySem.W.cellsFrom_some _ _ _ (.inl z)⟩
  refine codeAny_call_function room.depth (kin _ _ lk) rfl S.co S.gen rfl (PySem.W.codeRec_of kin hcd)
    (bnd _ _ _ _ (wpAny_newFunctionEnv_cells S.kind kinds fun ev hev s1 ic => ?_))
  subst hev
  obtain ⟨t, ht, hz⟩ := hbody cdv A g out s H vs Q E (room.deeper _) hg hG z
  have inv : Inv (cxOf T P w K mg base N qual scope f cdv A out s H E) [] (L2.start N vs) H s1 :=
    inv_start S room.hd env nps vals ic
  refine ⟨nolim.keeps ic.toInCall.keep, codeAny_func (wpAny_mono (ht.run [] s1 _ H _ inv hz) (fun fl s' q => ?_) fun _ _ q => q)⟩
  match fl, q with
  | .ret u, ⟨v, σ', H', J, rv, q⟩ => exact ⟨v, H', J.os, J.bare, J.base, J.hok, rv, q⟩
  | .next, ⟨σ', H', J, q⟩ => exact ⟨V.non, H', J.os, J.bare, J.base, J.hok, rfl, q⟩
  | .brk, ⟨_, _, _, q⟩ => exact q.elim
  | .cont, ⟨_, _, _, q⟩ => exact q.elim
/-! ### f'pre{list(self.fld)!r}suf' -/
/-- y, an instance of c whose fld is a tuple of plain data, is shown as t -/
def Rp1 (K : PySem.W.Frag) (c fld pre suf : Str) (H : Hp) (y : V) (t : Str) : Prop := ∃ a dx fs tt ws ps, y = .ref a ∧ H a = some (.ins (cad K c) dx fs) ∧ fs.lookup fld = some (.ref tt) ∧ SqT K H tt ws ∧ DpAll K H ws ps ∧
  okRep (.list ps) = true ∧ (Str.empty ++ pre ++ (PyData.list ps).shown).length ≤ sizeLine ∧ t = Str.empty ++ pre ++ (PyData.list ps).shown ++ suf ∧ t.length ≤ sizeLine
theorem Rp1.up {K : PySem.W.Frag} {c fld pre suf : Str} {H H' : Hp} {y : V} {t : Str} (l : LeH H H') (h : Rp1 K c fld pre suf H y t) : Rp1 K c fld pre suf H' y t := by
  obtain ⟨a, dx, fs, tt, ws, ps, h1, h2, h3, h4, h5, h6⟩ := h
  exact ⟨a, dx, fs, tt, ws, ps, h1, l _ _ h2, h3, sqT_up l h4, dpA_up l h5, h6⟩
def spR (K : PySem.W.Frag) (c fld pre suf : Str) : Sp := fun vs H Q _ => ∃ y t, vs = [y] ∧ Rp1 K c fld pre suf H y t ∧ ∀ H', LeH H H' → Q (.str t) H'
def tFmtK (K : PySem.W.Frag) (g : List Code) (te : TE) : TE := fun σ H Q => te σ H fun x H1 => ∃ ps, Dp K H1 x (.list ps) ∧ GdOk H1 g ∧ okRep (.list ps) = true ∧ Q (.str (PyData.list ps).shown) H1
theorem pe_fmtK {X : Cx} {k : Nat} {g : List Code} {e : Expr} {te : TE} {pos : Pos} (hr : Room k X.A) (hg : X.A.guards = some g) (he : PE X e te) : PE X (.FormattedValue e 114 none pos) (tFmtK X.K g te) := by
  refine ⟨fun pins s σ H Q I h => ?_⟩
  refine wpAny_FormattedValue_repr (thn (he.run pins s σ H _ I h) fun v s1 hv => ?_)
  obtain ⟨x, H1, I1, r1, ps, hd, hG, hok, q⟩ := hv
  obtain ⟨as, rd⟩ := Dp.reads I1 _ x v hd r1
  have hun := hr.units
  unfold okRep at hok
  simp only [Bool.and_eq_true, decide_eq_true_eq, Bool.not_eq_true'] at hok
  obtain ⟨⟨⟨y1, y2⟩, y3⟩, y4⟩ := hok
  have fin : ∀ (u : Tok) (s2 : Shared), Inv X pins σ H1 s2 → wpAny (model X.prog X.w) X.A (formatField (.str (PyData.list ps).shown u) Str.empty) (EP X pins σ Q) X.xe s2 := fun u s2 J =>
    wpAny_formatField_str ⟨.str _, H1, J, ⟨_, rfl⟩, q⟩ ⟨.str _, H1, J.tok _, ⟨_, rfl⟩, q⟩ (sz y4)
  cases hd with
  | lst z1 z2 =>
    obtain rfl : v = Value.ref _ := r1
    exact reprObj_list I1.hok hG rd y1 y2 hg (by omega) (fun h' u tk hk => fin u _ (I1.kept hk)) (sz y4)
/-- list(self.fld) -/
def tLs (K : PySem.W.Frag) (c fld : Str) : TE := fun σ H Q => ∃ a dx fs tt ws, σ[0]? = some (some (.ref a)) ∧ H a = some (.ins (cad K c) dx fs) ∧ fs.lookup fld = some (.ref tt) ∧ SqT K H tt ws ∧ ∀ l, H l = none → Q (.ref l) (upd H l (.lst ws))
theorem pe_lsf {X : Cx} {x c fld : Str} {p1 p2 p3 pos : Pos} (hc : Cls X.K (cad X.K c)) (hn : NoAttr X.K (cad X.K c) fld) (hm : X.mg "list" = none) (hN : X.N[0]? = some x := by rfl)
    (hv : Vis X.env.scope x := by first | exact Or.inl rfl | exact Or.inr (Or.inl rfl) | exact Or.inr (Or.inr rfl)) (hd : (x == ("__debug__" : Str)) = false := by decide) (hcd : (x == ("__classdict__" : Str)) = false := by decide)
    (hb : attributeBase (.Name x p2) fld X.env (eval (.Name x p2) X.env) = eval (.Name x p2) X.env := by rfl) (hg : Gl X "list" := by rfl) (he : starEach [.Attribute (.Name x p2) fld p3] X.env = (false, eval (.Attribute (.Name x p2) fld p3) X.env) :: starEach [] X.env := by rfl)
    (hpl : (backTo pos (starEach [] X.env)).any (·.1) = false := by rfl) : PE X (.Call (.Name "list" p1) [.Attribute (.Name x p2) fld p3] [] pos) (tLs X.K c fld) := by
  refine PE.mono (pe_callTy call_list_of hg hm bt_list (pa_cons (pe_fld (pe_var hN hv hd hcd) hb) pa_nil he) (he := he) (hpl := hpl)) fun σ H Q h => ?_
  obtain ⟨a, dx, fs, tt, ws, h1, h2, h3, h4, q⟩ := h
  exact ⟨.ref a, h1, a, _, dx, fs, .ref tt, rfl, h2, hc, hn, h3, tt, ws, rfl, .inr h4, q⟩
theorem fn_repr {P : Program} {w : World} {K : PySem.W.Frag} {mg : Str → Option Value} {base : Heap} {f : Addr} {fd : FuncData} {x qual c fld pre suf : Str} {params : Arguments} {scope : Scope} {le : Expr} {k1 k2 : Nat} {p1 p2 p3 p8 pos : Pos}
    (G : FunD K x qual params [.Return (some (.JoinedStr [.Constant (.str pre) k1 p1, .FormattedValue le 114 none p2, .Constant (.str suf) k2 p3] p8)) pos] scope [] [] f fd) (S : FnScope ["self"] ["self"] scope)
    (hl : ∀ cdv A out s H E, PE (cxOf (L2N.CX P w) P w K mg base ["self"] qual scope f cdv A out s H E) le (tLs K c fld)) (hp : (Str.empty ++ pre).length ≤ 100000 := by decide) :
    FnOkK P w K mg base (L2N.CX P w) 1 f fd ["self"] (spR K c fld pre suf) := by
  refine fn_ofK G S (fun vs H Q E ⟨y, t, e, _⟩ => by rw [e]; rfl) fun cdv A g out s H vs Q E room hg hG z => ?_
  refine ⟨_, pss_one (ps_ret (pe_joined (.cons pe_str (.cons (pe_fmtK (g := g) room hg (hl cdv A out s H E)) (.cons pe_str .nil))))), ?_⟩
  obtain ⟨y, t, ev, hy, q⟩ := z
  subst ev
  obtain ⟨a, dx, fs, tt, ws, ps, h1, h2, h3, h4, h5, h6, h7, h8, h9⟩ := hy
  subst h1
  refine ⟨pre, rfl, sz hp, a, dx, fs, tt, ws, rfl, h2, h3, h4, fun l hl => ?_⟩
  have up : LeH H (upd H l (.lst ws)) := LeH.upd hl
  refine ⟨ps, .lst (SqL.of upd_same) (dpA_up up h5), hG.up up, h6, _, rfl, h7, suf, rfl, ?_, ?_⟩
  · rw [← h8]; exact h9
  · show Q (.str (Str.empty ++ pre ++ (PyData.list ps).shown ++ suf)) _
    rw [← h8]
    exact q _ up
/-- c's __repr__ -/
structure RpG (P : Program) (w : World) (K : PySem.W.Frag) (mg : Str → Option Value) (base : Heap) (c fld pre suf : Str) (k : Nat) : Prop where
  ex : ∃ f fd, PySem.W.findIn K (.ref (cad K c)) "__repr__" = some (some (.ref f)) ∧ PySem.W.isFn K (.ref f) = true ∧ FnOkK P w K mg base (L2N.CX P w) k f fd ["self"] (spR K c fld pre suf) ∧ Binds K fd ["self"] []
/-! ### repr within repr -/
section
variable {K : PySem.W.Frag} {x C f : Addr} {ox : Obj} {od : Option Obj} {A : Around} {s : Shared} {E : Value → Shared → Prop}
end
section
variable {X : Cx} {pins : List (Addr × Obj)} {σ : L2.St} {c fld pre suf : Str} {k : Nat}
theorem runR {A : Around} {g : List Code} {H : Hp} {s : Shared} {f : Addr} {fd : FuncData} {a : Addr} {t : Str} {Q : Str → Shared → Prop} {E' : Value → Shared → Prop} (F : FnOkK X.prog X.w X.K X.mg X.base (L2N.CX X.prog X.w) k f fd ["self"] (spR X.K c fld pre suf)) (bi : Binds X.K fd ["self"] []) (hr : Room k A) (hf : A.frames = X.A.frames) (hg : A.guards = some g) (hG : GdOk H g)
    (I : Inv X pins σ H s) (hy : Rp1 X.K c fld pre suf H (.ref a) t) (h : ∀ H' s', LeH H H' → Inv X pins σ H' s' → Q t s') : wpAny (model X.prog X.w) A (call (.ref f) [.ref a]) (fun v s' => ∃ t u, v = .str t u ∧ Q t s') E' s := by
  have b := bi s [.ref a] I.kIn rfl
  rw [List.append_nil] at b
  have e0 := I.env0
  have env : Env0 X.prog X.w X.K X.mg X.base A X.stack s H := ⟨hf.trans e0.frames, e0.mod, e0.bs, e0.bsz, e0.funs, e0.frf, e0.hok, e0.bare⟩
  refine wpAny_call (codeAny_mono (F.run A g X.stack s H ⟨[.ref a], []⟩ [.ref a] [.ref a] (fun v H' => v = .str t ∧ LeH H H') (fun _ _ _ => False) hr hg hG env b (.cons rfl .nil) ⟨.ref a, t, rfl, hy, fun H' l => ⟨rfl, l⟩⟩) fun out s' q => ?_)
  match out, q with
  | .error er, q =>
    obtain ⟨_, _, _, _, _, _, _, _, _, _, _, _, z⟩ := q
    exact z.elim
  | .ok (.ret u), q =>
    obtain ⟨v, H', I', rv, ev, l⟩ := I.after q
    subst ev
    obtain ⟨tk, rfl⟩ := rv
    exact ⟨t, tk, rfl, h H' s' l I'⟩
  | .ok .next, q => exact q.elim
  | .ok .brk, q => exact q.elim
  | .ok .cont, q => exact q.elim
/-! ### its denotation -/
def objT (c fld pre suf : Str) : D → Option Str
  | .obj c' fs => if c' = c then match fs.lookup fld with
      | some (.tup xs) => match toPLg (fun _ => none) xs with
        | some ps => if okRep (.list ps) = true ∧ (Str.empty ++ pre ++ (PyData.list ps).shown).length ≤ 100000 ∧ (Str.empty ++ pre ++ (PyData.list ps).shown ++ suf).length ≤ 100000 then some (Str.empty ++ pre ++ (PyData.list ps).shown ++ suf) else none
        | none => none
      | _ => none
    else none
  | _ => none
end
section
variable {K : PySem.W.Frag} {m : Mp} {Ω : Om} {H H' : Hp} {c fld pre suf : Str}
theorem Go.up (cc : CellsOk K m Ω H) (l : LeH H H') : Go K m Ω H m Ω H' := by
  have g : Gw K m Ω H m Ω H' := .of (fun _ _ h => h) (fun a o h _ => l a o h) (fun _ _ _ h => h)
  refine ⟨g, ⟨cc.len, cc.nd, fun n x a h1 h2 => CellOk.go g cc x (cc.at_ n x a h1 h2) (fun o h => l a o h), fun a h => ?_, TbO.go cc g fun a ps h _ => l a _ h⟩, fun a o _ h => l a o h, fun _ h => h⟩
  obtain ⟨⟨vs, h1, w⟩, h2⟩ := cc.hl a h
  exact ⟨⟨vs, l _ _ h1, w⟩, h2⟩
theorem objT_ok (cc : CellsOk K m Ω H) {d : D} {v : V} {t : Str} (r : Rl K m Ω H d v) (h : objT c fld pre suf d = some t) : Rp1 K c fld pre suf H v t := by
  unfold objT at h
  cases d with
  | obj c' fs =>
    dsimp only at h
    unfold Rl at r
    obtain ⟨a, dx, gs, ev, h1, _, h2⟩ := r
    by_cases hc : c' = c
    · rw [if_pos hc] at h
      subst hc
      rcases h2.lookup (f := fld) with ⟨d, v, z1, z2, z3⟩ | ⟨z1, z2⟩
      · rw [z1] at h
        cases d with
        | tup xs =>
          dsimp only at h
          cases e : toPLg (fun _ => none) xs with
          | none => rw [e] at h; cases h
          | some ps =>
            rw [e] at h
            dsimp only at h
            by_cases hk : okRep (.list ps) = true ∧ (Str.empty ++ pre ++ (PyData.list ps).shown).length ≤ 100000 ∧ (Str.empty ++ pre ++ (PyData.list ps).shown ++ suf).length ≤ 100000
            · rw [if_pos hk] at h
              unfold Rl at z3
              obtain ⟨b, ws, ev2, k1, k2⟩ := z3
              subst ev2
              cases h
              exact ⟨a, dx, gs, b, ws, ps, ev, h1, z2, k1.sq, toPLg_ok cc (fun n p v _ e => by cases e) xs ws ps k2 e, hk.1, sz hk.2.1, rfl, sz hk.2.2⟩
            · rw [if_neg hk] at h; cases h
        | _ => cases h
      · rw [z1] at h; cases h
    · rw [if_neg hc] at h; cases h
  | _ => cases h
end
end Dn


set_option Elab.async false
set_option linter.all false
set_option maxRecDepth 100000
set_option maxHeartbeats 2000000
/-! DnRg: list(range(a, b)); a walk over a dict's keys or a list. -/
namespace Dn
open PySem L2
section
variable {X : Cx} {E : St → XK} {a b e : Expr} {f g : Den D} {p p' pos pos' : Pos}
end
end Dn


set_option Elab.async false
set_option linter.all false
set_option maxRecDepth 100000
set_option maxHeartbeats 2000000
/-! DnMix: texts put together, repr of one object, x(k = v), {} as data, C(k = v), x == what is none, a constant by the instance, a list that is lent. -/
namespace Dn
open PySem L2
/-! ### texts -/
section
variable {X : Cx} {E : St → XK} {a b e : Expr} {f g : Den D} {pos p : Pos}
/-- {} as data -/
theorem de_dlit : DE X E (.Dict [] [] pos) (fC (.dct [])) := PE.mono pe_dnewK fun σ H Q h => by
  obtain ⟨m, Γ, Ω, s, h⟩ := h
  intro p hp
  refine h m _ _ (Go.new s.cells hp) ?_
  unfold Rl
  exact ⟨p, [], rfl, .inl upd_same, s.cells.freshL hp, by unfold RlK; rfl⟩
end
/-! ### repr(x) -/
section
variable {X : Cx} {c fld pre suf : Str} {k : Nat}
def rRepr1 (K : PySem.W.Frag) (c fld pre suf : Str) : List V → Hp → VK → Prop := fun xs H Q => ∃ y t, xs = [y] ∧ Rp1 K c fld pre suf H y t ∧ ∀ H', LeH H H' → Q (.str t) H'
theorem call_repr1 (G : RpG X.prog X.w X.K X.mg X.base c fld pre suf k) (hr : RoomG (k + 1) X.A) : CallR X (.builtin "repr") (rRepr1 X.K c fld pre suf) := by
  intro pins s σ H xs us Q I rv h
  obtain ⟨y, t, ex, hy, q⟩ := h
  subst ex
  have hy0 := hy
  obtain ⟨a, dx, fs, tt, ws, ps, h1, h2, _⟩ := hy
  subst h1
  obtain ⟨u, rfl, ru⟩ := vals1 rv
  obtain rfl : u = Value.ref a := ru
  obtain ⟨f, fd, hs, hf, ok, bi⟩ := G.ex
  obtain ⟨mA, J, _⟩ := ins_get I.hok h2
  obtain ⟨od, J, _⟩ := J.look
  obtain ⟨mm, hF⟩ := I.fr
  have hun := hr.units
  refine PySem.W.repr_K (by show X.A.units + 1 < cLine; omega) hF I.ok.mod.kin J hs hf ?_
  refine wpAny_mono (runR (A := X.A.in1) (g := []) (Q := fun z s' => z = t ∧ ∃ H', LeH H H' ∧ Inv X pins σ H' s') ok bi hr.toRoom.in1 rfl hr.gd gd_nil I hy0 fun H' s' l I' => ⟨rfl, H', l, I'⟩) (fun v s' hv => ?_) fun _ _ z => z
  obtain ⟨z, tk, rfl, rfl, H', l, I'⟩ := hv
  exact ⟨.str z, H', I', ⟨_, rfl⟩, q H' l⟩
def dRepr1 (c fld pre suf : Str) : OpA := op1 fun d Ω => match objT c fld pre suf d with
  | some t => some (.ok (.str t), Ω)
  | none => none
theorem cd_repr1 {K : PySem.W.Frag} : CallD K (dRepr1 c fld pre suf) (rRepr1 K c fld pre suf) := by
  intro E m Ω H ds vs Q cc r q
  obtain ⟨d, v, ed, ev, h, q1⟩ := op1_of r q
  clear q
  have q := q1
  clear q1
  subst ed ev
  cases e1 : objT c fld pre suf d with
  | none => rw [e1] at q; exact q.elim
  | some t =>
    rw [e1] at q
    exact ⟨v, t, rfl, objT_ok cc h e1, fun H' l => q m _ H' (Go.up cc l) (by unfold Rl; rfl)⟩
theorem de_repr1 {E : St → XK} {e : Expr} {r : Den (List D)} {pos p : Pos} (G : RpG X.prog X.w X.K X.mg X.base c fld pre suf k) (hr : RoomG (k + 1) X.A) (hg : X.mg "repr" = none) (ha : DA X E [e] r) (hl : Gl X "repr" := by rfl)
    (he : starEach [e] X.env = (false, eval e X.env) :: starEach [] X.env := by rfl) (hpl : (backTo pos (starEach [] X.env)).any (·.1) = false := by rfl) : DE X E (.Call (.Name "repr" p) [e] [] pos) (fCB (dRepr1 c fld pre suf) r) :=
  de_callB (call_repr1 G hr) cd_repr1 hg bt_repr ha (hg := hl) (he := he) (hpl := hpl)
end
/-! ### x(k = v) -/
structure ClK (P : Program) (w : World) (K : PySem.W.Frag) (mg : Str → Option Value) (base : Heap) (c : Str) (ps ks : List Str) (ix : List Nat) (k : Nat) (F : FD) : Prop where
  ex : ∃ f fd, StX.CallO K (cad K c) f ∧ FnOkG P w K mg base (L2N.CX P w) k f fd ps (spD K ps.length F) ∧ KwB K fd ps 1 ks ix
section
variable {X : Cx} {E : St → XK} {fe : Expr} {kws : List Keyword} {fo : Den D} {r : Den (List D)} {pos : Pos} {c : Str} {ps ks : List Str} {ix : List Nat} {k n l : Nat} {F : FD}
end
/-! ### C(k = v) -/
structure MkK (P : Program) (w : World) (K : PySem.W.Frag) (mg : Str → Option Value) (base : Heap) (c : Str) (ps ks : List Str) (ix : List Nat) (k : Nat) (F : FD) : Prop where
  ex : ∃ f fd, Mk K (cad K c) f ∧ mg c = some (.ref (cad K c)) ∧ FnOkG P w K mg base (L2N.CX P w) k f fd ps (spD K ps.length F) ∧ KwB K fd ps 1 ks (0 :: ix.map (· + 1))
def fMakeK (c : Str) (n l : Nat) (ix : List Nat) (F : FD) (r : Den (List D)) : Den D := bnd r fun ds _ Ω => if ds.length = l then mkD c n F (reord ix ds) Ω else none
theorem reord_shift {α : Type} (ix : List Nat) (u : α) (ws : List α) : reord (0 :: ix.map (· + 1)) (u :: ws) = u :: reord ix ws := by
  unfold reord
  rw [List.filterMap_cons]
  have e : (u :: ws)[0]? = some u := rfl
  rw [e]
  dsimp only
  congr 1
  rw [List.filterMap_map]
  rfl
section
variable {X : Cx} {E : St → XK} {kws : List Keyword} {r : Den (List D)} {p pos : Pos} {c : Str} {ps ks : List Str} {ix : List Nat} {k n l : Nat} {F : FD}
theorem de_makeK (G : MkK X.prog X.w X.K X.mg X.base c ps ks ix k F) (hr : RoomG (k + 1) X.A) (hx : ∀ σ, PassesAt (L2N.CX X.prog X.w) X σ (E σ)) (ha : DK X E kws r) (hn : ps.length = n := by rfl) (hl : ks.length = l := by rfl) (hg : Gl X c := by rfl)
    (hdb : (c == ("__debug__" : Str)) = false := by decide) (hall : (backToKw pos (keywordEach kws X.env)).all (·.1.isSome) = true := by rfl) (hks : (backToKw pos (keywordEach kws X.env)).filterMap (·.1) = ks := by rfl)
    (hpl : ((backTo pos (starEach [] X.env)).any (·.1) || (backToKw pos (keywordEach kws X.env)).any (·.1.isNone)) = false := by rfl) : DE X E (.Call (.Name c p) [] kws pos) (fMakeK c n l ix F r) := by
  subst hn hl
  obtain ⟨f, fd, M, hm, ok, bi⟩ := G.ex
  refine ⟨fun pins s0 σ H0 Q I0 h => ?_⟩
  refine wpAny_Call_Name_kw (ld_glob I0 hg hm ?_ hdb)
  obtain ⟨m, Γ, Ω, s', h⟩ := h
  have h2 : tDA X.K E r σ H0 fun vs H1 => vs.length = ks.length ∧ ∀ x dx, H1 x = none → H1 dx = none → dx ≠ x → spD X.K ps.length F (.ref x :: reord ix vs) (upd (upd H1 dx (.own x)) x (.ins (cad X.K c) dx [])) (fun v H2 => v = .non ∧ Q (.ref x) H2) (E σ) :=
    ⟨m, Γ, Ω, s', (Af.bind (R := RlL X.K) h).imp fun _ _ _ _ _ _ _ _ ⟨m1, Ω1, ds, g1, r1, q⟩ => by
      obtain ⟨hl, q⟩ := Af.guard q
      exact ⟨by rw [← r1.length]; exact hl, make_of g1.ok (reord_rl r1) q⟩⟩
  refine PySem.W.callWith_KW0 (first := []) (h₀ := X.base) I0.ok.mod.kin M.kp hall (thn (ha.run pos pins s0 σ H0 _ I0 h2) fun us s ⟨vs, H, I, rv, l2, q⟩ => ⟨I.kIn, ?_⟩) hpl
  rw [hks, List.append_nil]
  have hq := q (s.heap.objs.size + 1) s.heap.objs.size (I.hok.fresh (Nat.le_succ _)) (I.hok.fresh (Nat.le_refl _)) (Nat.ne_of_lt (Nat.lt_succ_self _))
  have I2 := Inv.made (C := cad X.K c) I
  have r2 : Vals (V.ref (s.heap.objs.size + 1) :: reord ix vs) (Value.ref (s.heap.objs.size + 1) :: reord ix us) := .cons rfl (reord_vals rv)
  have b := bi.to { s with heap := (s.heap.push PySem.W.emptyDict).push (PySem.W.instObj (cad X.K c) s.heap.objs.size) } [Value.ref (s.heap.objs.size + 1)] us I2.kIn rfl (rv.length.symm.trans l2)
  rw [List.singleton_append, reord_shift] at b
  refine wpAny_call (make_map (f := f) I.kIn M.makes M.init (beq_iff_eq.mp M.fn) (codeAny_mono (ok.run _ X.stack _ _ ⟨[Value.ref (s.heap.objs.size + 1)], ks.zip us⟩ (Value.ref (s.heap.objs.size + 1) :: reord ix us) _ _ (E σ) (hr.make (cad X.K c) [] (ks.zip us))
    (I2.env0.make (cad X.K c) [] (ks.zip us)) b r2 hq) fun r s' hq' => ?_))
  cases r with
  | error e => exact hx σ pins _ _ e s' I2 hq'
  | ok fl =>
    cases fl with
    | ret u =>
      obtain ⟨v, H', I3, rv, ev, q3⟩ := I2.after hq'
      subst ev
      exact ⟨rv, ⟨V.ref (s.heap.objs.size + 1), H', I3, rfl, q3⟩⟩
    | next => exact False.elim hq'
    | brk => exact False.elim hq'
    | cont => exact False.elim hq'
end
/-! ### x == y, y no instance of the class -/
structure NotF (K : PySem.W.Frag) (c : Str) : Prop where
  nf : ∀ t ∈ tys, PySem.W.notFirst K (cad K c) (.type t) = true
section
variable {X : Cx} {E : St → XK} {a b : Expr} {f g : Den D} {pos : Pos} {c : Str} {ps : List Str} {k n : Nat} {F : FD}
end
/-! ### a constant of the class, by the instance -/
/-! ### C(.., l, ..), l a list that the caller goes on changing -/
section
variable {K : PySem.W.Frag} {m m' : Mp} {Ω Ω' : Om} {H : Hp}
end
section
variable {K : PySem.W.Frag} {m : Mp} {Ω : Om} {H : Hp}
/-- what lives is laid aside, but for the lists -/
def aside (m : Mp) (Ω : Om) (H : Hp) : Mp := ⟨[], fun a => Live m Ω a ∧ ∀ vs, H a ≠ some (.lst vs)⟩
theorem CellsOk.aside (c : CellsOk K m Ω H) : CellsOk K (aside m Ω H) [] H := by
  refine ⟨rfl, List.nodup_nil, fun n x a h1 h2 => by simp at h1, fun a ha => ?_, c.tb⟩
  obtain ⟨l, hn⟩ := ha
  refine ⟨?_, by intro z; cases z⟩
  rcases c.live l with ⟨vs, q⟩ | ⟨ws, q⟩ | ⟨_, _, _, q⟩ | ⟨f, q⟩ | ⟨f, q⟩
  · exact ⟨_, q, trivial⟩
  · exact ⟨_, q, trivial⟩
  · exact ⟨_, q, trivial⟩
  · exact ⟨_, q, trivial⟩
  · exact ⟨_, q, trivial⟩
end
section
variable {X : Cx} {E : St → XK} {e : Expr} {es : List Expr} {r : Den (List D)} {p pos : Pos} {c : Str} {ps : List Str} {k n : Nat} {F : FD}
end
end Dn


set_option Elab.async false
set_option linter.all false
set_option maxRecDepth 100000
/-! DnCell: list(x), a list of one's own. -/
namespace Dn
open PySem L2
end Dn


set_option Elab.async false
set_option linter.all false
set_option maxRecDepth 100000
set_option maxHeartbeats 2000000
/-! DnLamA: a lambda without parameters is made; the tables of code objects are part of what the cells know. -/
namespace Dn
open PySem PySem.Spec PyProof.Rows L2
/-- a code object of the name q stands at c, and stays -/
def CdF (H : Hp) (c : Addr) (q : Str) : Prop := ∃ (oc : Obj) (vs : Array Value) (t : Tok), H c = some (.frz oc (.own 0)) ∧ oc.data = .fields vs ∧ vs[1]? = some (.str q t)
/-- all stays, tables may grow -/
def Grw (H H' : Hp) : Prop := ∀ b o, H b = some o → ∃ o', H' b = some o' ∧ (o' = o ∨ ∃ ps qs, o = .tbl ps ∧ o' = .tbl qs)
theorem Grw.refl (H : Hp) : Grw H H := fun b o h => ⟨o, h, .inl rfl⟩
theorem Go.grw {K : PySem.W.Frag} {m : Mp} {Ω : Om} {H H' : Hp} (c : CellsOk K m Ω H) (g : Grw H H') (t : TbO K H') : Go K m Ω H m Ω H' := by
  refine Go.upS c (fun b o q => ?_) (fun b o q l => ?_) t
  · obtain ⟨o', e, z⟩ := g b o q
    exact ⟨o', e, z.imp id fun z => .inr (.inr z)⟩
  · obtain ⟨o', e, z⟩ := g b o q
    rcases z with z | ⟨ps, qs, z, _⟩
    · rw [e, z]
    · subst z; exact (c.tbl q l).elim
section
variable {X : Cx} {pins : List (Addr × Obj)} {σ : L2.St} {H : Hp} {s : Shared}
/-- the table at P is longer by one code object, which is new and stands at c -/
theorem inv_tb {P c : Addr} {oc : Obj} {ps qs : Array Value} {hp : Heap} {tk : Nat} (I : Inv X pins σ H s) (eP : H P = some (.tbl ps)) (hc : s.heap.objs.size ≤ c) (kp : ∀ b o, b ≠ P → s.heap.get? b = some o → hp.get? b = some o)
    (aP : hp.get? P = some { cls := .none, data := .fields (ps ++ qs) }) (aC : hp.get? c = some oc) :
    Inv X pins σ (upd (upd H P (.tbl (ps ++ qs))) c (.frz oc (.own 0))) { s with heap := hp, toks := tk } := by
  have fr : H c = none := I.hok.fresh hc
  have dP : c ≠ P := fun z => by rw [z, eP] at fr; cases fr
  have oth : ∀ b, b ≠ c → b ≠ P → upd (upd H P (.tbl (ps ++ qs))) c (.frz oc (.own 0)) b = H b := fun b z1 z2 => by rw [upd_ne z1, upd_ne z2]
  have offc : ∀ b u, H b = some u → b ≠ c := fun b u e z => by rw [z, fr] at e; cases e
  have offP : ∀ b u, H b = some u → (∀ w, u ≠ .tbl w) → b ≠ P := fun b u e n z => by
    rw [z, eP] at e
    exact n _ (Option.some.inj e).symm
  have offN : ∀ b, H b = none → b ≠ P := fun b e z => by rw [z, eP] at e; cases e
  have old : ∀ b o, s.heap.get? b = some o → b ≠ c := fun b o e z => by
    rw [z] at e
    exact Nat.lt_irrefl _ (Nat.lt_of_lt_of_le (Heap.lt_size e) hc)
  refine I.step (g' := s.gens) (d' := s.drawn) (ch := []) (fun b hb => absurd hb (by simp)) (fun b o _ _ _ e n => kp b o (offN b n) e) (fun b o _ _ _ e n => ⟨o.slots, kp b o (offN b n) e⟩)
    (fun b o _ e n => by rw [oth b (old b o e) (offN b n)]; exact n) (fun b o _ e => ?_) (fun b xs e => by rw [oth b (offc b _ e) (offP b _ e (by intro w z; cases z))]; exact e) (fun b o u e => by rw [oth b (offc b _ e) (offP b _ e (by intro w z; cases z))]; exact e)
    (fun b w e => ?_) (fun m hn => ?_) (fun b u e => ?_) I.bare
  · rcases Classical.em (b = P) with hb | hb
    · exact ⟨_, hb ▸ aP⟩
    · exact ⟨o, kp b o hb e⟩
  · rcases Classical.em (b = P) with hb | hb
    · subst hb
      rw [eP] at e
      cases e
      exact ⟨qs, by rw [upd_ne (Ne.symm dP), upd_same]⟩
    · exact ⟨#[], by rw [oth b (offc b _ e) hb, e, Array.append_empty]⟩
  · obtain ⟨ob, es, ep, q1, q2⟩ := hn
    exact ⟨ob, es, ep, kp _ ob (offN _ I.free) q1, q2⟩
  · rcases Classical.em (b = c) with hb | hb
    · subst hb
      rw [upd_same] at e
      cases e
      exact ⟨aC, oc, aC⟩
    · rcases Classical.em (b = P) with hP | hP
      · subst hP
        rw [upd_ne hb, upd_same] at e
        cases e
        exact aP
      · rw [oth b hb hP] at e
        refine (I.hok b u e).stay (fun d v hd q => kp d v ?_ q) (fun d q => ?_) fun d xs q => ?_
        · rcases hd with z | z
          · rw [z]; exact hP
          · exact offP d _ z (by intro w z; cases z)
        · rw [oth d (offc d _ q) (offP d _ q (by intro w z; cases z))]; exact q
        · rw [oth d (offc d _ q) (offP d _ q (by intro w z; cases z))]; exact q
/-- a lambda is made -/
theorem lam_mk {q : Str} {c P : Addr} {params : Arguments} {body : Expr} {scope : Scope} {pos : Pos} {E : Value → Shared → Prop} {Q : Value → Shared → Prop} (hq : X.env.qual ++ "<lambda>" = q) (TB : LamX.TabB X.base X.mg c P) (I : Inv X pins σ H s) (hcode : X.env.code = .ref c)
    (hm : (P, q) ∈ tbK X.K) (hu : ∀ p ∈ tbK X.K, p.1 = P → p.2 = q) (hT : TbO X.K H) (hdef : defaultsOf params X.env = ([], [])) (hfree : ∀ y ∈ scope.names, y.2 = .free → ∃ d, X.env.cells.lookup y.1 = some d)
    (h : ∀ (f cc : Addr) (pm ctv : Value) (H1 : Hp) (s1 : Shared), Inv X pins σ H1 s1 → Grw H H1 → TbO X.K H1 → CdF H1 cc q → H1 f = none → f ∉ frs X.stack →
      s1.heap.get? f = some (PySem.W.kla_obj "<lambda>" q params body scope (cloFrom X.env.cells scope.names []) pm cc ctv) → Q (.ref f) s1) :
    wpAny (model X.prog X.w) X.A (eval (.Lambda params body scope pos) X.env) Q E s := by
  subst hq
  obtain ⟨ps, eP, trip, tell⟩ := hT _ hm
  have bmP := TB.bm.keeps I.bk
  have atP : s.heap.get? P = some { cls := .none, data := .fields ps } := I.hok P _ eP
  have out : ∀ f, s.heap.objs.size ≤ f → f ∉ frs X.stack := fun f hf z => (List.mem_cons.mp (I.stkSub _ z)).elim (fun e => Nat.lt_irrefl _ (Nat.lt_of_lt_of_le I.lt (by rw [← e]; exact hf))) fun e => I.nofs hf e
  refine PySem.W.kla_eval hdef ?_
  cases look : codeAmong pos ps.toList with
  | some cv =>
    obtain ⟨cc, oc, vs, t, ev, e1, e2, e3⟩ := tell pos cv look
    subst ev
    refine PySem.W.kla_makeFunctionHit (c := c) (P := P) (ps := ps) (mg := X.mg) (closure_ok hfree) I.ok.glob (I.mod.glob.keeps I.bk) hcode (TB.code.keeps I.bk) atP trip look bmP fun ctv hp tk kp big => ?_
    have I1 := I.kept (h' := hp.push (PySem.W.kla_obj "<lambda>" (X.env.qual ++ "<lambda>") params body scope (cloFrom X.env.cells scope.names []) ((X.mg "__name__").getD .none) cc ctv)) (t' := tk) fun b o e => Heap.get?_push_of_some _ (kp b o e)
    exact h hp.objs.size cc _ ctv H _ I1 (Grw.refl H) hT ⟨oc, vs, t, e1, e2, e3⟩ (I.hok.fresh big) (out _ big) (Heap.get?_push_size _ rfl)
  | none =>
    refine PySem.W.kla_makeFunction (c := c) (P := P) (ps := ps) (mg := X.mg) (closure_ok hfree) I.ok.glob (I.mod.glob.keeps I.bk) hcode (TB.code.keeps I.bk) atP trip look TB.gP bmP fun cc ctv hp tk kp low up rec tabAt => ?_
    obtain ⟨c2, oc, vs, t, e0, e1, e2, e3⟩ := rec
    cases e0
    have big : s.heap.objs.size ≤ hp.objs.size := Nat.le_trans low (Nat.le_of_lt up)
    have fr : H cc = none := I.hok.fresh low
    have dP : cc ≠ P := fun z => by rw [z, eP] at fr; cases fr
    have I1 := inv_tb (tk := tk) (qs := #[rawInt pos.line, rawInt pos.col, .ref cc]) (hp := hp.push (PySem.W.kla_obj "<lambda>" (X.env.qual ++ "<lambda>") params body scope (cloFrom X.env.cells scope.names []) ((X.mg "__name__").getD .none) cc ctv)) I eP low
      (fun b o n e => Heap.get?_push_of_some _ (kp b o n e)) (Heap.get?_push_of_some _ tabAt) (Heap.get?_push_of_some _ e1)
    have offc : ∀ b u, H b = some u → b ≠ cc := fun b u e z => by rw [z, fr] at e; cases e
    have gr : Grw H (upd (upd H P (.tbl (ps ++ #[rawInt pos.line, rawInt pos.col, .ref cc]))) cc (.frz oc (.own 0))) := fun b o e => by
      rcases Classical.em (b = P) with hb | hb
      · subst hb
        rw [eP] at e
        cases e
        exact ⟨_, by rw [upd_ne (Ne.symm dP), upd_same], .inr ⟨_, _, rfl, rfl⟩⟩
      · exact ⟨o, by rw [upd_ne (offc b o e), upd_ne hb]; exact e, .inl rfl⟩
    have cd : CdF (upd (upd H P (.tbl (ps ++ #[rawInt pos.line, rawInt pos.col, .ref cc]))) cc (.frz oc (.own 0))) cc (X.env.qual ++ "<lambda>") := ⟨oc, vs, t, upd_same, e2, e3⟩
    have keepF : ∀ d o, H d = some (.frz o (.own 0)) → upd (upd H P (.tbl (ps ++ #[rawInt pos.line, rawInt pos.col, .ref cc]))) cc (.frz oc (.own 0)) d = some (.frz o (.own 0)) := fun d o e => by
      rw [upd_ne (offc d _ e), upd_ne (fun z => by rw [z, eP] at e; cases e)]
      exact e
    refine h hp.objs.size cc _ ctv _ _ I1 gr (fun p hp' => ?_) cd ?_ (out _ big) (Heap.get?_push_size _ rfl)
    · rcases Classical.em (p.1 = P) with hb | hb
      · rw [show p = (P, X.env.qual ++ "<lambda>") from Prod.ext hb (hu p hp' hb)]
        refine ⟨ps ++ #[rawInt pos.line, rawInt pos.col, .ref cc], by rw [upd_ne (Ne.symm dP), upd_same], by rw [Array.toList_append]; exact PySem.TriplesOk_snoc _ _ _ _ trip, fun p2 cv e => ?_⟩
        rw [Array.toList_append] at e
        rcases LamX.among_app _ trip e with z | z
        · obtain ⟨d, od, ws, u, z0, z1, z2, z3⟩ := tell p2 cv z
          exact ⟨d, od, ws, u, z0, keepF _ _ z1, z2, z3⟩
        · exact ⟨cc, oc, vs, t, z, upd_same, e2, e3⟩
      · obtain ⟨rs, z1, z2, z3⟩ := hT p hp'
        refine ⟨rs, by rw [upd_ne (offc _ _ z1), upd_ne hb]; exact z1, z2, fun p2 cv e => ?_⟩
        obtain ⟨d, od, ws, u, y0, y1, y2, y3⟩ := z3 p2 cv e
        exact ⟨d, od, ws, u, y0, keepF _ _ y1, y2, y3⟩
    · rw [upd_ne (Nat.ne_of_gt up), upd_ne (Nat.ne_of_gt (Nat.lt_of_lt_of_le (Heap.lt_size atP) big))]
      exact I.hok.fresh big
end
end Dn


set_option Elab.async false
set_option linter.all false
set_option maxRecDepth 100000
set_option maxHeartbeats 2000000
/-! DnLam: a lambda without parameters, handed to a def that calls it. -/
namespace Dn
open PySem PySem.Spec PyProof.Rows L2
/-- the context of a lambda's body -/
def lamN (X : Cx) (A : Around) (outer : List Env) (s : Shared) (H : Hp) (E : XK) (scope : Scope) (f cc : Addr) : Cx :=
  (LamX.lamCx X A outer s H E scope f cc).tr [] fun e s' => wpAny (model X.prog X.w) (A.deeper (LamX.lamEnv X scope s.heap.objs.size f cc)) (leaving (LamX.lamEnv X scope s.heap.objs.size f cc) e)
    (fun _ s2 => L2N.CX X.prog X.w outer H s E e s2) (fun e2 s2 => L2N.CX X.prog X.w outer H s E e2 s2) s'
section
variable {X : Cx} {A : Around} {outer : List Env} {s s1 s2 : Shared} {H HZ : Hp} {E : XK} {scope : Scope} {f cc : Addr} {σ : L2.St}
theorem lamN_inv (J : Inv (LamX.lamCx X A outer s H E scope f cc) [] σ HZ s2) : Inv (lamN X A outer s H E scope f cc) [] σ HZ s2 := J.toTry _
theorem lamN_takes : L2N.Takes (lamN X A outer s H E scope f cc) (fun cls d _ H => E cls d H) := L2N.takes_of rfl rfl rfl rfl
theorem lamN_pass : ∀ σ' : L2.St, PassesAt (L2N.CX (lamN X A outer s H E scope f cc).prog (lamN X A outer s H E scope f cc).w) (lamN X A outer s H E scope f cc) σ' ((fun _ => E) σ') := fun σ' => L2N.passAt lamN_takes σ'
end
section
variable {X : Cx} {pins : List (Addr × Obj)} {σ : L2.St} {H : Hp} {s : Shared} {Eg : XK} {Ng : List Str} {qg q a : Str} {sg scope : Scope} {g f cc : Addr} {cdg pm ctv : Value} {params : Arguments} {body : Expr} {k i : Nat} {pn : List (Addr × Obj)} {xe : Value → Shared → Prop} {p1 p2 : Pos}
/-- it is called, in the def that got it -/
theorem pe_actG {tb : XK → L2.TE} {Ez : L2.St → XK} (hq : X.env.qual ++ "<lambda>" = q) (I : Inv X pins σ H s) (L : LamX.LamS X.env.scope scope) (hcd : CdF H cc q) (hfn : H f = none) (hfr : f ∉ frs X.stack)
    (hf : s.heap.get? f = some (PySem.W.kla_obj "<lambda>" q params body scope (cloFrom X.env.cells scope.names []) pm cc ctv))
    (hbind : bindArgs (PySem.W.kla_fn "<lambda>" q params body scope (cloFrom X.env.cells scope.names []) pm (.ref cc) ctv) ⟨[], []⟩ = pure [])
    (hr : RoomG (k + 1) (X.A.deeper (envOfC qg sg s.heap.objs.size g cdg)))
    (hx : ∀ σ', PassesAt (L2N.CX X.prog X.w) ((cxOf (L2N.CX X.prog X.w) X.prog X.w X.K X.mg X.base Ng qg sg g cdg X.A X.stack s H Eg).tr pn xe) σ' (Ez σ'))
    (hbody : ∀ (A : Around) (outer : List Env) (s1 : Shared) (H1 : Hp) (E1 : XK), RoomG k (A.deeper (LamX.lamEnv X scope s1.heap.objs.size f cc)) → PE (lamN X A outer s1 H1 E1 scope f cc) body (tb E1))
    (hN : Ng[i]? = some a) (hv : Vis sg a) (hd : (a == ("__debug__" : Str)) = false) (hd2 : (a == ("__classdict__" : Str)) = false) :
    PE ((cxOf (L2N.CX X.prog X.w) X.prog X.w X.K X.mg X.base Ng qg sg g cdg X.A X.stack s H Eg).tr pn xe) (.Call (.Name a p1) [] [] p2) (fun σZ HZ Q => σZ[i]? = some (some (.ref f)) ∧ tb (Ez σZ) σ HZ Q) := by
  subst hq
  refine ⟨fun pinsZ sZ σZ HZ Q IZ ⟨hs, ht⟩ => ?_⟩
  refine wpAny_Call_Name_kw (thn ((pe_var (pos := p1) (i := i) hN hv hd hd2).run pinsZ sZ σZ HZ (fun v Hv => v = .ref f ∧ Hv = HZ) IZ ⟨.ref f, hs, rfl, rfl⟩) fun u s1 ⟨v, Hv, I1, rv, ev, eH⟩ => ?_)
  subst ev eH
  obtain rfl : u = Value.ref f := rv
  have at1 := I1.base.keep f _ hf hfn hfr (fun z => List.not_mem_nil (a := f) z)
  obtain ⟨oc, vs, t, c1, c2, c3⟩ := hcd
  obtain ⟨c4, _⟩ := I1.hok _ _ (I1.base.frzs _ _ _ c1)
  refine PySem.W.callWith_F0 ⟨_, _, _, _, at1⟩ (wpAny_call (codeAny_mono (R := CR (L2N.CX X.prog X.w) (envOfC qg sg s.heap.objs.size g cdg :: X.stack) X.prog X.w Hv s1 Q (Ez σZ)) ?_ fun r s' hq => ?_))
  · refine PySem.W.kla_callFunE hr.depth at1 rfl L.co L.gen rfl ⟨cc, oc, vs, t, rfl, c4, c2, c3⟩ ?_
    rw [show ([] : List Value) ++ [] = [] from rfl, hbind]
    refine wpAny_pure (wpAny_newFunctionEnv (fun y hy => (L.own y hy).2) (fun y hy => (List.not_mem_nil hy).elim) (fun hp hns hsb => ⟨I1.nolimit.fresh _ hsb, ?_⟩) L.kind)
    have keep : ∀ b o, s1.heap.get? b = some o → hp.get? b = some o := fun b o e => hsb.extBut b o (Nat.ne_of_lt (Heap.lt_size e)) (Heap.get?_push_of_some _ e)
    have J := lamN_inv (LamX.lam_start2 (E := Ez σZ) (f := f) (c' := cc) (tk := s1.toks + ([] : List (Str × Value)).length) I L I1.env0 hr.hd I1.base hns keep)
    refine PySem.W.kla_codeExpr (wpAny_mono ((hbody _ _ s1 Hv (Ez σZ) (hr.deeper _)).run [] _ _ Hv Q J ht) (fun v s' ⟨w', Hw, Jw, rw', qw⟩ => ?_) fun e s' z => z)
    exact ⟨w', Hw, Jw.os, Jw.bare, Jw.base, Jw.hok, rw', qw⟩
  · match r, hq with
    | .error e, hq => exact hx σZ pinsZ Hv s1 e s' I1 hq
    | .ok (.ret u), hq => exact I1.after hq
    | .ok .next, hq => exact hq.elim
    | .ok .brk, hq => exact hq.elim
    | .ok .cont, hq => exact hq.elim
end
/-! ### what the lambda sees of its maker -/
def capD : Gm → List D
  | [] => []
  | some d :: Γ => d :: capD Γ
  | none :: Γ => capD Γ
def capV : Gm → L2.St → List V
  | some _ :: Γ, some v :: σ => v :: capV Γ σ
  | some _ :: Γ, none :: σ => V.non :: capV Γ σ
  | none :: Γ, _ :: σ => capV Γ σ
  | _, _ => []
section
variable {K : PySem.W.Frag} {m m' : Mp} {Ω Ω' : Om} {H H' : Hp}
theorem Slots.tail {x : Option D} {y : Option V} {Γ : Gm} {σ : L2.St} (s : Slots K m Ω H (x :: Γ) (y :: σ)) : Slots K m Ω H Γ σ := ⟨by simpa using s.1, fun i d h => by simpa using s.2 (i + 1) d (by simpa using h)⟩
theorem slots_cap : ∀ {Γ : Gm} {σ : L2.St}, Slots K m Ω H Γ σ → RlL K m Ω H (capD Γ) (capV Γ σ)
  | [], σ, s => by unfold capD capV RlL; rfl
  | none :: Γ, [], s => by have := s.1; simp at this
  | some d :: Γ, [], s => by have := s.1; simp at this
  | none :: Γ, y :: σ, s => by unfold capD capV; exact slots_cap s.tail
  | some d :: Γ, y :: σ, s => by
    obtain ⟨v, h1, h2⟩ := s.2 0 d rfl
    obtain rfl : y = some v := by simpa using h1
    unfold capD capV RlL
    exact ⟨v, _, rfl, h2, slots_cap s.tail⟩
theorem cap_slots : ∀ {Γ : Gm} {σ : L2.St}, Slots K m Ω H Γ σ → RlL K m' Ω' H' (capD Γ) (capV Γ σ) → Slots K m' Ω' H' Γ σ
  | [], σ, s, _ => ⟨s.1, fun i d h => by simp at h⟩
  | none :: Γ, [], s, _ => by have := s.1; simp at this
  | some d :: Γ, [], s, _ => by have := s.1; simp at this
  | none :: Γ, y :: σ, s, r => by
    unfold capD capV at r
    have ih := cap_slots s.tail r
    refine ⟨s.1, fun i d h => ?_⟩
    cases i with
    | zero => simp at h
    | succ i => simpa using ih.2 i d (by simpa using h)
  | some d :: Γ, y :: σ, s, r => by
    obtain ⟨v, h1, _⟩ := s.2 0 d rfl
    obtain rfl : y = some v := by simpa using h1
    unfold capD capV RlL at r
    obtain ⟨v', vs, e, r1, r2⟩ := r
    cases e
    have ih := cap_slots s.tail r2
    refine ⟨s.1, fun i d' h => ?_⟩
    cases i with
    | zero =>
      obtain rfl : d = d' := by simpa using h
      exact ⟨v, rfl, r1⟩
    | succ i => simpa using ih.2 i d' (by simpa using h)
end
abbrev Thk := Om → Option (Rs D × Om)
open Classical in
/-- the thing c, called: it comes to th -/
noncomputable def fAct (i : Nat) (c : D) (th : Thk) : Den D := fun Γ Ω => if Γ[i]? = some (some c) then th Ω else none
section
variable {X : Cx} {pins : List (Addr × Obj)} {σ : L2.St} {H : Hp} {s : Shared} {Eg : XK} {Ng : List Str} {qg q a : Str} {sg scope : Scope} {g f cc : Addr} {cdg pm ctv : Value} {params : Arguments} {body : Expr} {k i : Nat} {pn : List (Addr × Obj)} {xe : Value → Shared → Prop} {p1 p2 : Pos}
theorem de_act {t : Den D} {m : Mp} {Γ : Gm} {Ω : Om} {Ez : L2.St → XK} (sl : Slots X.K m Ω H Γ σ) (hq : X.env.qual ++ "<lambda>" = q) (I : Inv X pins σ H s) (L : LamX.LamS X.env.scope scope) (hcd : CdF H cc q) (hfn : H f = none) (hfr : f ∉ frs X.stack)
    (hf : s.heap.get? f = some (PySem.W.kla_obj "<lambda>" q params body scope (cloFrom X.env.cells scope.names []) pm cc ctv))
    (hbind : bindArgs (PySem.W.kla_fn "<lambda>" q params body scope (cloFrom X.env.cells scope.names []) pm (.ref cc) ctv) ⟨[], []⟩ = pure [])
    (hr : RoomG (k + 1) (X.A.deeper (envOfC qg sg s.heap.objs.size g cdg)))
    (hx : ∀ σ', PassesAt (L2N.CX X.prog X.w) ((cxOf (L2N.CX X.prog X.w) X.prog X.w X.K X.mg X.base Ng qg sg g cdg X.A X.stack s H Eg).tr pn xe) σ' (Ez σ'))
    (hbody : ∀ (A : Around) (outer : List Env) (s1 : Shared) (H1 : Hp) (E1 : XK), RoomG k (A.deeper (LamX.lamEnv X scope s1.heap.objs.size f cc)) → DE (lamN X A outer s1 H1 E1 scope f cc) (fun _ => E1) body t)
    (hN : Ng[i]? = some a) (hv : Vis sg a) (hd : (a == ("__debug__" : Str)) = false) (hd2 : (a == ("__classdict__" : Str)) = false) :
    DE ((cxOf (L2N.CX X.prog X.w) X.prog X.w X.K X.mg X.base Ng qg sg g cdg X.A X.stack s H Eg).tr pn xe) Ez (.Call (.Name a p1) [] [] p2) (fAct i (.clo f (capD Γ) (capV Γ σ)) (t Γ)) :=
  PE.mono (pe_actG (tb := fun E1 => tD X.K (fun _ => E1) t) hq I L hcd hfn hfr hf hbind hr hx hbody hN hv hd hd2) fun σZ HZ Q ⟨mZ, ΓZ, ΩZ, sr, af⟩ => by
    unfold fAct at af
    by_cases he : ΓZ[i]? = some (some (.clo f (capD Γ) (capV Γ σ)))
    · rw [if_pos he] at af
      obtain ⟨v, h1, h2⟩ := sr.slots.2 i _ he
      unfold Rl at h2
      obtain ⟨rfl, h2⟩ := h2
      exact ⟨h1, mZ, Γ, ΩZ, ⟨sr.cells, cap_slots sl h2⟩, af⟩
    · rw [if_neg he] at af
      exact af.elim
end
/-! ### the def that gets it -/
/-- what is known of the call of what it got -/
def ActG (P : Program) (w : World) (K : PySem.W.Frag) (mg : Str → Option Value) (base : Heap) (k : Nat) (x : Str) (g : Addr) (A : Around) (out : List Env) (s : Shared) (H : Hp) (c : D) (th : Thk) : Prop :=
  ∀ (Ng : List Str) (sg : Scope) (cdg : Value) (Eg : XK) (pn : List (Addr × Obj)) (xe : Value → Shared → Prop) (Ez : L2.St → XK) (a : Str) (p1 p2 : Pos), RoomG (k + 1) (A.deeper (envOfC x sg s.heap.objs.size g cdg)) →
    (∀ σ', PassesAt (L2N.CX P w) ((cxOf (L2N.CX P w) P w K mg base Ng x sg g cdg A out s H Eg).tr pn xe) σ' (Ez σ')) → Ng[0]? = some a → Vis sg a → (a == ("__debug__" : Str)) = false → (a == ("__classdict__" : Str)) = false →
    DE ((cxOf (L2N.CX P w) P w K mg base Ng x sg g cdg A out s H Eg).tr pn xe) Ez (.Call (.Name a p1) [] [] p2) (fAct 0 c th)
structure HearG (P : Program) (w : World) (K : PySem.W.Frag) (mg : Str → Option Value) (base : Heap) (x : Str) (j k : Nat) (FH : D → Thk → Thk) : Prop where
  ex : ∃ (g : Addr) (fd : FuncData) (a : Str), mg x = some (.ref g) ∧ PySem.W.keepIn K (.ref g) = true ∧ Binds K fd [a] [] ∧
    ∀ (A : Around) (out : List Env) (s : Shared) (H : Hp) (m : Mp) (Ω : Om) (c : D) (f : Addr) (Q : VK) (E : XK) (th : Thk), RoomG k A → Env0 P w K mg base A out s H → CellsOk K m Ω H → Rl K m Ω H c (.ref f) → BindsTo s fd ⟨[.ref f], []⟩ [(a, .ref f)] →
      ActG P w K mg base j x g A out s H c th → Af K (Rl K) E Q m Ω H (FH c th Ω) → codeAny (model P w) A (.call (.ref g) ⟨[.ref f], []⟩) (CR (L2N.CX P w) out P w H s Q E) s
section
variable {P : Program} {w : World} {K : PySem.W.Frag} {mg : Str → Option Value} {base : Heap} {x a : Str} {params : Arguments} {body : List Stmt} {scope : Scope} {g : Addr} {fd : FuncData}
theorem hear_def {N : List Str} {j k : Nat} {b : D → Thk → DenS} (F : FunD K x x params body scope [] [] g fd) (S : FnScope N [a] scope) (hm : mg x = some (.ref g)) (hk : PySem.W.keepIn K (.ref g) = true) (hB : Binds K fd [a] [])
    (hb : ∀ (c : D) (th : Thk) (cdv : Value) (A : Around) (out : List Env) (s : Shared) (H : Hp) (E : XK), RoomG k (A.deeper (envOfC x scope s.heap.objs.size g cdv)) → ActG P w K mg base j x g A out s H c th →
      DSs (cxOf (L2N.CX P w) P w K mg base N x scope g cdv A out s H E) (fun _ => E) body (b c th)) : HearG P w K mg base x j (k + 1) fun c th => clean (fnD N.length (b c th)) [c] := by
  obtain ⟨oc, od, dV, kV, doc, pm, an, cdv, ct, osl, rfl, lk, hcd, _, _⟩ := F.ex
  refine ⟨g, _, a, hm, hk, hB, fun A out s H m Ω c f Q E th room env ck rc bnd act af => ?_⟩
  have kin : K.In s.heap := env.mod.kin.keeps fun b o q => (env.bs b o q).1
  have nolim : s.heap.NoLimit := env.mod.nolimit.keeps fun b o q => (env.bs b o q).1
  have rl : RlL K m Ω H [c] [.ref f] := by unfold RlL; exact ⟨_, _, rfl, rc, by unfold RlL; rfl⟩
  have af2 := clean_ok ck af
  refine codeAny_call_function room.depth (kin _ _ lk) rfl S.co S.gen rfl (PySem.W.codeRec_of kin hcd)
    (bnd _ _ _ _ (wpAny_newFunctionEnv_cells S.kind (fun y hy => ?_) fun ev hev s1 ic => ?_))
  · obtain rfl : y = (a, Value.ref f) := by simpa using hy
    exact (S.par a (List.mem_singleton.mpr rfl)).imp (fun z => z) fun z => ⟨z, PySem.W.cellsFrom_some _ _ _ (.inl z)⟩
  · subst hev
    have inv : Inv (cxOf (L2N.CX P w) P w K mg base N x scope g cdv A out s H E) [] (L2.start N [.ref f]) H s1 := inv_start (us := [.ref f]) S room.hd env rfl (.cons rfl .nil) ic
    have ht := hb c th cdv A out s H E (room.deeper _) act
    refine ⟨nolim.keeps ic.toInCall.keep, codeAny_func (wpAny_mono (ht.run [] s1 _ H { nx := fun _ Hz => Q .non Hz, rt := Q } inv ⟨m, startG N.length [c], Ω, ⟨ck, slots_start rl⟩, ?_⟩) (fun fl s' q => ?_) fun _ _ q => q)⟩
    · unfold fnD at af2
      show AfS K (fun _ => E) _ m Ω H (b c th (startG N.length [c]) Ω)
      cases e : b c th (startG N.length [c]) Ω with
      | none => rw [e] at af2; exact af2
      | some z =>
        obtain ⟨fl, Γ', Ω'⟩ := z
        rw [e] at af2
        cases fl with
        | nx => exact fun m' σ' H' g sl => af2 m' .non H' g (by unfold Rl; rfl)
        | rt d => exact af2
        | ex e => exact fun m' σ' H' cls dd g sl r => af2 m' H' cls dd g r
        | bk => exact af2.elim
        | ct => exact af2.elim
    · match fl, q with
      | .ret u, ⟨v, σ', H', J, rv, q⟩ => exact ⟨v, H', J.os, J.bare, J.base, J.hok, rv, q⟩
      | .next, ⟨σ', H', J, q⟩ => exact ⟨V.non, H', J.os, J.bare, J.base, J.hok, rfl, q⟩
      | .brk, ⟨_, _, _, q⟩ => exact q.elim
      | .cont, ⟨_, _, _, q⟩ => exact q.elim
end
/-- the maker of a lambda: its code object, its table -/
structure LamG (base : Heap) (K : PySem.W.Frag) (mg : Str → Option Value) (x : Str) (cd : Value) : Prop where
  ex : ∃ c P, cd = .ref c ∧ LamX.TabB base mg c P ∧ (P, (x ++ ".<locals>.") ++ "<lambda>") ∈ tbK K ∧ ∀ p ∈ tbK K, p.1 = P → p.2 = (x ++ ".<locals>.") ++ "<lambda>"
open Classical in
/-- x(lambda: e) -/
noncomputable def fHear (FH : D → Thk → Thk) (t : Den D) : Den D := fun Γ Ω => if h : ∃ r, ∀ f us, FH (.clo f (capD Γ) us) (t Γ) Ω = some r then some h.choose else none
theorem fHear_eq {FH : D → Thk → Thk} {t : Den D} {Γ : Gm} {Ω : Om} {r : Rs D × Om} (h : ∀ f us, FH (.clo f (capD Γ) us) (t Γ) Ω = some r) : fHear FH t Γ Ω = some r := by
  unfold fHear
  have hx : ∃ r, ∀ f us, FH (.clo f (capD Γ) us) (t Γ) Ω = some r := ⟨r, h⟩
  rw [dif_pos hx]
  have e := hx.choose_spec 0 []
  rw [h 0 []] at e
  exact e.symm
section
variable {X : Cx} {E : L2.St → XK} {x y : Str} {j k : Nat} {FH : D → Thk → Thk} {t : Den D} {params : Arguments} {body : Expr} {scope : Scope} {p lpos pos : Pos}
theorem de_hear (G : HearG X.prog X.w X.K X.mg X.base x j k FH) (T : LamG X.base X.K X.mg y X.env.code) (hqual : X.env.qual = y ++ ".<locals>.") (hr : RoomG k X.A) (hx : ∀ σ, PassesAt (L2N.CX X.prog X.w) X σ (E σ)) (L : LamX.LamS X.env.scope scope) (hdef : defaultsOf params X.env = ([], []))
    (hbind : ∀ (q : Str) (cl : List (Str × Addr)) (pm cv ctv : Value), bindArgs (PySem.W.kla_fn "<lambda>" q params body scope cl pm cv ctv) ⟨[], []⟩ = pure [])
    (hbody : ∀ (A : Around) (outer : List Env) (s1 : Shared) (H1 : Hp) (E1 : XK) (f cc : Addr), RoomG j (A.deeper (LamX.lamEnv X scope s1.heap.objs.size f cc)) → DE (lamN X A outer s1 H1 E1 scope f cc) (fun _ => E1) body t)
    (hg : Gl X x := by rfl) (hdb : (x == ("__debug__" : Str)) = false := by decide) : DE X E (.Call (.Name x p) [.Lambda params body scope lpos] [] pos) (fHear FH t) := by
  obtain ⟨g, fd, a, hm, hk, hB, run⟩ := G.ex
  obtain ⟨c, P, hcode, TB, hmT, hu⟩ := T.ex
  refine ⟨fun pins s σ H Q I ⟨m, Γ, Ω, sr, af⟩ => ?_⟩
  refine wpAny_Call_Name_kw (ld_glob I hg hm ?_ hdb)
  refine PySem.W.callWith_K (h₀ := X.base) I.ok.mod.kin hk ?_ (by rfl) (by rfl)
  show wpAny _ _ (spliced ((false, eval (.Lambda params body scope lpos) X.env) :: backTo pos (starEach [] X.env))) _ _ s
  refine Calls.spliced_cons (lam_mk (q := X.env.qual ++ "<lambda>") rfl TB I hcode (by rw [hqual]; exact hmT) (by rw [hqual]; exact hu) sr.cells.tb hdef (L.has I.ok) fun f cc pm ctv H1 s1 I1 gr T1 cd hfn hfr hf => ?_)
  refine Calls.spliced_nil ⟨I1.kIn, ?_⟩
  have go : Go X.K m Ω H m Ω H1 := Go.grw sr.cells gr T1
  have sr1 := sr.go go
  have af1 := Af.go go af
  have rc : Rl X.K m Ω H1 (.clo f (capD Γ) (capV Γ σ)) (.ref f) := by unfold Rl; exact ⟨rfl, slots_cap sr1.slots⟩
  have bnd := hB s1 [.ref f] I1.kIn rfl
  unfold fHear at af1
  by_cases hh : ∃ r, ∀ f us, FH (.clo f (capD Γ) us) (t Γ) Ω = some r
  · rw [dif_pos hh, ← hh.choose_spec f (capV Γ σ)] at af1
    refine wpAny_call (codeAny_mono (run X.A X.stack s1 H1 m Ω _ f Q (E σ) (t Γ) hr I1.env0 go.ok rc bnd (fun Ng sg cdg Eg pn xe Ez a' p1 p2 r1 r2 r3 r4 r5 r6 => ?_) af1) fun r s2 hq => ?_)
    · exact de_act sr1.slots rfl I1 L cd hfn hfr hf (hbind _ _ _ _ _) r1 r2 (fun A outer s2 H2 E2 hr2 => hbody A outer s2 H2 E2 f cc hr2) r3 r4 r5 r6
    · match r, hq with
      | .error e, hq => exact hx σ pins H1 s1 e s2 I1 hq
      | .ok (.ret u), hq => exact I1.after hq
      | .ok .next, hq => exact hq.elim
      | .ok .brk, hq => exact hq.elim
      | .ok .cont, hq => exact hq.elim
  · rw [dif_neg hh] at af1
    exact af1.elim
end
end Dn


set_option Elab.async false
set_option linter.all false
set_option maxRecDepth 100000
/-! DnHead3: the Hook over all objects that the top has made (no reaching from name to name: less memory). -/
namespace Dn
open PySem L2
/-- two looks at the top's end are one -/
theorem look2 {a b c : Type} {E : Option PySem.W.SharedT} {A : PySem.W.SharedT → a} {B : PySem.W.SharedT → b} {C : PySem.W.SharedT → c} {x : a} {y : b} {z : c} (h1 : E.map (fun s => (A s, B s)) = some (x, y)) (h2 : E.map C = some z) : E.map (fun s => (A s, B s, C s)) = some (x, y, z) := by
  cases E with
  | none => cases h2
  | some s =>
    obtain ⟨e1, e2⟩ := Prod.mk.inj (Option.some.inj h1)
    have e3 := Option.some.inj h2
    show some (A s, B s, C s) = _
    rw [e1, e2, e3]
end Dn


set_option Elab.async false
set_option linter.all false
set_option maxRecDepth 100000
set_option maxHeartbeats 2000000
/-! DnJoin: formatted texts of any parts: {e}, {e!r} of texts, ints, lists and tuples of plain data. -/
namespace Dn
open PySem PySem.Spec PyProof.Rows L2
/-! ### denotations -/
section
variable {X : Cx} {E : L2.St → XK} {k : Nat} {e : Expr} {es : List Expr} {f : Den D} {j : Str → Den D} {s : Str} {k1 : Nat} {pos : Pos}
end
end Dn


set_option Elab.async false
set_option linter.all false
set_option maxRecDepth 100000
set_option maxHeartbeats 2000000
/-! DnSeq: x in a list of plain items, l.index(x), l.reverse(). -/
namespace Dn
open PySem L2
section
variable {K : PySem.W.Frag} {m : Mp} {Ω : Om} {H : Hp} {d : D} {v w : V}
end
section
variable {X : Cx} {E : St → XK} {a b : Expr} {f g : Den D} {pos : Pos}
end
/-! ### l.index(x) -/
section
variable {K : PySem.W.Frag} {m : Mp} {Ω : Om} {H : Hp} {d : D} {v w : V}
end
section
variable {X : Cx} {E : St → XK} {o e : Expr} {f g : Den D} {r : Den (List D)} {apos cpos : Pos}
end
end Dn


set_option Elab.async false
set_option linter.all false
set_option maxRecDepth 100000
set_option maxHeartbeats 2000000
/-! DnDfl: C(e, ..) where later parameters have defaults. -/
namespace Dn
open PySem L2
/-- the defaults' data dfl stand for the values that a call adds -/
structure MkD (P : Program) (w : World) (K : PySem.W.Frag) (mg : Str → Option Value) (base : Heap) (c : Str) (ps : List Str) (dfl : List D) (k : Nat) (F : FD) : Prop where
  ex : ∃ f fd ds dvs, Mk K (cad K c) f ∧ mg c = some (.ref (cad K c)) ∧ FnOkG P w K mg base (L2N.CX P w) k f fd ps (spD K ps.length F) ∧ Binds K fd ps ds ∧ Vals dvs ds ∧ ∀ m Ω H, RlL K m Ω H dfl dvs
section
variable {X : Cx} {E : St → XK} {e : Expr} {es : List Expr} {r : Den (List D)} {p pos : Pos} {c : Str} {ps : List Str} {dfl : List D} {k n : Nat} {F : FD}
end
/-! ### the default () -/
end Dn
namespace Dn
open PySem L2
end Dn


set_option Elab.async false
set_option linter.all false
set_option maxRecDepth 100000
set_option maxHeartbeats 2000000
/-! DnSetK: sets of ints and texts that can be walked: what they are, add. -/
namespace Dn
open PySem PySem.Spec PyProof.Rows L2
instance decMemK (k : Key) (L : List Key) : Decidable (k ∈ L) := @List.instDecidableMemOfLawfulBEq Key (@instBEqOfDecidableEq Key inferInstance) inferInstance k L
/-- an entry's key -/
def kOf (e : Int × Value) : Key := match e.2 with
  | .int i _ => .inl i
  | .str x _ => .inr x
  | _ => .inl 0
structure Ent (w : World) (e : Int × Value) : Prop where
  ex : ∃ (k : Key) (u : Value), e = (keyH w k, u) ∧ RelV (kV k) u
/-- the set at a has just the keys L -/
structure SetW (w : World) (h : Heap) (a : Addr) (L : List Key) : Prop where
  ex : ∃ (ob : Obj) (en : Array (Int × Value)) (ep : Nat) (tb : SetTable), h.get? a = some ob ∧ ob.ExactSet ∧ ob.data = .set en ep tb ∧ (∀ e ∈ en.toList, Ent w e) ∧ (en.toList.map kOf).Perm L ∧ L.Nodup ∧
    en.size < scanBound ∧ tb.fits en.size = true ∧ Ris tb.place.toList ∧ (w.params.followText "set-order" = true ∨ tb.led = true)
section
variable {P : Program} {w : World} {h h' : Heap} {a : Addr} {L : List Key} {e : Int × Value}
theorem Ent.key (z : Ent w e) (k : Key) : (mixKind P w).is k e.2 = true ↔ kOf e = k := by
  obtain ⟨j, u, rfl, r⟩ := z.ex
  cases j with
  | inl i =>
    obtain ⟨t, rfl⟩ := r
    show keyIs k (Value.int i t) = true ↔ Sum.inl i = k
    cases k with
    | inl m =>
      have e1 : keyIs (.inl m) (Value.int i t) = (i == m) := by simp [keyIs, Value.isInt]
      rw [e1, beq_iff_eq]
      exact ⟨fun z => by rw [z], fun z => Sum.inl.inj z⟩
    | inr m =>
      have e1 : keyIs (.inr m) (Value.int i t) = false := by simp [keyIs, Value.isStrOf]
      rw [e1]
      exact ⟨fun z => Bool.noConfusion z, fun z => nomatch z⟩
  | inr i =>
    obtain ⟨t, rfl⟩ := r
    show keyIs k (Value.str i t) = true ↔ Sum.inr i = k
    cases k with
    | inr m =>
      have e1 : keyIs (.inr m) (Value.str i t) = (i == m) := by simp [keyIs, Value.isStrOf]
      rw [e1, beq_iff_eq]
      exact ⟨fun z => by rw [z], fun z => Sum.inr.inj z⟩
    | inl m =>
      have e1 : keyIs (.inl m) (Value.str i t) = false := by simp [keyIs, Value.isInt]
      rw [e1]
      exact ⟨fun z => Bool.noConfusion z, fun z => nomatch z⟩
theorem ent_elems {l : List (Int × Value)} (z : ∀ e ∈ l, Ent w e) : ElemsOf (mixKind P w) l := fun e he => by
  obtain ⟨k, u, rfl, r⟩ := (z e he).ex
  exact ⟨⟨k, kV_is r, rfl⟩, key_scan r⟩
theorem ent_mem {l : List (Int × Value)} (z : ∀ e ∈ l, Ent w e) (k : Key) : k ∈ l.map kOf ↔ ∃ e ∈ l, (mixKind P w).is k e.2 = true := by
  rw [List.mem_map]
  exact ⟨fun ⟨e, he, q⟩ => ⟨e, he, ((z e he).key k).mpr q⟩, fun ⟨e, he, q⟩ => ⟨e, he, ((z e he).key k).mp q⟩⟩
theorem SetW.at (R : SetW w h a L) (kp : ∀ o, h.get? a = some o → h'.get? a = some o) : SetW w h' a L := by
  obtain ⟨ob, en, ep, tb, h0, r⟩ := R.ex
  exact ⟨ob, en, ep, tb, kp ob h0, r⟩
end
def addK (L : List Key) (k : Key) : List Key := if k ∈ L then L else L ++ [k]
section
variable {P : Program} {w : World} {A : Around} {E : Value → Shared → Prop} {s : Shared} {a : Addr} {L : List Key}
theorem tail_addW {g : Bool → Sem Unit} (hg : ∀ (b : Bool) (s1 : Shared) (Q1 : Unit → Shared → Prop), Q1 () s1 → wpAny (model P w) A (g b) Q1 E s1)
    {ob : Obj} {en en1 : Array (Int × Value)} {ep : Nat} {tb tb1 : SetTable} (h0 : s.heap.get? a = some ob) (hx : ob.ExactSet) (hD : ob.data = .set en ep tb)
    {M : List Key} (z1 : ∀ e ∈ en1.toList, Ent w e) (p1 : (en1.toList.map kOf).Perm M) (nd1 : M.Nodup) (b1 : en1.size < scanBound) (f1 : tb1.fits en1.size = true) (r1 : Ris tb1.place.toList) (l1 : w.params.followText "set-order" = true ∨ tb1.led = true)
    {dm : Bool} {R : Option Bool → Shared → Prop} (hR : ∀ hp, Heap.SameBut a s.heap hp → SetW w hp a M → R (some true) { s with heap := hp }) :
    wpAny (model P w) A (do
        storeSet a en1 tb1
        if (!dm && tb1.tooFull) = true then do
            g (relayAll tb1 en1 (SetTable.grown en1.size)).2.2
            storeSet a (relayAll tb1 en1 (SetTable.grown en1.size)).1 (relayAll tb1 en1 (SetTable.grown en1.size)).2.1
            pure (some true)
          else pure (some true)) R E s := by
  refine wpAny_bind (wpAny_storeSet_of h0 hD ?_ (fits_of_scanBound b1))
  have o1 := store_at (es' := en1) (t' := tb1) h0 hD
  have same1 := Heap.SameBut.update s.heap a (Obj.putSet en1 tb1)
  split
  · have pz := relayAll_perm tb1 en1 (SetTable.grown en1.size)
    have fz := relayAll_fits tb1 en1 (SetTable.grown en1.size)
    have rz := relayAll_ris tb1 en1 (SetTable.grown en1.size)
    have lz := relayAll_led tb1 en1 (SetTable.grown en1.size)
    generalize relayAll tb1 en1 (SetTable.grown en1.size) = Z at pz fz rz lz ⊢
    obtain ⟨en2, tb2, gv⟩ := Z
    dsimp only at pz fz rz lz ⊢
    have n2 : en2.size = en1.size := by rw [← Array.length_toList, pz.length_eq, Array.length_toList]
    have b2 : en2.size < scanBound := by rw [n2]; exact b1
    refine wpAny_bind (hg _ _ _ ?_)
    refine wpAny_bind (wpAny_storeSet_of o1 rfl ?_ (fits_of_scanBound b2))
    have o2 := store_at (es' := en2) (t' := tb2) o1 rfl
    exact wpAny_pure (hR _ (same1.trans (Heap.SameBut.update _ a _)) ⟨_, en2, _, tb2, o2, hx, rfl, fun e he => z1 e (pz.mem_iff.mp he), (pz.map kOf).trans p1, nd1, b2, fz, rz, l1.imp id fun z => by rw [lz]; exact z⟩)
  · exact wpAny_pure (hR _ same1 ⟨_, en1, _, tb1, o1, hx, rfl, z1, p1, nd1, b1, f1, r1, l1⟩)
theorem addW_hashed {k : Key} {u : Value} {Q : Bool → Shared → Prop} (rk : RelV (kV k) u) (R : SetW w s.heap a L) (room : L.length + 1 < scanBound)
    (hQ : ∀ hp b, Heap.SameBut a s.heap hp → SetW w hp a (addK L k) → Q b { s with heap := hp }) :
    wpAny (model P w) A (setAddHashed a u ((mixKind P w).hash k)) Q E s := by
  obtain ⟨ob, en, ep, tb, h0, hx, hD, z, pm, nd, hb, hF, hr, hl⟩ := R.ex
  have ky : (mixKind P w).is k u = true := kV_is rk
  have sc := key_scan rk
  have el : ElemsOf (mixKind P w) en.toList := ent_elems z
  unfold setAddHashed setAddHashedIn
  refine wpAny_holding (wpAny_bind (wpAny_setState_of h0 hD hF ?_))
  dsimp only
  rw [byScan_of sc hb el]
  simp only [↓reduceIte]
  unfold setAddByScan
  refine wpAny_bind (wpAny_bind (wpAny_rule (wpAny_bind (wpAny_setScan_of ky h0 hD hF el ?_))))
  cases fi : List.findIdx? (fun e => (mixKind P w).is k e.2) en.toList with
  | some j =>
    dsimp only
    obtain ⟨hj, pj, _⟩ := List.findIdx?_eq_some_iff_getElem.mp fi
    have hk : k ∈ L := pm.mem_iff.mp ((ent_mem (P := P) z k).mpr ⟨en.toList[j], List.getElem_mem hj, pj⟩)
    refine wpAny_pure (wpAny_pure (hQ s.heap _ (Heap.SameBut.refl a s.heap) ?_))
    unfold addK
    rw [if_pos hk]
    exact R
  | none =>
    dsimp only
    have nk : k ∉ L := fun m => by
      obtain ⟨e, he, q⟩ := (ent_mem (P := P) z k).mp (pm.mem_iff.mpr m)
      have := List.findIdx?_eq_none_iff.mp fi e he
      rw [q] at this
      cases this
    have eL : addK L k = L ++ [k] := if_neg nk
    have pz := layNew_perm tb en ((mixKind P w).hash k) u
    have fz := layNew_fits tb en ((mixKind P w).hash k) u
    have rz := layNew_ris tb en ((mixKind P w).hash k) u hr
    have lz := layNew_led tb en ((mixKind P w).hash k) u
    generalize layNew tb en ((mixKind P w).hash k) u = Z at pz fz rz lz ⊢
    obtain ⟨en1, tb1, dm, gv⟩ := Z
    dsimp only at pz fz rz lz ⊢
    rw [Array.toList_push] at pz
    have ek : kOf ((mixKind P w).hash k, u) = k := ((⟨k, u, rfl, rk⟩ : Ent w ((mixKind P w).hash k, u)).key (P := P) k).mp ky
    have p1 : (en1.toList.map kOf).Perm (L ++ [k]) := by
      have := pz.map kOf
      rw [List.map_append, List.map_cons, List.map_nil, ek] at this
      exact this.trans (List.Perm.append_right _ pm)
    have z1 : ∀ e ∈ en1.toList, Ent w e := fun e he => by
      rcases List.mem_append.mp (pz.mem_iff.mp he) with m | m
      · exact z e m
      · rw [List.mem_singleton.mp m]; exact ⟨k, u, rfl, rk⟩
    have nd1 : (L ++ [k]).Nodup := by
      rw [List.nodup_append]
      exact ⟨nd, by simp, fun x hxL y hy => by
        rw [List.mem_singleton.mp hy]
        exact fun q => nk (q ▸ hxL)⟩
    have n1 : en1.size = L.length + 1 := by
      have := p1.length_eq
      rw [List.length_map, Array.length_toList, List.length_append, List.length_singleton] at this
      exact this
    have b1 : en1.size < scanBound := by rw [n1]; exact room
    have led1 : w.params.followText "set-order" = true ∨ tb1.led = true := hl.imp id fun q => by rw [lz]; exact q
    have fin : ∀ hp, Heap.SameBut a s.heap hp → SetW w hp a (L ++ [k]) → Q true { s with heap := hp } := fun hp sb q => hQ hp true sb (by rw [eL]; exact q)
    have quiet : ∀ (b : Bool) (s1 : Shared) (Q1 : Unit → Shared → Prop), Q1 () s1 → wpAny (model P w) A (match b with | true => rule "set.scan.the-table-gave-way" | false => pure ()) Q1 E s1 := fun b s1 Q1 q => by
      cases b
      · exact wpAny_pure q
      · exact wpAny_rule q
    refine wpAny_bind (quiet _ _ _ ?_)
    split
    · refine wpAny_bind ?_
      rw [hashByValue_scannable 8 sc]
      refine wpAny_pure ?_
      refine tail_addW quiet h0 hx hD z1 p1 nd1 b1 ?_ ?_ ?_ ?_
      · first | (split <;> first | exact fz | exact SetTable.fits_plain_off fz) | exact fz
      · first | (split <;> exact rz) | exact rz
      · first | (split <;> exact led1) | exact led1
      · intro hp sb q
        exact wpAny_pure (fin hp sb q)
    · refine wpAny_bind (wpAny_pure ?_)
      simp only [↓reduceIte]
      refine tail_addW quiet h0 hx hD z1 p1 nd1 b1 fz rz led1 fun hp sb q => ?_
      exact wpAny_pure (fin hp sb q)
end
/-! ### over the layer -/
def SetWO (w : World) (a : Addr) (L : List Key) : HO := .ext fun h => SetW w h a L
theorem setW_fresh (w : World) {h : Heap} {a : Addr} (h0 : h.get? a = some { cls := .type "set", dict := none, data := .set #[] 0 (.fresh 0 0 (!w.params.followText "set-order")) }) : SetW w h a [] :=
  ⟨_, #[], 0, _, h0, ⟨rfl, rfl, rfl⟩, rfl, (fun e he => by simp at he), List.Perm.refl _, List.nodup_nil, (by decide), (by rfl), List.Pairwise.nil, by
    show _ ∨ (!w.params.followText "set-order") = true
    generalize w.params.followText "set-order" = b
    cases b
    · right; rfl
    · left; rfl⟩
end Dn


set_option Elab.async false
set_option linter.all false
set_option maxRecDepth 100000
set_option maxHeartbeats 2000000
/-! DnSetL: the order of texts; sorted(s), len(s) of such sets. -/
namespace Dn
open PySem PySem.Spec PyProof.Rows L2 SrtO
/-! ### texts in order -/
/-! ### the sort's view of texts -/
section
variable {prog : Program} {w : World} {A : Around} {E : Value → Shared → Prop} {s : Shared}
end
/-! ### the keys of a set, gathered -/
def keyV : Value → Key
  | .int i _ => .inl i
  | .str x _ => .inr x
  | _ => .inl 0
section
variable {P : Program} {w : World} {A : Around} {E : Value → Shared → Prop} {s : Shared} {a : Addr} {L : List Key}
theorem Ent.val {e : Int × Value} (z : Ent w e) : RelV (kV (keyV e.2)) e.2 ∧ keyV e.2 = kOf e := by
  obtain ⟨k, u, rfl, r⟩ := z.ex
  cases k with
  | inl i => obtain ⟨t, rfl⟩ := r; exact ⟨⟨t, rfl⟩, rfl⟩
  | inr i => obtain ⟨t, rfl⟩ := r; exact ⟨⟨t, rfl⟩, rfl⟩
end
/-! ### over the layer -/
end Dn


set_option Elab.async false
set_option linter.all false
set_option maxRecDepth 100000
/-! DnSetM: set(x) of lists and tuples of ints and texts; len(s). -/
namespace Dn
open PySem PySem.Spec PyProof.Rows L2 SrtO
def dedupK (ks : List Key) : List Key := ks.foldl addK []
def emptyS (w : World) : Obj := { cls := .type "set", dict := none, data := .set #[] 0 (.fresh 0 0 (!w.params.followText "set-order")) }
theorem addK_len (L : List Key) (k : Key) : (addK L k).length ≤ L.length + 1 := by
  unfold addK
  split
  · omega
  · simp
theorem dedup_snoc (ks : List Key) (k : Key) : dedupK (ks ++ [k]) = addK (dedupK ks) k := by
  unfold dedupK
  rw [List.foldl_append]
  rfl
theorem fold_addK : ∀ (ks L : List Key), (ks.foldl addK L).length ≤ L.length + ks.length
  | [], L => by simp
  | k :: ks, L => by
    have h := fold_addK ks (addK L k)
    have := addK_len L k
    rw [List.foldl_cons, List.length_cons]
    omega
theorem dedup_len (ks : List Key) : (dedupK ks).length ≤ ks.length := by
  have := fold_addK ks []
  unfold dedupK
  simpa using this
section
variable {P : Program} {w : World} {A : Around} {E : Value → Shared → Prop} {s : Shared}
theorem updW {I : Addr} {fp wr : List Addr} {G : Array GenState → Array GenState → Prop} {n : Nat} {Pv : Nat → Value → Prop} {St : Nat → Shared → Prop} {R : Result → Shared → Prop}
    (W : WalksS P w A.in1 I fp wr G n Pv St) (D : Addr) (hD : D ∉ fp) (ks : List Key) (hn : n = ks.length) (hb : ks.length + 1 < scanBound) (hv : ∀ i v, Pv i v → ∃ k, ks[i]? = some k ∧ RelV (kV k) v) :
    ∀ (m i : Nat) (s : Shared), n - i = m → i ≤ n → St i s → SetW w s.heap D (dedupK (ks.take i)) →
      (∀ s1, Moved (D :: wr) G s s1 → SetW w s1.heap D (dedupK ks) → R (.ok (.ret .none)) s1) → codeAny (model P w) A (.builtin "set.update.loop" ⟨[.ref D, .ref I], []⟩) R s := by
  have hDw : D ∉ wr := fun z => hD (W.sub _ z)
  have more : ∀ b ∈ wr, b ∈ D :: wr := fun b z => List.mem_cons_of_mem _ z
  intro m
  induction m with
  | zero =>
    intro i s hm hi st hS hR
    have ei : i = n := (by omega)
    subst ei
    refine codeAny_builtin F.entry_set_update_loop (?_)
    rw [Around.under_plainId F.plain_set_update_loop (_)]
    change wpAny _ A.in1 (pyNext (.ref I) >>= _) _ _ s
    refine wpAny_bind (W.done s _ _ st fun s1 mv => ?_)
    change wpAny _ A.in1 (ret Value.none) _ _ s1
    rw [List.take_of_length_le (by omega)] at hS
    exact wpAny_pure (hR s1 (mv.mono more) (hS.at fun o e => mv.heap D o hDw e))
  | succ m ih =>
    intro i s hm hi st hS hR
    have lt : i < n := (by omega)
    refine codeAny_builtin F.entry_set_update_loop (?_)
    rw [Around.under_plainId F.plain_set_update_loop (_)]
    change wpAny _ A.in1 (pyNext (.ref I) >>= _) _ _ s
    refine wpAny_bind (W.item i s _ _ lt st fun v s1 pv st1 mv => ?_)
    obtain ⟨k, hk, rk⟩ := hv i v pv
    have hS1 := hS.at (h' := s1.heap) fun o e => mv.heap D o hDw e
    change wpAny _ A.in1 (holding [v] (setAdd D v) >>= _) _ _ s1
    refine wpAny_bind (wpAny_holding (?_))
    unfold setAdd
    refine wpAny_holding (wpAny_bind ((mixKind P w).pyHash (k := k) (kV_is rk) ?_))
    have room : (dedupK (ks.take i)).length + 1 < scanBound := by
      have h1 := dedup_len (ks.take i)
      rw [List.length_take] at h1
      omega
    refine addW_hashed (s := { s1 with toks := s1.toks + 1 }) rk hS1 room fun hp b sb q => ?_
    have q2 : SetW w hp D (dedupK (ks.take (i + 1))) := by
      rw [List.take_add_one, hk]
      show SetW w hp D (dedupK (ks.take i ++ [k]))
      rw [dedup_snoc]
      exact q
    refine wpAny_pure ⟨plainId_quiet F.plain_set_update_loop (_), ih (i + 1) _ (by omega) lt (W.frame _ s1 _ _ st1 (Nat.le_succ _) fun b hb o e => ?_) q2 fun s2 mv2 q3 => ?_⟩
    · rw [sb.2 b fun z : b = D => hD (z ▸ hb)]
      exact e
    · refine hR s2 (Moved.trans W.gtrans ((mv.mono more).then_heap (Nat.le_succ _) fun b o hb e => ?_) mv2) q3
      rw [sb.2 b fun z : b = D => hb (by rw [z]; exact List.mem_cons_self)]
      exact e
set_option maxHeartbeats 3200000
theorem set_list {l : Addr} {items : Array Value} (ks : List Key) {Q : Value → Shared → Prop} (hh : A.handled = none) (hl : s.heap.IsList l items) (hv : ∀ (i : Nat) (v : Value), items[i]? = some v → ∃ k, ks[i]? = some k ∧ RelV (kV k) v) (hn : items.size = ks.length) (hb : ks.length + 1 < scanBound)
    (h : ∀ (hp : Heap) (tk : Nat), SetW w hp s.heap.objs.size (dedupK ks) → (∀ b o, s.heap.get? b = some o → hp.get? b = some o) → Q (.ref s.heap.objs.size) { s with heap := hp, toks := tk }) :
    wpAny (model P w) A (call (.type "set") [.ref l]) Q E s := by
  obtain ⟨cc, tl, hmro⟩ := F.called_set.mro
  have made_ := F.called_set.made
  have sub_ := F.called_set.sub
  refine wpAny_call <| codeAny_of_tree ?_
  change wpAny _ _ (callAny (.type "set") _) _ _ _
  refine wpAny_pure ⟨Code.quiet_builtin _ (by decide +kernel), codeAny_builtin F.entry_type_call (?_)⟩
  rw [Around.under_plain (weight_type_call_type "set" [.ref l] []) (rfl)]
  have ct1 := F.called_set.notType
  have ct2 := F.called_set.canCreate
  have ct3 := F.typeCall_set_1 (.ref l)
  repeat any_goals (first | assumption | wp_step)
  generalize hH1 : s.heap.push (emptyS w) = H1
  have hH1' : s.heap.push { cls := .type "set", dict := none, data := .set #[] 0 (.fresh 0 0 (!w.params.followText "set-order")) } = H1 := hH1
  refine codeAny_mono (code_set_led1 (.ref l) (E := E) (Q₁ := fun obj s1 => obj = .ref s.heap.objs.size ∧ s1 = { s with heap := H1 }) ⟨rfl, by rw [hH1']⟩) fun r s1 hr => ?_
  cases r with
  | error e => exact (hr)
  | ok fl =>
    cases fl with
    | ret obj =>
      obtain ⟨rfl, rfl⟩ := hr
      have gS : H1.get? s.heap.objs.size = some (emptyS w) := by rw [← hH1]; exact Heap.get?_push_size _ rfl
      have tS : Shared.TypeIs { s with heap := H1 } (.ref s.heap.objs.size) "set" := ⟨_, gS, rfl⟩
      have old1 : ∀ b o, s.heap.get? b = some o → H1.get? b = some o := fun b o e => by rw [← hH1]; exact Heap.get?_push_of_some _ e
      have siz1 : H1.objs.size = s.heap.objs.size + 1 := by rw [← hH1]; exact Heap.size_push ..
      have li_ := F.called_set.init.lookup
      have bi_ := F.called_set.init.bind (.ref s.heap.objs.size)
      repeat any_goals (first | assumption | wp_step)
      refine codeAny_mono (codeAny_call_builtin (R := wants (fun r s2 => r = .none ∧ ∃ hp tk, s2 = { s with heap := hp, toks := tk } ∧ SetW w hp s.heap.objs.size (dedupK ks) ∧ ∀ b o, s.heap.get? b = some o → hp.get? b = some o) E)
        F.called_set.init.plain F.entry_set_init (check_set_init_1 tS (?_))) fun r2 s2 hr2 => ?_
      · obtain ⟨ol, hol, hcl, nl, hdl⟩ := hl
        obtain ⟨ocls, odict, odata, oslots⟩ := ol
        simp only at hcl hdl
        subst hcl
        subst hdl
        have gl := old1 l _ hol
        have sl1 := F.sub_list_set
        have sl2 := F.sub_list_frozenset
        have nd_ : (Value.type "list" == Value.type "dict") = false := (by decide)
        have il : H1.IsList l items := ⟨_, gl, rfl, nl, rfl⟩
        unfold Builtin.«set.__init__» noKeywords Builtin.Frozenset.updateFrom
        generalize hPI : pyIter = PI
        wp_walk
        subst hPI
        refine wpAny_pyIter_list il (wpAny_bind (wpAny_runValue ?_))
        have ltl : l < s.heap.objs.size := Heap.lt_size hol
        have h3 : A.in1.in1.in1.handled = none := (by simp [hh])
        have neI : l ≠ H1.objs.size := by rw [siz1]; exact Nat.ne_of_lt (Nat.lt_succ_of_lt ltl)
        have nS : s.heap.objs.size ∉ [H1.objs.size, l] := by
          rw [siz1]
          simp only [List.mem_cons, List.not_mem_nil, or_false, not_or]
          exact ⟨Nat.ne_of_lt (Nat.lt_succ_self _), Nat.ne_of_gt ltl⟩
        refine updW ((Walks.list h3 _ l neI items).toS) s.heap.objs.size nS ks hn hb hv (items.size - 0) 0 _ (by omega) (Nat.zero_le _) ⟨⟨_, Heap.get?_push_size _ rfl, rfl, rfl⟩, il.push _⟩ ?hS0 ?hR
        case hS0 =>
          exact setW_fresh w (Heap.get?_push_of_some _ gS)
        case hR =>
          intro s3 hm hS3
          obtain ⟨hp, g2, d2, tk, os2⟩ := s3
          have eg : g2 = s.gens := hm.gens
          have ed : d2 = s.drawn := hm.drawn
          have eo : os2 = s.os := hm.os
          subst eg ed eo
          change wpAny _ _ _ _ _ _
          refine wpAny_pure ?_
          change wpAny _ _ (ret Value.none) _ _ _
          refine wpAny_pure ⟨rfl, hp, tk, rfl, hS3, fun b o e => ?_⟩
          have b0 : b < s.heap.objs.size := Heap.lt_size e
          exact hm.heap b o (by
            simp only [List.mem_cons, List.not_mem_nil, or_false, not_or]
            exact ⟨Nat.ne_of_lt b0, by rw [siz1]; exact Nat.ne_of_lt (Nat.lt_succ_of_lt b0)⟩) (Heap.get?_push_of_some _ (old1 b o e))
      · cases r2 with
        | error e => exact (hr2)
        | ok fl2 =>
          cases fl2 with
          | ret r =>
            obtain ⟨rfl, hp, tk, rfl, hS3, kp⟩ := hr2
            repeat any_goals (first | assumption | wp_step)
            exact h _ _ hS3 kp
          | _ => exact (hr2.elim)
    | _ => exact (hr.elim)
end
end Dn


set_option Elab.async false
set_option linter.all false
set_option maxRecDepth 100000
set_option maxHeartbeats 2000000
/-! DnSetN: {elt for target in iter if ..} of ints and texts. -/
namespace Dn
open PySem PySem.Spec PyProof.Rows L2 SrtO PpSet
section
variable {X : Cx}
end
/-! ### sets as the value of an expression -/
section
variable {K : PySem.W.Frag} {m : Mp} {Ω : Om} {H : Hp}
end
section
variable {X : Cx} {E : L2.St → XK} {e : Expr} {f : Den D} {g : Den (List Key)} {p pos : Pos}
end
/-! ### the comprehension's denotation -/
/-- between two turns: the set at p is filled, hidden -/
structure ScI (w : World) (K : PySem.W.Frag) (Γ : Gm) (σ : L2.St) (m1 : Mp) (Ω1 : Om) (H1 : Hp) (p : Addr) (m2 : Mp) (Ω2 : Om) (acc : List Key) (H2 : Hp) : Prop where
  gw : Gw K m1 Ω1 H1 m2 Ω2 H2
  c : CellsOk K m2 Ω2 H2
  hh : ∀ a, m1.hid a → m2.hid a
  hk : ∀ a o, m1.hid a → H1 a = some o → H2 a = some o
  hD : m2.hid p
  eD : H2 p = some (SetWO w p acc)
  sl : Slots K m2 Ω2 H2 Γ σ
theorem ScI.step {w : World} {K : PySem.W.Frag} {Γ : Gm} {σ : L2.St} {m1 : Mp} {Ω1 : Om} {H1 : Hp} {p : Addr} {m2 m3 : Mp} {Ω2 Ω3 : Om} {acc : List Key} {H2 H3 : Hp} (I : ScI w K Γ σ m1 Ω1 H1 p m2 Ω2 acc H2) (g : Go K m2 Ω2 H2 m3 Ω3 H3) : ScI w K Γ σ m1 Ω1 H1 p m3 Ω3 acc H3 :=
  ⟨I.gw.trans g.toGw, g.ok, fun a h => g.hs a (I.hh a h), fun a o h e => g.hk a o (I.hh a h) (I.hk a o h e), g.hs p I.hD, g.hk p _ I.hD I.eD, ((SR.mk I.c I.sl).go g).slots⟩
section
variable {X : Cx} {E : L2.St → XK} {elt tg iter : Expr} {ifs : List Expr} {scope : Scope} {own : List (PySem.Str × Nat)} {pos : Pos} {fi : Den (List D)} {t : Tg} {ft : Den Bool} {fe : Den D}
end
end Dn


set_option Elab.async false
set_option linter.all false
set_option maxRecDepth 100000
set_option maxHeartbeats 2000000
/-! DnWide: divmod by wide numbers, v not in x, == of dicts of ints. -/
namespace Dn
open PySem L2
/-! ### v not in x -/
section
variable {X : Cx} {E : St → XK} {a b : Expr} {f g : Den D} {pos : Pos} {c : Str} {ps : List Str} {k n : Nat} {F : FD}
end
/-! ### dicts of ints -/
inductive HitV (ls : List (Key × V)) : List (Key × V) → Bool → Prop
  | nil : HitV ls [] true
  | miss {k : Key} {v : V} {r : List (Key × V)} : valV ls k = none → HitV ls ((k, v) :: r) false
  | hit {k : Key} {i j : Int} {r : List (Key × V)} {b : Bool} : valV ls k = some (.int j) → HitV ls r b → HitV ls ((k, .int i) :: r) ((i == j) && b)
section
variable {X : Cx} {E : St → XK} {a b : Expr} {f g : Den D} {pos : Pos} {k : Nat}
end
end Dn


set_option Elab.async false
set_option linter.all false
set_option maxRecDepth 100000
set_option maxHeartbeats 2000000
/-! DnWk: names of numbers, list * n, list(range(n)), one sign of a text, a part of a text. -/
namespace Dn
open PySem L2
section
variable {X : Cx} {E : St → XK} {a b e : Expr} {f g : Den D} {pos p p' pos' p2 : Pos}
/-! ### list * n -/
def dRepL : Op2 := fun x y Ω => match y with
  | .int k => match asL Ω x with
    | some xs => if (-(2 ^ 62) ≤ k ∧ k < 2 ^ 62) ∧ xs.length * k.toNat ≤ 100000 then some (.ok (.lst (List.replicate k.toNat xs).flatten), Ω) else none
    | none => none
  | _ => none
theorem RlL.rep {K : PySem.W.Frag} {m : Mp} {Ω : Om} {H : Hp} {ds : List D} {vs : List V} (h : RlL K m Ω H ds vs) : ∀ n, RlL K m Ω H (List.replicate n ds).flatten (List.replicate n vs).flatten
  | 0 => by unfold RlL; rfl
  | n + 1 => by
    rw [List.replicate_succ, List.replicate_succ, List.flatten_cons, List.flatten_cons]
    exact h.append (RlL.rep h n)
theorem od_repL {K : PySem.W.Frag} : OpD K dRepL rRep := by
  intro E m Ω H x y v u Q c rx ry q
  cases y with
  | int k =>
    unfold dRepL at q
    dsimp only at q
    cases e1 : asL Ω x with
    | none => rw [e1] at q; exact q.elim
    | some xs =>
      rw [e1] at q
      obtain ⟨⟨hk, hz⟩, q⟩ := Af.guard q
      obtain ⟨a, vs, e3, h1, h2⟩ := asL_ok c rx e1
      unfold Rl at ry
      exact ⟨a, k, vs, e3, ry, h1, by omega, by omega, by rw [← h2.length]; exact sz hz, fun p hp => q m _ _ (Go.new c hp) (Rl.newL c hp (h2.rep k.toNat))⟩
  | _ => exact q.elim
theorem de_repL (ha : DE X E a f) (hb : DE X E b g) : DE X E (.BinOp a .Mult b pos) (fBin dRepL f g) := de_bin op_rep od_repL ha hb
/-! ### list(range(n)) -/
/-! ### texts -/
end
/-! ### a def with defaults, all of its parameters written -/
end Dn


set_option Elab.async false
set_option linter.all false
set_option maxRecDepth 100000
/-! DnRec: dicts walked, dict comprehensions, texts walked, d.get(k, x). -/
namespace Dn
open PySem L2
/-! ### a dict, locked from then on -/
section
variable {X : Cx} {E : St → XK} {e : Expr} {f : Den D}
end
/-! ### for k in d, for k, v in d.items() -/
theorem RlK.at {K : PySem.W.Frag} {m : Mp} {Ω : Om} {H : Hp} : ∀ {kvs : List (Key × D)} {ws : List (Key × V)} {i : Nat} {k : Key} {v : V}, RlK K m Ω H kvs ws → ws[i]? = some (k, v) → ∃ d, kvs[i]? = some (k, d) ∧ Rl K m Ω H d v
  | [], ws, i, k, v, h, e => by unfold RlK at h; subst h; simp at e
  | (k', d) :: kvs, ws, i, k, v, h, e => by
    unfold RlK at h
    obtain ⟨w, r, ew, h1, h2⟩ := h
    subst ew
    cases i with
    | zero => cases (Option.some.inj e); exact ⟨d, rfl, h1⟩
    | succ i => exact RlK.at (i := i) h2 e
section
variable {X : Cx} {E : St → XK} {tg e : Expr} {f : Den (List (Key × D))} {apos cpos : Pos}
end
/-! ### for c in text -/
section
variable {X : Cx} {E : St → XK} {tg e a b : Expr} {f g : Den D} {pos : Pos}
end
/-! ### d.get(k, x) -/
section
variable {X : Cx} {E : St → XK} {a b c : Expr} {f g h : Den D} {pos apos cpos : Pos} {k : Nat}
end
/-! ### {k: v for .. in ..} -/
/-- between two turns: the dict at p is filled, hidden -/
structure DcI (K : PySem.W.Frag) (Γ : Gm) (σ : St) (m1 : Mp) (Ω1 : Om) (H1 : Hp) (p : Addr) (m2 : Mp) (Ω2 : Om) (acc : List (Key × D)) (ws : List (Key × V)) (H2 : Hp) : Prop where
  gw : Gw K m1 Ω1 H1 m2 Ω2 H2
  c : CellsOk K m2 Ω2 H2
  hh : ∀ a, m1.hid a → m2.hid a
  hk : ∀ a o, m1.hid a → H1 a = some o → H2 a = some o
  hD : m2.hid p
  eD : H2 p = some (.dK ws)
  racc : RlK K m2 Ω2 H2 acc ws
  sl : Slots K m2 Ω2 H2 Γ σ
theorem DcI.step {K : PySem.W.Frag} {Γ : Gm} {σ : St} {m1 : Mp} {Ω1 : Om} {H1 : Hp} {p : Addr} {m2 m3 : Mp} {Ω2 Ω3 : Om} {acc : List (Key × D)} {ws : List (Key × V)} {H2 H3 : Hp}
    (I : DcI K Γ σ m1 Ω1 H1 p m2 Ω2 acc ws H2) (g : Go K m2 Ω2 H2 m3 Ω3 H3) : DcI K Γ σ m1 Ω1 H1 p m3 Ω3 acc ws H3 :=
  ⟨I.gw.trans g.toGw, g.ok, fun a h => g.hs a (I.hh a h), fun a o h e => g.hk a o (I.hh a h) (I.hk a o h e), g.hs p I.hD, g.hk p _ I.hD I.eD, RlK.go g.toGw I.c _ _ I.racc, ((SR.mk I.c I.sl).go g).slots⟩
section
variable {X : Cx} {E : St → XK} {kx vx tg iter : Expr} {ifs : List Expr} {scope : Scope} {own : List (Str × Nat)} {pos : Pos} {fi : Den (List D)} {t : Tg} {ft : Den Bool} {fk fe : Den D}
end
end Dn


set_option Elab.async false
set_option linter.all false
set_option maxRecDepth 100000
set_option maxHeartbeats 2000000
/-! DnTrip: sorted(l), l a list of (int, int, text). -/
namespace Dn
open PySem PySem.Spec PyProof.Rows L2 SrtO
abbrev Tr := Int × Int × PySem.Str
/-! ### sorted, as one list -/
/-! ### the sort's view -/
section
variable {prog : Program} {w : World} {A : Around} {E : Value → Shared → Prop} {s : Shared}
def IsTr (h : Heap) (v : Value) (p : Tr) : Prop := ∃ a o t u r n, v = .ref a ∧ h.get? a = some o ∧ o.cls = .type "tuple" ∧ o.data = .seq #[.int p.1 t, .int p.2.1 u, .str p.2.2 r] n
theorem IsTr.keeps {h h' : Heap} {v : Value} {p : Tr} (x : IsTr h v p) (k : ∀ b o, h.get? b = some o → o.cls = .type "tuple" → h'.get? b = some o) : IsTr h' v p := by
  obtain ⟨a, o, t, u, r, n, e, ho, hc, hd⟩ := x
  exact ⟨a, o, t, u, r, n, e, k _ _ ho hc, hc, hd⟩
end
/-! ### as a rule of the layer -/
/-! ### data -/
section
variable {K : PySem.W.Frag} {m : Mp} {Ω : Om} {H : Hp}
end
/-! ### sorted(l), l a list of texts -/
end Dn


set_option Elab.async false
set_option linter.all false
set_option maxRecDepth 100000
set_option maxHeartbeats 1000000
/-! DnRec2: sorted(d) of texts, list(d.values()), d.pop(k, x), l.pop(i), repr(d), d != e. -/
namespace Dn
open PySem PySem.Spec PyProof.Rows L2 SrtO
/-! ### sorted(d), its keys texts -/
section
variable {X : Cx}
end
/-! ### list(d.values()) -/
section
variable {X : Cx} {e : Expr} {te : TE} {p apos cpos pos : Pos}
end
theorem RlK.vals {K : PySem.W.Frag} {m : Mp} {Ω : Om} {H : Hp} : ∀ {ds : List (Key × D)} {vs : List (Key × V)}, RlK K m Ω H ds vs → RlL K m Ω H (ds.map (·.2)) (vs.map (·.2))
  | [], vs, h => by unfold RlK at h; subst h; unfold RlL; rfl
  | (k, d) :: ds, vs, h => by
    unfold RlK at h
    obtain ⟨v, r, e, h1, h2⟩ := h
    subst e
    rw [List.map_cons, List.map_cons]
    unfold RlL
    exact ⟨v, _, rfl, h1, RlK.vals h2⟩
section
variable {X : Cx} {E : L2.St → XK} {e a b c : Expr} {f g h : Den D} {p apos cpos pos : Pos} {k : Nat}
end
/-! ### d.pop(k, x) -/
def dropD (kvs : List (Key × D)) (k : Key) : List (Key × D) := kvs.filter fun kv => decide (kv.1 ≠ k)
theorem RlK.drop {K : PySem.W.Frag} {m : Mp} {Ω : Om} {H : Hp} {k : Key} : ∀ {ds : List (Key × D)} {vs : List (Key × V)}, RlK K m Ω H ds vs → RlK K m Ω H (dropD ds k) (dropK vs k)
  | [], vs, h => by unfold RlK at h; subst h; unfold dropD dropK RlK; rfl
  | (k', d) :: ds, vs, h => by
    unfold RlK at h
    obtain ⟨v, r, e, h1, h2⟩ := h
    subst e
    have ih := RlK.drop (k := k) h2
    unfold dropD dropK at ih ⊢
    by_cases hk : k' = k
    · rw [List.filter_cons_of_neg (by simp [hk]), List.filter_cons_of_neg (by simp [hk])]
      exact ih
    · rw [List.filter_cons_of_pos (by simp [hk]), List.filter_cons_of_pos (by simp [hk])]
      unfold RlK
      exact ⟨v, _, rfl, h1, ih⟩
section
variable {X : Cx} {E : L2.St → XK} {e a b c : Expr} {f g h : Den D} {p apos cpos pos : Pos} {k : Nat}
end
/-! ### l.pop(i) -/
section
variable {X : Cx} {E : L2.St → XK} {o e : Expr} {f g : Den D} {r : Den (List D)} {apos cpos : Pos}
end
/-! ### repr(d), d's values ints -/
section
variable {X : Cx} {k : Nat}
end
/-! ### d != e, values ints -/
section
variable {X : Cx} {E : L2.St → XK} {a b : Expr} {f g : Den D} {pos : Pos} {k : Nat}
end
end Dn


set_option Elab.async false
set_option linter.all false
set_option maxRecDepth 100000
/-! DnRec3: d[k] = v on a dict of one's own. -/
namespace Dn
open PySem L2
section
variable {K : PySem.W.Frag} {m : Mp} {Ω : Om} {H : Hp}
end
section
variable {X : Cx} {E : St → XK} {o i e : Expr} {fo fi fe : Den D} {pos tpos : Pos} {k : Nat}
end
/-! ### sorted(s), a list of one's own -/
end Dn


set_option Elab.async false
set_option linter.all false
set_option maxRecDepth 100000
/-! DnDcT: dicts whose keys are tuples. -/
namespace Dn
open PySem L2
def valT (kvs : List (List Key × D)) (k : List Key) : Option D := (kvs.find? fun kv => decide (kv.1 = k)).map (·.2)
def putT (kvs : List (List Key × D)) (k : List Key) (v : D) : List (List Key × D) :=
  if (kvs.any fun kv => decide (kv.1 = k)) = true then kvs.map (fun kv => if kv.1 = k then (kv.1, v) else kv) else kvs ++ [(k, v)]
def keysE : List D → Option (List Key)
  | [] => some []
  | d :: ds => match keyD d with
    | none => none
    | some k => match keysE ds with
      | none => none
      | some ks => some (k :: ks)
/-- a tuple of at least two parts as a key -/
def keyT : D → Option (List Key)
  | .tup ds => if 2 ≤ ds.length then keysE ds else none
  | _ => none
section
variable {K : PySem.W.Frag} {m : Mp} {Ω : Om} {H : Hp}
theorem keysE_ok : ∀ {ds : List D} {vs : List V} {ks : List Key}, RlL K m Ω H ds vs → keysE ds = some ks → vs = ks.map kV
  | [], vs, ks, r, e => by unfold keysE at e; cases e; unfold RlL at r; exact r
  | d :: ds, vs, ks, r, e => by
    unfold RlL at r
    obtain ⟨v, w, ev, r1, r2⟩ := r
    subst ev
    unfold keysE at e
    cases e1 : keyD d with
    | none => rw [e1] at e; cases e
    | some k =>
      rw [e1] at e
      dsimp only at e
      cases e2 : keysE ds with
      | none => rw [e2] at e; cases e
      | some ks' =>
        rw [e2] at e
        cases e
        rw [List.map_cons, keyD_ok r1 e1, keysE_ok r2 e2]
theorem keyT_ok {d : D} {v : V} {k : List Key} (r : Rl K m Ω H d v) (e : keyT d = some k) : ∃ b, v = .ref b ∧ H b = some (.tup (k.map kV)) := by
  cases d with
  | tup ds =>
    unfold keyT at e
    dsimp only at e
    by_cases h2 : 2 ≤ ds.length
    · rw [if_pos h2] at e
      unfold Rl at r
      obtain ⟨a, vs, ev, ht, hv⟩ := r
      have hl := hv.length
      have ek := keysE_ok hv e
      rcases ht with ht | ⟨hlen, _⟩
      · exact ⟨a, ev, by rw [← ek]; exact ht⟩
      · omega
    · rw [if_neg h2] at e
      cases e
  | _ => cases e
theorem RlT.length : ∀ {ds : List (List Key × D)} {vs : List (List Key × V)}, RlT K m Ω H ds vs → ds.length = vs.length
  | [], vs, h => by unfold RlT at h; rw [h]; rfl
  | (k, d) :: ds, vs, h => by
    unfold RlT at h
    obtain ⟨v, r, e, _, h2⟩ := h
    rw [e, List.length_cons, List.length_cons, RlT.length h2]
theorem RlT.keys : ∀ {ds : List (List Key × D)} {vs : List (List Key × V)}, RlT K m Ω H ds vs → ds.map (·.1) = vs.map (·.1)
  | [], vs, h => by unfold RlT at h; rw [h]; rfl
  | (k, d) :: ds, vs, h => by
    unfold RlT at h
    obtain ⟨v, r, e, _, h2⟩ := h
    rw [e, List.map_cons, List.map_cons, RlT.keys h2]
theorem RlT.val : ∀ {ds : List (List Key × D)} {vs : List (List Key × V)} {k : List Key}, RlT K m Ω H ds vs → (∃ d v, valT ds k = some d ∧ valV vs k = some v ∧ Rl K m Ω H d v) ∨ (valT ds k = none ∧ valV vs k = none)
  | [], vs, k, h => by unfold RlT at h; subst h; exact .inr ⟨rfl, rfl⟩
  | (k', d) :: ds, vs, k, h => by
    unfold RlT at h
    obtain ⟨v, r, e, h1, h2⟩ := h
    subst e
    by_cases hk : k' = k
    · exact .inl ⟨d, v, by simp [valT, List.find?_cons, hk], by simp [valV, List.find?_cons, hk], h1⟩
    · have e1 : valT ((k', d) :: ds) k = valT ds k := by simp [valT, List.find?_cons, hk]
      have e2 : valV ((k', v) :: r) k = valV r k := valV_neg hk
      rw [e1, e2]
      exact RlT.val h2
theorem RlT.append : ∀ {ds es : List (List Key × D)} {vs ws : List (List Key × V)}, RlT K m Ω H ds vs → RlT K m Ω H es ws → RlT K m Ω H (ds ++ es) (vs ++ ws)
  | [], es, vs, ws, h, h' => by unfold RlT at h; subst h; exact h'
  | (k, x) :: ds, es, vs, ws, h, h' => by
    unfold RlT at h
    obtain ⟨v, r, e1, h1, h2⟩ := h
    subst e1
    show RlT K m Ω H ((k, x) :: (ds ++ es)) ((k, v) :: (r ++ ws))
    unfold RlT
    exact ⟨v, _, rfl, h1, h2.append h'⟩
theorem RlT.put {ds : List (List Key × D)} {vs : List (List Key × V)} {k : List Key} {d : D} {v : V} (h : RlT K m Ω H ds vs) (r : Rl K m Ω H d v) : RlT K m Ω H (putT ds k d) (putK vs k v) := by
  have ha : (ds.any fun kv => decide (kv.1 = k)) = (vs.any fun kv => decide (kv.1 = k)) := by
    have := h.keys
    have e1 : (ds.any fun kv => decide (kv.1 = k)) = ((ds.map (·.1)).any fun x => decide (x = k)) := by rw [List.any_map]; rfl
    have e2 : (vs.any fun kv => decide (kv.1 = k)) = ((vs.map (·.1)).any fun x => decide (x = k)) := by rw [List.any_map]; rfl
    rw [e1, e2, this]
  unfold putT putK
  rw [ha]
  split
  · have key : ∀ {ds : List (List Key × D)} {vs : List (List Key × V)}, RlT K m Ω H ds vs → RlT K m Ω H (ds.map fun kv => if kv.1 = k then (kv.1, d) else kv) (vs.map fun kv => if kv.1 = k then (kv.1, v) else kv) := by
      intro ds
      induction ds with
      | nil => intro vs h; unfold RlT at h; subst h; unfold RlT; rfl
      | cons p ds ih =>
        intro vs h
        obtain ⟨k', x⟩ := p
        unfold RlT at h
        obtain ⟨w, r', e, h1, h2⟩ := h
        subst e
        rw [List.map_cons, List.map_cons]
        by_cases hk : k' = k
        · simp only [hk, if_true]
          unfold RlT
          exact ⟨v, _, rfl, r, ih h2⟩
        · simp only [hk, if_false]
          unfold RlT
          exact ⟨w, _, rfl, h1, ih h2⟩
    exact key h
  · refine h.append ?_
    unfold RlT
    exact ⟨v, [], rfl, r, by unfold RlT; rfl⟩
end
section
variable {X : Cx} {E : St → XK} {a b e o : Expr} {f g : Den D} {pos : Pos} {k : Nat}
end
/-! ### d[k] = v -/
section
variable {K : PySem.W.Frag} {m : Mp} {Ω : Om} {H : Hp}
end
section
variable {X : Cx} {E : St → XK} {o i e : Expr} {fo fi fe : Den D} {pos tpos : Pos} {k : Nat}
end
end Dn


set_option Elab.async false
set_option linter.all false
set_option maxRecDepth 100000
/-! DnStar: calls with *args. -/
namespace Dn
open PySem L2 PyProof.Rows StX
section
variable {K : PySem.W.Frag} {m : Mp} {Ω : Om} {H : Hp}
end
section
variable {X : Cx} {E : L2.St → XK} {x : Str} {ps : List Str} {k : Nat} {F : FD} {e : Expr} {es : List Expr} {f : Den D} {r : Den (List D)} {p q pos : Pos}
end
end Dn


set_option Elab.async false
set_option linter.all false
set_option maxRecDepth 100000
/-! DnTab: the module's dicts of whole numbers by text keys; its tuples. -/
namespace Dn
open PySem L2 PyProof.Rows
section
variable {X : Cx} {E : L2.St → XK} {x : Str} {kvs : List (Str × Int)} {e : Expr} {f : Den D} {p pos : Pos}
end
/-! ### the head's facts -/
end Dn
namespace Dn
open PySem L2 PyProof.Rows
/-! ### a tuple of the module with at most one part, a text -/
section
variable {X : Cx} {E : L2.St → XK} {x z : Str} {pos : Pos}
end
/-! ### the Hook with tables -/
abbrev AlW : Type := AlC × List (Option (List (Option (Str × Int))))
def valW (fn : List He.DefD) (fw : List He5.DefA) (ts : List (Str × List Str)) (w : World) : AlW := (((He.valD fn, true), He5.valA fw), ts.map fun t => some (He.keysIn w.params t.2))
structure SaysW (fa : List He.Fa) (fn : List He.DefD) (fw : List He5.DefA) (ex : PySem.W.Frag → Bool) (ts : List (Str × List Str)) (w : World) (K : PySem.W.Frag) : Prop where
  c : SaysC fa fn fw ex K
  ts : (ts.map fun t => He.dicW K (He.ga K t.1)) = ts.map fun t => some (He.keysIn w.params t.2)
theorem SaysW.tab {fa : List He.Fa} {fn : List He.DefD} {fw : List He5.DefA} {ex : PySem.W.Frag → Bool} {ts : List (Str × List Str)} {w : World} {K : PySem.W.Frag} (c : SaysW fa fn fw ex ts w K) (i : Nat) {t : Str × List Str} (h : ts[i]? = some t := by rfl) : He.dicW K (He.ga K t.1) = some (He.keysIn w.params t.2) := by
  have e2 : (ts.map fun t => He.dicW K (He.ga K t.1))[i]? = (ts.map fun t => some (He.keysIn w.params t.2))[i]? := by rw [c.ts]
  rw [List.getElem?_map, List.getElem?_map, h] at e2
  exact Option.some.inj e2
end Dn


set_option Elab.async false
set_option linter.all false
set_option maxRecDepth 100000
/-! DnHead4: the look at the top's end in pieces (less memory for each). -/
namespace Dn
open PySem L2
end Dn


set_option Elab.async false
set_option linter.all false
set_option maxRecDepth 100000
set_option maxHeartbeats 2000000
/-! DnLamH: a law with lambdas: the Hook without the makers' tables, the law's call. -/
namespace Dn
open PySem PySem.Spec PyProof.Rows L2
/-! ### the fragment -/
def tbV : List (Addr × Str) → List Value
  | [] => []
  | (P, q) :: r => .ref P :: .str q 0 :: tbV r
theorem tbD_tbV : ∀ T : List (Addr × Str), tbD (tbV T) = T
  | [] => by unfold tbV tbD; rfl
  | (P, q) :: r => by unfold tbV tbD; rw [tbD_tbV r]
def tab0 : Obj := { cls := .none, data := .fields #[] }
def frS (g : Addr → Option Obj) (n : Nat) (T : List (Addr × Str)) : PySem.W.Frag := He.frG g ((List.range n).filter fun a => !(T.any fun p => p.1 == a))
def frL (g : Addr → Option Obj) (n : Nat) (T : List (Addr × Str)) : PySem.W.Frag := frS g n T ++ [(mainGlobals, { cls := .none, data := .fields (tbV T).toArray })]
theorem tbK_frL {g : Addr → Option Obj} {n : Nat} {T : List (Addr × Str)} : tbK (frL g n T) = T := by
  unfold tbK frL
  rw [List.getLast?_append]
  exact tbD_tbV T
def tabB1 (o : Option Obj) : Bool := match o with
  | some ⟨.none, none, .fields ⟨[]⟩, ⟨[]⟩⟩ => true
  | _ => false
theorem tabB1_ok {o : Option Obj} (h : tabB1 o = true) : o = some tab0 := by
  unfold tabB1 at h
  split at h
  · rfl
  · cases h
def tabsL (n : Nat) (T : List (Addr × Str)) (g : Addr → Option Obj) : Bool := ((frS g n T).lookup mainGlobals).isSome && T.all fun p => tabB1 (g p.1) && !(mainGlobals == p.1)
theorem lookup_app {K K' : PySem.W.Frag} {a : Addr} : (K ++ K').lookup a = match K.lookup a with | some o => some o | none => K'.lookup a := by
  induction K with
  | nil => rfl
  | cons p K ih =>
    obtain ⟨b, o⟩ := p
    show List.lookup a ((b, o) :: (K ++ K')) = _
    rw [List.lookup_cons, List.lookup_cons]
    cases a == b with
    | true => rfl
    | false => exact ih
theorem frG_no {g : Addr → Option Obj} {a : Addr} : ∀ {as : List Addr}, a ∉ as → (He.frG g as).lookup a = none
  | [], _ => rfl
  | b :: r, h => by
    have ih := frG_no (g := g) (as := r) fun z => h (List.mem_cons_of_mem _ z)
    have hb : ¬ a = b := fun z => h (by rw [z]; exact List.mem_cons_self)
    unfold He.frG at ih ⊢
    rw [List.filterMap_cons]
    cases g b with
    | none => exact ih
    | some o =>
      show List.lookup a ((b, o) :: _) = none
      rw [List.lookup_cons, show (a == b) = false from beq_eq_false_iff_ne.mpr hb]
      exact ih
theorem frL_in {h : Heap} {n : Nat} {T : List (Addr × Str)} (t : tabsL n T h.get? = true) : (frL h.get? n T).In h := fun a o e => by
  unfold tabsL at t
  obtain ⟨t1, _⟩ := Bool.and_eq_true_iff.mp t
  unfold frL at e
  rw [lookup_app] at e
  cases q : (frS h.get? n T).lookup a with
  | some o' =>
    rw [q] at e
    cases e
    exact He.frG_at _ q
  | none =>
    rw [q] at e
    have e2 : a = mainGlobals := by
      rw [List.lookup_cons] at e
      cases z : a == mainGlobals with
      | true => exact eq_of_beq z
      | false => rw [z] at e; cases e
    rw [e2] at q
    rw [q] at t1
    cases t1
theorem frL_tab {g : Addr → Option Obj} {n : Nat} {T : List (Addr × Str)} (t : tabsL n T g = true) : ∀ p ∈ T, g p.1 = some tab0 ∧ (frL g n T).lookup p.1 = none ∧ mainGlobals ≠ p.1 := fun p hp => by
  unfold tabsL at t
  obtain ⟨_, t2⟩ := Bool.and_eq_true_iff.mp t
  obtain ⟨t3, t4⟩ := Bool.and_eq_true_iff.mp (List.all_eq_true.mp t2 p hp)
  have ne : mainGlobals ≠ p.1 := by simpa using t4
  refine ⟨tabB1_ok t3, ?_, ne⟩
  unfold frL
  rw [lookup_app]
  have h1 : (frS g n T).lookup p.1 = none := frG_no fun z => by
    have z2 := (List.mem_filter.mp z).2
    rw [show (T.any fun r => r.1 == p.1) = true from List.any_eq_true.mpr ⟨p, hp, beq_self_eq_true _⟩] at z2
    cases z2
  rw [h1]
  show List.lookup p.1 [(mainGlobals, _)] = none
  rw [List.lookup_cons, show (p.1 == mainGlobals) = false from beq_eq_false_iff_ne.mpr ne.symm]
  rfl
/-! ### the Hook -/
abbrev AlL : Type := AlW × Bool
def obsL (n : Nat) (T : List (Addr × Str)) (fa : List He.Fa) (fn : List He.DefD) (fw : List He5.DefA) (ex : PySem.W.Frag → Bool) (ts : List (Str × List Str)) (g : Addr → Option Obj) : AlL :=
  ((((He.obsD fa fn (frL g n T), ex (frL g n T)), He5.obsA [] fw (frL g n T)), ts.map fun t => He.dicW (frL g n T) (He.ga (frL g n T) t.1)), tabsL n T g)
structure SaysL (T : List (Addr × Str)) (fa : List He.Fa) (fn : List He.DefD) (fw : List He5.DefA) (ex : PySem.W.Frag → Bool) (ts : List (Str × List Str)) (w : World) (K : PySem.W.Frag) (h : Heap) : Prop extends SaysW fa fn fw ex ts w K where
  tb : tbK K = T
  at_ : ∀ p ∈ T, h.get? p.1 = some tab0 ∧ K.lookup p.1 = none ∧ mainGlobals ≠ p.1
def hookL (n : Nat) (T : List (Addr × Str)) (fa : List He.Fa) (fn : List He.DefD) (fw : List He5.DefA) (ex : PySem.W.Frag → Bool) (ts : List (Str × List Str)) : PySem.W.Hook where
  α := AlL
  obs := fun s => obsL n T fa fn fw ex ts s.heap.get?
  val := fun w => (valW fn fw ts w, true)
  says := fun w h => ∃ K : PySem.W.Frag, K.In h ∧ SaysL T fa fn fw ex ts w K h
  of := fun _ _ e => ⟨_, frL_in (congrArg (fun z : AlL => z.2) e), ⟨⟨⟨⟨congrArg (fun z : AlL => z.1.1.1.1) e, congrArg (fun z : AlL => z.1.1.1.2) e⟩, congrArg (fun z : AlL => z.1.1.2) e⟩, congrArg (fun z : AlL => z.1.2) e⟩, tbK_frL, frL_tab (congrArg (fun z : AlL => z.2) e)⟩⟩
  keeps := fun _ _ _ ⟨K, hK, c⟩ k => ⟨K, PySem.W.Frag.In.keeps hK k, ⟨c.toSaysW, c.tb, fun p hp => ⟨k _ _ (c.at_ p hp).1, (c.at_ p hp).2⟩⟩⟩
theorem obsL_eq {n : Nat} {T : List (Addr × Str)} {fa : List He.Fa} {fn : List He.DefD} {fw : List He5.DefA} {ex : PySem.W.Frag → Bool} {ts : List (Str × List Str)} {g : Addr → Option Obj} {s : Shared} (h : ∀ a, g a = s.heap.get? a) : obsL n T fa fn fw ex ts g = (hookL n T fa fn fw ex ts).obs s := by
  have e : g = s.heap.get? := funext h
  rw [e] <;> rfl
/-! ### the looks -/
/-! ### a maker of lambdas -/
def lamB (at_ : Str × Option Str) (P : Addr) (K : PySem.W.Frag) : Bool := match K.lookup (He.fAd K at_) with
  | some ⟨_, _, .func fd, _⟩ => (match fd.code with
    | .ref c => PySem.W.codeHdIn K c P
    | _ => false)
  | _ => false
/-- what the base knows beside the fragment -/
def TbB (base : Heap) (mg : Str → Option Value) (T : List (Addr × Str)) : Prop := ∀ p ∈ T, base.BuiltinsAt mg p.1 ∧ mainGlobals ≠ p.1
theorem lamG_of {K : PySem.W.Frag} {base : Heap} {mg : Str → Option Value} {T : List (Addr × Str)} {x x2 q2 : Str} {at_ : Str × Option Str} {P : Addr} {params : Arguments} {body : List Stmt} {scope : Scope} {dvs : List V} {kws : List (Str × V)} {fd : FuncData} (KX : K.In base) (tB : TbB base mg T) (tK : tbK K = T)
    (F : FunD K x2 q2 params body scope dvs kws (He.fAd K at_) fd) (h : lamB at_ P K = true) (hm : (P, (x ++ ".<locals>.") ++ "<lambda>") ∈ T) (hu : ∀ p ∈ T, p.1 = P → p.2 = (x ++ ".<locals>.") ++ "<lambda>") : LamG base K mg x fd.code := by
  obtain ⟨oc, od, dV, kV, doc, pm, an, cdv, ct, osl, e, lk, _, _, _⟩ := F.ex
  unfold lamB at h
  rw [lk] at h
  dsimp only at h
  split at h
  · rename_i c hc
    refine ⟨c, P, hc, ⟨PySem.W.codeHd_of_K KX h, (tB _ hm).1, (tB _ hm).2⟩, by rw [tK]; exact hm, by rw [tK]; exact hu⟩
  · cases h
/-- a def by its body's denotation, its code object told -/
theorem fn_defL {P : Program} {w : World} {K : PySem.W.Frag} {mg : Str → Option Value} {base : Heap} {x qual : Str} {params : Arguments} {body : List Stmt} {scope : Scope} {f : Addr} {fd : FuncData} {N ps : List Str} {k : Nat} {b : DenS} {dvs : List V} {kws : List (Str × V)} (F : FunD K x qual params body scope dvs kws f fd) (S : FnScope N ps scope)
    (hb : ∀ (cdv : Value) (A : Around) (outer : List Env) (s : Shared) (H : Hp) (E : XK), fd.code = cdv → RoomG k (A.deeper (envOfC qual scope s.heap.objs.size f cdv)) → DSs (cxOf (L2N.CX P w) P w K mg base N qual scope f cdv A outer s H E) (fun _ => E) body b) :
    FnOkG P w K mg base (L2N.CX P w) (k + 1) f fd ps (spD K ps.length (fnD N.length b)) := by
  obtain ⟨oc, od, dV, kV, doc, pm, an, cdv, ct, osl, rfl, lk, hcd, z1, z2⟩ := F.ex
  refine ⟨fun vs H Q E h => h.1, fun A out s H ar us vs Q E room env bnd vals h => ?_⟩
  obtain ⟨hl, m, Ω, ds, c, r, q⟩ := h
  have kin : K.In s.heap := env.mod.kin.keeps fun b o q => (env.bs b o q).1
  have nolim : s.heap.NoLimit := env.mod.nolimit.keeps fun b o q => (env.bs b o q).1
  have kinds : ∀ y ∈ ps.zip us, scope.names.lookup y.1 = some .local ∨ (scope.names.lookup y.1 = some .cell ∧ ((cellsFrom (s.heap.objs.size + 1) scope.names []).lookup y.1).isSome = true) := fun y hy =>
    (S.par y.1 (List.of_mem_zip (a := y.1) (b := y.2) hy).1).imp (fun z => z) fun z => ⟨z, PySem.W.cellsFrom_some _ _ _ (.inl z)⟩
  refine codeAny_call_function room.depth (kin _ _ lk) rfl S.co S.gen rfl (PySem.W.codeRec_of kin hcd) (bnd _ _ _ _ (wpAny_newFunctionEnv_cells S.kind kinds fun ev hev s1 ic => ?_))
  subst hev
  have inv : Inv (cxOf (L2N.CX P w) P w K mg base N qual scope f cdv A out s H E) [] (L2.start N vs) H s1 := inv_start S room.hd env hl vals ic
  refine ⟨nolim.keeps ic.toInCall.keep, codeAny_func (wpAny_mono ((hb cdv A out s H E rfl (room.deeper _)).run [] s1 _ H { nx := fun _ Hz => Q .non Hz, rt := Q } inv ⟨m, startG N.length ds, Ω, ⟨c, slots_start r⟩, ?_⟩) (fun fl s' q => ?_) fun _ _ q => q)⟩
  · unfold fnD at q
    show AfS K (fun _ => E) _ m Ω H (b (startG N.length ds) Ω)
    cases e : b (startG N.length ds) Ω with
    | none => rw [e] at q; exact q
    | some z =>
      obtain ⟨fl, Γ', Ω'⟩ := z
      rw [e] at q
      cases fl with
      | nx => exact fun m' σ' H' g sl => q m' .non H' g (by unfold Rl; rfl)
      | rt d => exact q
      | ex e => exact fun m' σ' H' cls dd g sl r => q m' H' cls dd g r
      | bk => exact q.elim
      | ct => exact q.elim
  · match fl, q with
    | .ret u, ⟨v, σ', H', J, rv, q⟩ => exact ⟨v, H', J.os, J.bare, J.base, J.hok, rv, q⟩
    | .next, ⟨σ', H', J, q⟩ => exact ⟨V.non, H', J.os, J.bare, J.base, J.hok, rfl, q⟩
    | .brk, ⟨_, _, _, q⟩ => exact q.elim
    | .cont, ⟨_, _, _, q⟩ => exact q.elim
end Dn


set_option Elab.async false
set_option linter.all false
set_option maxRecDepth 100000
set_option maxHeartbeats 2000000
/-! DnLamE: a law's end, makers of lambdas among its defs. -/
namespace Dn
open PySem PySem.Spec PyProof.Rows L2
/-- nothing but the script and the tables is tracked -/
def OnlyT (T : List (Addr × Str)) (H : Hp) : Prop := (∀ p ∈ T, H p.1 = some (.tbl #[])) ∧ ∀ b, H b = none ∨ (∃ p ∈ T, p.1 = b ∧ H b = some (.tbl #[])) ∨ ∃ o xs, H b = some (.frz o (.lst xs))
theorem OnlyT.tb {K : PySem.W.Frag} {H : Hp} (o : OnlyT (tbK K) H) : TbO K H := fun p hp => ⟨#[], o.1 p hp, True.intro, fun pos cv z => by
  have e : (#[] : Array Value).toList = [] := rfl
  rw [e] at z
  unfold codeAmong at z
  cases z⟩
theorem law_callGL {P : Program} {w : World} {K : PySem.W.Frag} {mg mb : Str → Option Value} {CX : CXT} {k : Nat} {fa a : Addr} {T : List (Addr × Str)} {fd : FuncData} {x : Str} {sp : Sp} {s1 : Shared} {vs : List Value} {ns : List Int}
    (kin : K.In s1.heap) (gl : s1.heap.Ns mainGlobals mg) (bl : s1.heap.Ns builtinsNs mb) (bb : ∀ y : Str, y ≠ "__name__" → mb y = bootBuiltins y) (lim : s1.heap.NoLimit) (gens : s1.gens = #[])
    (tabs : ∀ p ∈ T, s1.heap.get? p.1 = some tab0 ∧ K.lookup p.1 = none ∧ mainGlobals ≠ p.1) (codes : ∀ p ∈ T, ∃ c, PySem.W.CodeHd s1.heap c p.1)
    (bmain : ∃ (bm : Addr) (ob : Obj), mg "__builtins__" = some (.ref bm) ∧ bm ≠ builtinsNs ∧ s1.heap.get? bm = some ob ∧ ob.cls = .type "module" ∧ ob.dict = some builtinsNs ∧ ob.data = .plain)
    (at_ : s1.heap.get? a = some { cls := .type "list", data := .seq vs.toArray }) (intA : IntsAre vs ns) (few : ns.length ≤ sizeLine) (room : RoomG k callerA)
    (F : ∀ base : Heap, K.In base → base.Ns mainGlobals mg → TbB base mg T → FnOkG P w K mg base CX k fa fd [x] sp) (bnd : ∀ (s : Shared) (u : Value), BindsTo s fd ⟨[u], []⟩ [(x, u)])
    (goal : ∀ H : Hp, OnlyT T H → SqL K H a (ns.map V.int) → sp [.ref a] H (fun v _ => v = .bl true) fun _ _ _ => False)
    (none_ : ∀ H e s', CX [] H s1 (fun _ _ _ => False) e s' → False) :
    codeAny (model P w) callerA (.call (.ref fa) ⟨[.ref a], []⟩) (fun r s' => r = .ok (.ret (.bool true)) ∧ OldK s1.heap s'.heap ∧ s'.os = s1.os ∧ AllBare s'.gens) s1 := by
  have vals := vals_ints intA
  have cnt := intA.length
  have aT : ∀ p ∈ T, p.1 ≠ a := fun p hp z => by
    have q := (tabs p hp).1
    rw [z, at_] at q
    cases q
  suffices main : ∀ H : Hp, OnlyT T H → SqL K H a (ns.map V.int) → HOk P w H s1.heap → (∀ b, H b ≠ none → b = a ∨ ∃ p ∈ T, p.1 = b) → (H a ≠ none → K.lookup a = none) →
      codeAny (model P w) callerA (.call (.ref fa) ⟨[.ref a], []⟩) (fun r s' => r = .ok (.ret (.bool true)) ∧ OldK s1.heap s'.heap ∧ s'.os = s1.os ∧ AllBare s'.gens) s1 by
    let isT : Addr → Prop := fun b => ∃ p ∈ T, p.1 = b
    have dec : ∀ b, Decidable (isT b) := fun b => Classical.propDecidable _
    cases lk : K.lookup a with
    | some o =>
      have q := kin a o lk
      rw [at_] at q
      cases q
      have yes : ∀ b, isT b → (if isT b then some (HO.tbl #[]) else none) = some (HO.tbl #[]) := fun b e => if_pos e
      have no : ∀ b, ¬ isT b → (if isT b then some (HO.tbl #[]) else none) = none := fun b e => if_neg e
      refine main (fun b => if isT b then some (.tbl #[]) else none) ⟨fun p hp => yes _ ⟨p, hp, rfl⟩, fun b => ?_⟩ (.inr ⟨_, vs.toArray, _, lk, rfl, rfl, rfl, by rw [List.size_toArray, cnt]; exact few, by simpa using vals⟩) (fun b u z => ?_) (fun b z => ?_) fun z => (z (no a fun ⟨p, hp, e⟩ => aT p hp e)).elim
      · exact (Classical.em (isT b)).elim (fun e => .inr (.inl (let ⟨p, hp, eq⟩ := e; ⟨p, hp, eq, yes b e⟩))) fun e => .inl (no b e)
      · rcases Classical.em (isT b) with e | e
        · have q := (yes b e).symm.trans z
          cases q
          obtain ⟨p, hp, eq⟩ := e
          subst eq
          exact (tabs p hp).1
        · cases (no b e).symm.trans z
      · exact .inr (Classical.byContradiction fun e => z (no b e))
    | none =>
      let ob : Obj := { cls := .type "list", data := .seq vs.toArray }
      let f : Hp := fun b => if b = a then some (.frz ob (.lst (ns.map V.int))) else if isT b then some (.tbl #[]) else none
      have yes : f a = some (HO.frz ob (.lst (ns.map V.int))) := if_pos rfl
      have tbl : ∀ b, isT b → f b = some (HO.tbl #[]) := fun b e => (if_neg (fun z => let ⟨p, hp, eq⟩ := e; aT p hp (eq.trans z))).trans (if_pos e)
      have no : ∀ b, b ≠ a → ¬ isT b → f b = none := fun b e n => (if_neg e).trans (if_neg n)
      refine main f ⟨fun p hp => tbl _ ⟨p, hp, rfl⟩, fun b => ?_⟩ (.inl (.inr ⟨ob, yes⟩)) (fun b u z => ?_) (fun b z => ?_) fun _ => lk
      · rcases Classical.em (b = a) with e | e
        · subst e; exact .inr (.inr ⟨_, _, yes⟩)
        · rcases Classical.em (isT b) with n | n
          · exact .inr (.inl (let ⟨p, hp, eq⟩ := n; ⟨p, hp, eq, tbl b n⟩))
          · exact .inl (no b e n)
      · rcases Classical.em (b = a) with e | e
        · subst e
          have q := yes.symm.trans z
          cases q
          exact ⟨at_, by rw [List.length_map]; exact few, vs, _, vals, at_⟩
        · rcases Classical.em (isT b) with n | n
          · have q := (tbl b n).symm.trans z
            cases q
            obtain ⟨p, hp, eq⟩ := n
            subst eq
            exact (tabs p hp).1
          · cases (no b e n).symm.trans z
      · rcases Classical.em (b = a) with e | e
        · exact .inl e
        · exact .inr (Classical.byContradiction fun n => z (no b e n))
  intro H only sq hok onlyA outK
  have see : ∀ {b : Addr} {o : Obj}, s1.heap.get? b = some o → H b = none → (hidT s1.heap H).get? b = some o := fun q n => hidT_get q n
  have free : ∀ {b : Addr} {o : Obj}, s1.heap.get? b = some o → o ≠ tab0 → (∀ vs n, o.data ≠ .seq vs n) → H b = none := fun {b o} q n1 n2 => by
    cases hb : H b with
    | none => rfl
    | some u =>
      rcases onlyA b (by rw [hb]; simp) with e | ⟨p, hp, e⟩
      · subst e
        rw [at_] at q
        cases q
        exact (n2 _ _ rfl).elim
      · subst e
        rw [(tabs p hp).1] at q
        cases q
        exact (n1 rfl).elim
  have nsOf : ∀ {b : Addr} {m : Str → Option Value}, s1.heap.Ns b m → (hidT s1.heap H).Ns b m := fun ⟨o, es, ep, q, d, r⟩ => ⟨o, es, ep, see q (free q (fun z => by rw [z] at d; cases d) fun vs n z => by rw [d] at z; cases z), d, r⟩
  have kinB : K.In (hidT s1.heap H) := fun b o q => see (kin b o q) (by
    cases hb : H b with
    | none => rfl
    | some u =>
      rcases onlyA b (by rw [hb]; simp) with e | ⟨p, hp, e⟩
      · subst e
        rw [outK (by rw [hb]; simp)] at q
        cases q
      · subst e
        rw [(tabs p hp).2.1] at q
        cases q)
  have tB : TbB (hidT s1.heap H) mg T := fun p hp => by
    refine ⟨?_, (tabs p hp).2.2⟩
    obtain ⟨bm, ob, b1, b2, b3, b4, b5, b6⟩ := bmain
    have nG : bm ≠ mainGlobals := fun q => by
      obtain ⟨o, es, ep, e, hd, _⟩ := gl
      rw [q, e] at b3
      cases b3
      rw [hd] at b6
      cases b6
    have nP : bm ≠ p.1 := fun q => by
      rw [q, (tabs p hp).1] at b3
      cases b3
      cases b6
    exact ⟨bm, ob, b1, b2, nG, nP, see b3 (free b3 (fun z => by rw [z] at b6; cases b6) fun vs n z => by rw [b6] at z; cases z), b4, b5, b6⟩
  obtain ⟨mc, lim1, lim2⟩ := lim
  have env : Env0 P w K mg (hidT s1.heap H) callerA [] s1 H :=
    ⟨rfl, ⟨kinB, nsOf gl, ⟨mb, nsOf bl, bb⟩, ⟨mc, nsOf lim1, lim2⟩⟩, fun b o q => of_hidT q, Nat.le_of_eq (hidT_size _ _), trivial, fun b hb => (List.not_mem_nil (a := b) hb).elim, hok, .of_eq gens⟩
  refine codeAny_mono ((F _ kinB (nsOf gl) tB).run callerA [] s1 H ⟨[.ref a], []⟩ [.ref a] [.ref a] _ _ room env (bnd s1 (.ref a)) (.cons rfl .nil) (goal H only sq)) fun r s' q => ?_
  match r, q with
  | .error e, q => exact (none_ H e s' q).elim
  | .ok .next, q => exact q.elim
  | .ok .brk, q => exact q.elim
  | .ok .cont, q => exact q.elim
  | .ok (.ret u), q =>
    obtain ⟨v, H', os, bare, un, hok', rv, e⟩ := q
    have e' : v = .bl true := e
    subst e'
    obtain rfl : u = Value.bool true := rv
    have same : ∀ b o, (¬ ∃ p ∈ T, p.1 = b) → s1.heap.get? b = some o → s'.heap.get? b = some o := fun b o nb q => by
      cases hb : H b with
      | none => exact un.keep b o q hb (fun z => List.not_mem_nil (a := b) z) (fun z => List.not_mem_nil (a := b) z)
      | some y =>
        rcases only.2 b with z | ⟨p, hp, z, _⟩ | ⟨ob, xs, z⟩
        · rw [hb] at z; cases z
        · exact (nb ⟨p, hp, z⟩).elim
        · obtain ⟨e1, _⟩ := hok b _ z
          obtain ⟨e2, _⟩ := hok' b _ (un.frzs b ob _ z)
          rw [q] at e1
          cases e1
          exact e2
    have more : ∀ p ∈ T, ∃ m : Array Value, s'.heap.get? p.1 = some { cls := .none, data := .fields m } := fun p hp => by
      obtain ⟨m, z⟩ := un.tbls p.1 #[] (only.1 p hp)
      exact ⟨_, hok' p.1 _ z⟩
    refine ⟨rfl, ⟨fun b o q => ?_, fun b o q => ?_⟩, os, bare⟩
    · rcases Classical.em (∃ p ∈ T, p.1 = b) with ⟨p, hp, e⟩ | nb
      · subst e
        obtain ⟨m, hm⟩ := more p hp
        obtain ⟨c, hc⟩ := codes p hp
        have q2 := (tabs p hp).1
        rw [q2] at q
        cases q
        exact .inr (.inl ⟨(hc.tab q2).isCodeTable, rfl, #[], m, rfl, by rw [Array.empty_append]; exact hm⟩)
      · exact .inl (same b o nb q)
    · rcases Classical.em (∃ p ∈ T, p.1 = b) with ⟨p, hp, e⟩ | nb
      · subst e
        obtain ⟨m, hm⟩ := more p hp
        exact ⟨_, hm⟩
      · exact ⟨o, same b o nb q⟩
theorem walk_ofL {l : PySem.W.OpenLaw} {n k : Nat} {q : Program} {loose : List Str} {XP : (Str → Option Value) → Heap → Prop} {YP : World → Heap → Prop} {d : DefRec} (CX : World → CXT) {x : Str}
    (hn : l.most = some n) (hn2 : n ≤ sizeLine) (hdf : d.params.defaults = []) (hr : RoomG k callerA)
    (F : ∀ (w : World) (mg : Str → Option Value) (fa : Addr) (h : Heap), YP w h → h.Ns mainGlobals mg → mg d.name = some (.ref fa) →
      ∃ (K : PySem.W.Frag) (fd : FuncData) (sp : Sp) (T : List (Addr × Str)), K.In h ∧ (∀ p ∈ T, h.get? p.1 = some tab0 ∧ K.lookup p.1 = none ∧ mainGlobals ≠ p.1) ∧ (∀ p ∈ T, ∃ c, PySem.W.CodeHd h c p.1) ∧ (∀ (s : Shared) (u : Value), BindsTo s fd ⟨[u], []⟩ [(x, u)]) ∧
        (∀ (H : Hp) (a : Addr) (ns : List Int), ns.length ≤ n → OnlyT T H → SqL K H a (ns.map V.int) → sp [.ref a] H (fun v _ => v = .bl true) fun _ _ _ => False) ∧
        ∀ base : Heap, K.In base → base.Ns mainGlobals mg → TbB base mg T → FnOkG l.prog w K mg base (CX w) k fa fd [x] sp)
    (hCX : ∀ (w : World) (H : Hp) (s : Shared) (e : Value) (s' : Shared), CX w [] H s (fun _ _ _ => False) e s' → False) :
    PySem.W.WalkO q loose XP YP l.row.toRowW d [] (fun f vs => PySem.call f vs) := by
  refine Att.attach_callB hn hdf fun w s₀ s₁ mg mb fa o pm cd doc a vs ns G Y ho hd hcd hmg hobj hints hlen hbits hg => ?_
  obtain ⟨K, fd, sp, T, KX, t1, t2, hb, hsp, hF⟩ := F w mg fa _ Y G.T.g hmg
  exact law_callGL KX G.T.g G.T.b G.T.builtins G.T.nolimit hg t1 t2 G.T.bmain hobj hints (Nat.le_trans hlen hn2) hr hF hb (fun H hO hS => hsp H a ns hlen hO hS) fun H e s' => hCX w H s₁ e s'
end Dn


set_option Elab.async false
set_option linter.all false
set_option maxRecDepth 100000
set_option maxHeartbeats 2000000
/-! DnTryM: try: .. with several clauses except C as n: .. -/
namespace Dn
open PySem PySem.Spec PyProof.Rows L2
abbrev Hdl := Value × (Addr → Value → Option Addr → TS)
/-- what the clauses wish, one behind the other -/
def wMA (K : PySem.W.Frag) (i : Nat) (Wout : WX) (D : Ends) : List Hdl → WX
  | [] => Wout
  | h :: r => wAs K h.1 i h.2 (wMA K i Wout D r) D
inductive HdsAs (X : Cx) (n : Str) : List ExceptHandler → List Hdl → Prop
  | nil : HdsAs X n [] []
  | cons {x : Str} {c : Value} {ts : Addr → Value → Option Addr → TS} {st : Stmt} {sts : List Stmt} {np q : Pos} {hds : List ExceptHandler} {l : List Hdl} (nm : Names X x c)
      (su : ∀ (a : Addr) (oe : Obj) (cls : Value) (d : Option Addr) (pn : List (Addr × Obj)), L2N.Zn cls d oe → (∃ vs, oe.data = .fields vs) → PSs (X.suite a ((a, oe) :: pn)) (st :: sts) (ts a cls d)) (r : HdsAs X n hds l) :
      HdsAs X n (.ExceptHandler (some (.Name x np)) (some n) (st :: sts) q :: hds) ((c, ts) :: l)
section
variable {X : Cx} {n : Str} {i : Nat} {body : List Stmt} {hd0 : ExceptHandler} {hds : List ExceptHandler} {l : List Hdl} {pos : Pos} {tb : WX → TS} {Wout : WX}
theorem ps_try_ma (stk : X.stack = X.env :: X.outer) (frm : X.env.frame = some X.env.locals) (nodup : X.N.Nodup) (hi : X.N[i]? = some n) (lcl : X.env.kindOf n = some .local) (tk : L2N.Takes X Wout)
    (hb : ∀ (W : WX) (pn : List (Addr × Obj)) (xe : Value → Shared → Prop), L2N.Takes (X.tr pn xe) W → PassesOwn (model X.prog X.w) X.A X.env xe → PSs (X.tr pn xe) body (tb W))
    (hh : HdsAs X n (hd0 :: hds) l) : PS X (.Try body (hd0 :: hds) [] [] pos) (fun D σ H => tb (wMA X.K i Wout D l) D σ H) := ⟨fun pins s σ H D I0 pre => by
  have ok := I0.ok
  have frs0 : X.A.frames = some (X.env :: X.outer) := ok.frames.trans (by rw [stk])
  have loc : Loc X.env.scope n := .inl lcl
  let M := model X.prog X.w
  let xe1 : Value → Shared → Prop := fun u t1 => wpAny M X.A (noteFrame u X.env) (fun _ t2 => wpAny M X.A (setFlight u none) (fun _ t3 => wpAny M X.A (handleBy u X.env (hd0 :: hds)) (SP X pins D) X.xe t3) X.xe t2) X.xe t1
  refine wpAny_Try_except (wpAny_mono ((hb (wMA X.K i Wout D l) (X.pn ++ pins) xe1 (fun u t xx => ?_) PassesOwn.looking).run [] s σ H D (I0.toTry _) pre) (fun fl t1 sp => ?_) (fun u t1 z => z))
  · obtain ⟨a, B, tI, pins2, σ2, H2, cls, d, rfl, Jt, ground, upto, sky, fresh, same, bare, wish⟩ := xx
    have J : Inv X pins σ2 H2 tI := Jt.ofTry ok
    have sky2 : Sky B (X.env :: X.outer) a (L2N.Zn cls d) X.env.locals t.heap := stk ▸ sky
    show wpAny M X.A (noteFrame (.ref a) X.env) _ _ _
    refine L2N.Sky.land L2N.Zn.steady frs0 frm sky2 fun g3 fly3 upto3 => ?_
    have J3 : Inv X pins σ2 H2 { t with heap := g3 } := J.landed ground fly3.1 (upto.trans upto3) same bare
    obtain ⟨ob3, vs3, at3, zn3, dat3⟩ := fly3.there
    have noFrame : a ∉ frs (X.env :: X.outer) := fun hm => by
      obtain ⟨_, o2, e2, far⟩ := fly3.2.2.1.mem hm
      rw [at3] at e2
      cases e2
      exact far _ dat3
    have notL : a ≠ X.env.locals := fun z => noFrame (List.mem_filterMap.mpr ⟨X.env, List.mem_cons_self, by rw [frm, z]⟩)
    have notF : a ∉ X.fs := fun hm => by
      obtain ⟨e, he, q⟩ := List.mem_filterMap.mp hm
      exact noFrame (List.mem_filterMap.mpr ⟨e, List.mem_cons_of_mem _ he, q⟩)
    have S3 := J3.suite at3 dat3 fresh notL notF
    suffices walk : ∀ {hs : List ExceptHandler} {ls : List Hdl}, HdsAs X n hs ls → wMA X.K i Wout D ls cls d σ2 H2 → wpAny M X.A (handleBy (.ref a) X.env hs) (SP X pins D) X.xe { t with heap := g3 } from walk hh wish
    intro hs ls hk
    induction hk with
    | nil =>
      intro out
      refine wpAny_handleBy_nil ?_
      obtain ⟨_, _, _, ob, vs, T, oT, tt, e1, _, e3, e4, _⟩ := id fly3
      unfold PySem.passOn
      refine wpAny_bind (wpAny_field e1 e3 e4 ?_)
      rw [if_neg (show ¬ ((Value.ref T == Value.none) = true) from fun z => Bool.noConfusion z)]
      have on : wpAny M X.A (setFlight (.ref a) X.env.frame) (fun _ t4 => wpAny M X.A (throw (.ref a) : Sem Flow) (SP X pins D) X.xe t4) X.xe { t with heap := g3 } := by
        rw [frm]
        exact HandSPX.setFlight_upZ fly3 fun g4 held4 upto4 => wpAny_throw (tk _ _ ⟨a, B, tI, pins, σ2, H2, cls, d, rfl, J, ground, (upto.trans upto3).trans upto4, .inr (.inr (stk ▸ held4)), fresh, same, bare, out⟩)
      first
        | exact wpAny_bind (wpAny_pure (wpAny_bind on))
        | exact wpAny_bind on
    | @cons x c ts st sts np q hs2 ls2 nm su r ih =>
      intro ⟨b, isb, yes, no⟩
      refine wpAny_handleBy_cons (codeAny_handlers_test ?_) (by intro z; cases z)
      have kind : PySem.W.Looks M g3 (typeOf (.ref a)) cls := fun A Q E t2 k z => wpAny_typeOf_ref (k _ _ at3) (by rw [zn3.1]; exact z)
      have meet := PySem.W.exm_one (M := M) J3.kIn kind isb
      have name : ∀ {Q E : Value → Shared → Prop}, Q c { t with heap := g3 } → wpAny M (X.A.mark (some (.ref a))) (eval (.Name x np) X.env) Q E { t with heap := g3 } := fun {Q E} z => by
        obtain ⟨gl, dbg, hm | ⟨hm, hv, hne⟩⟩ := nm
        · exact ld_glob (X := X.suite a ((a, ob3) :: (X.pn ++ pins))) S3 gl hm z dbg
        · exact ld_blt (X := X.suite a ((a, ob3) :: (X.pn ++ pins))) S3 gl hm hv z hne dbg
      refine name (meet.here ?_)
      cases b with
      | false =>
        show wpAny _ X.A (handleBy (.ref a) X.env hs2) _ _ _
        exact ih (no rfl)
      | true =>
        refine codeAny_handlers_suite_as (HandSPX.lands_againZ fly3 fun g4 fly4 upto4 => ?_)
        have J4 : Inv X pins σ2 H2 { t with heap := g4 } := J.landed ground fly4.1 ((upto.trans upto3).trans upto4) same bare
        obtain ⟨ob4, vs4, at4, zn4, dat4⟩ := fly4.there
        refine store_ok (X := X.suite a ((a, ob4) :: (X.pn ++ pins))) (v := .ref a) (J4.suite at4 dat4 fresh notL notF) nodup hi loc rfl (fun t5 S5 => ?_) (.inr lcl)
        refine wpAny_mono ((su a ob4 cls d (X.pn ++ pins) zn4 ⟨_, dat4⟩).run [] t5 _ H2 _ S5 (yes rfl a fresh)) (fun fl t6 sp => ?_) (fun _ _ z => z.elim)
        have bye : ∀ {σ6 : L2.St} {H6 : Hp} {Q : Shared → Prop}, Inv (X.suite a ((a, ob4) :: (X.pn ++ pins))) [] σ6 H6 t6 → (∀ t7, Inv X pins (σ6.set i none) H6 t7 → Q t7) →
            wpAny M X.A (do bindName X.env n .none; unbindBehindTheSuite X.env n q) (fun _ t7 => Q t7) X.xe t6 := fun S6 hq => gone_ok (S6.unsuite ok) nodup hi lcl hq
        match fl, sp with
        | .next, ⟨σ6, H6, S6, z⟩ => exact bye S6 fun t7 J7 => ⟨_, _, J7, z⟩
        | .brk, ⟨σ6, H6, S6, z⟩ => exact bye S6 fun t7 J7 => ⟨_, _, J7, z⟩
        | .cont, ⟨σ6, H6, S6, z⟩ => exact bye S6 fun t7 J7 => ⟨_, _, J7, z⟩
        | .ret u, ⟨v6, σ6, H6, S6, rv, z⟩ => exact bye S6 fun t7 J7 => ⟨_, _, _, J7, rv, z⟩
  · match fl, sp with
    | .next, ⟨σ2, H2, J2, z⟩ => exact wpAny_execs_nil ⟨σ2, H2, J2.ofTry ok, z⟩
    | .brk, ⟨σ2, H2, J2, z⟩ => exact ⟨σ2, H2, J2.ofTry ok, z⟩
    | .cont, ⟨σ2, H2, J2, z⟩ => exact ⟨σ2, H2, J2.ofTry ok, z⟩
    | .ret u, ⟨v, σ2, H2, J2, rv, z⟩ => exact ⟨v, σ2, H2, J2.ofTry ok, rv, z⟩⟩
end
/-! ### the statement -/
/-- in a suite: the error x stands at a, slot i names it -/
def tSy (K : PySem.W.Frag) (i : Nat) (a : Addr) (cls : Value) (d : Option Addr) (u : Xn → DenS) : TS := fun D σ H => σ[i]? = some (some (.ref a)) ∧ ∃ (x : Xn) (m : Mp) (Γ : Gm) (Ω : Om), SR K m Γ Ω σ H ∧ XRel K m Ω H x cls d ∧ AfS K E0S D m Ω H (u x Γ Ω)
/-- a clause: of which classes it is so, what its suite does -/
abbrev Cls1 := List (Str × Bool) × (Xn → DenS)
def pickX (i : Nat) (x : Xn) (Γ : Gm) (Ω : Om) : List Cls1 → Option (Fl × Gm × Om)
  | [] => some (.ex x, Γ, Ω)
  | h :: r => match h.1.lookup x.cls with
    | none => none
    | some false => pickX i x Γ Ω r
    | some true => if i < Γ.length then endX i (h.2 x (Γ.set i none) Ω) else none
def sTryM (i : Nat) (b : DenS) (hs : List Cls1) : DenS := fun Γ Ω => match b Γ Ω with
  | some (.ex x, Γ1, Ω1) => pickX i x Γ1 Ω1 hs
  | r => r
/-- the clauses as they stand, and what they do -/
inductive ClsAs (X : Cx) (i : Nat) (n : Str) : List ExceptHandler → List Cls1 → Prop
  | nil : ClsAs X i n [] []
  | cons {c : Str} {tab : List (Str × Bool)} {u : Xn → DenS} {st : Stmt} {sts : List Stmt} {np q : Pos} {hds : List ExceptHandler} {l : List Cls1} (nm : Names X c (.ref (cad X.K c))) (ht : ∀ p ∈ tab, PySem.W.exmOne X.K (.ref (He.ga X.K p.1)) (.ref (cad X.K c)) = some p.2)
      (su : ∀ (a : Addr) (oe : Obj) (cls : Value) (d : Option Addr) (pn : List (Addr × Obj)), L2N.Zn cls d oe → (∃ vs, oe.data = .fields vs) → PSs (X.suite a ((a, oe) :: pn)) (st :: sts) (tSy X.K i a cls d u)) (r : ClsAs X i n hds l) :
      ClsAs X i n (.ExceptHandler (some (.Name c np)) (some n) (st :: sts) q :: hds) ((tab, u) :: l)
section
variable {X : Cx} {E : L2.St → XK} {n : Str} {i : Nat} {body : List Stmt} {hd0 : ExceptHandler} {hds : List ExceptHandler} {hs : List Cls1} {pos : Pos} {b : DenS}
theorem cls_hds : ∀ {hds : List ExceptHandler} {hs : List Cls1}, ClsAs X i n hds hs → ∃ l, HdsAs X n hds l ∧ ∀ (D : Ends) (x : Xn) (Γ1 : Gm) (Ω1 : Om) (m' : Mp) (m : Mp) (Ω : Om) (H : Hp) (σ' : L2.St) (H' : Hp) (cls : Value) (dd : Option Addr),
    Go X.K m Ω H m' Ω1 H' → Slots X.K m' Ω1 H' Γ1 σ' → XRel X.K m' Ω1 H' x cls dd → AfS X.K E D m Ω H (pickX i x Γ1 Ω1 hs) → wMA X.K i (fun cls d σ H => E σ cls d H) D l cls dd σ' H' := by
  intro hds hs h
  induction h with
  | nil => exact ⟨[], .nil, fun D x Γ1 Ω1 m' m Ω H σ' H' cls dd g sl xr af => af m' σ' H' cls dd g sl xr⟩
  | @cons c tab u st sts np q hds2 l2 nm ht su r ih =>
    obtain ⟨l, hl, k⟩ := ih
    refine ⟨(.ref (cad X.K c), fun a cls d => tSy X.K i a cls d u) :: l, .cons nm su hl, fun D x Γ1 Ω1 m' m Ω H σ' H' cls dd g sl xr af => ?_⟩
    unfold pickX at af
    dsimp only at af
    cases e1 : tab.lookup x.cls with
    | none => rw [e1] at af; exact af.elim
    | some bb =>
      have hx := ht _ (mem_lookup e1)
      rw [e1] at af
      have ec := xr.1
      cases bb with
      | false => exact ⟨false, by rw [ec]; exact hx, fun z => Bool.noConfusion z, fun _ => k D x Γ1 Ω1 m' m Ω H σ' H' cls dd g sl xr af⟩
      | true =>
        dsimp only at af
        by_cases hg : i < Γ1.length
        · rw [if_pos hg] at af
          refine ⟨true, by rw [ec]; exact hx, fun _ a ha => ?_, fun z => Bool.noConfusion z⟩
          refine ⟨List.getElem?_set_self (by rw [← sl.1]; exact hg), x, m', Γ1.set i none, Ω1, ⟨g.ok, sl.drop i _⟩, xr, ?_⟩
          cases e2 : u x (Γ1.set i none) Ω1 with
          | none => rw [e2] at af; exact af
          | some y =>
            obtain ⟨f2, Γ2, Ω2⟩ := y
            rw [e2] at af
            cases f2 with
            | nx => exact fun m2 σ2 H2 g2 sl2 => af m2 _ H2 (g.trans g2) (sl2.drop i none)
            | bk => exact fun m2 σ2 H2 g2 sl2 => af m2 _ H2 (g.trans g2) (sl2.drop i none)
            | ct => exact fun m2 σ2 H2 g2 sl2 => af m2 _ H2 (g.trans g2) (sl2.drop i none)
            | rt d => exact fun m2 v H2 g2 r => af m2 v H2 (g.trans g2) r
            | ex y => exact af.elim
        · rw [if_neg hg] at af
          exact af.elim
theorem ds_tryM (stk : X.stack = X.env :: X.outer) (frm : X.env.frame = some X.env.locals) (nodup : X.N.Nodup) (hi : X.N[i]? = some n) (lcl : X.env.kindOf n = some .local) (tk : L2N.Takes X (fun cls d σ H => E σ cls d H))
    (hb : ∀ (W : WX) (pn : List (Addr × Obj)) (xe : Value → Shared → Prop), L2N.Takes (X.tr pn xe) W → PassesOwn (model X.prog X.w) X.A X.env xe → DSs (X.tr pn xe) (fun σ cls d H => W cls d σ H) body b)
    (hc : ClsAs X i n (hd0 :: hds) hs) : DS X E (.Try body (hd0 :: hds) [] [] pos) (sTryM i b hs) := by
  obtain ⟨l, hl, k⟩ := cls_hds (E := E) hc
  refine PS.mono (ps_try_ma (i := i) (Wout := fun cls d σ H => E σ cls d H) (tb := fun W => tS X.K (fun σ cls d H => W cls d σ H) b) stk frm nodup hi lcl tk hb hl) fun D σ H h => ?_
  obtain ⟨m, Γ, Ω, s, h⟩ := h
  refine ⟨m, Γ, Ω, s, ?_⟩
  unfold sTryM at h
  cases e : b Γ Ω with
  | none => rw [e] at h; exact h
  | some z =>
    obtain ⟨fl, Γ1, Ω1⟩ := z
    rw [e] at h
    cases fl with
    | ex x => exact fun m' σ' H' cls dd g sl xr => k D x Γ1 Ω1 m' m Ω H σ' H' cls dd g sl xr h
    | _ => exact h
end
end Dn


set_option Elab.async false
set_option linter.all false
set_option maxRecDepth 100000
set_option maxHeartbeats 2000000
/-! DnSuite: what stands in a suite of except C as e: e's class and attributes, displays, assignments, if. -/
namespace Dn
section
open PySem PySem.Spec PySem.Calls PySem.W PyProof.Rows
variable {prog : Program} {w : World} {A : Around} {E : Value → Shared → Prop} {s : Shared} {K : Frag} {x D : Addr} {ox : Obj} {od : Option Obj}
/-- e.__class__, whatever e's own dict holds -/
theorem cls_of_err {Q : Option Value → Shared → Prop} (C : L2.ExcC K D) (X : K.In s.heap) (I : InstAt s.heap x ox D od) (h : Q (some (.ref D)) { s with toks := s.toks + 1 }) : wpAny (model prog w) A (getAttr? (.ref x) "__class__") Q E s := by
  obtain ⟨g1, g2, g3, g4, g5, g6, g7, g8⟩ := C
  obtain ⟨cd, hcd, _⟩ := any_some g4
  have found : findObj K D od "__class__" = some (.bind (.builtin "getset_descriptor.__get__") (.builtin "object.__class__")) := by
    unfold findObj
    rw [hcd, Option.bind_some, g5, Option.bind_some]
    simp [g6, g7]
  obtain ⟨hp, gs, dr, tk, os⟩ := s
  have T0 := I.type (M := model prog w)
  have T1 := looks_findIn (M := model prog w) X g1
  have T2 := looks_findIn (M := model prog w) X g2
  have T3 := looks_find (M := model prog w) X I found
  have under : Looks (model prog w) hp (isInstance (.ref x) (.type "BaseException")) true := T0.andThen (looks_subIn X g3)
  have no2 : (Value.builtin "BaseException.__getattribute__" == Value.builtin "object.__getattribute__") = false := by decide +kernel
  have no1 : (onTheHeap (Value.ref D) && Value.builtin "BaseException.__getattribute__" == Value.builtin "object.__getattribute__") = false := by rw [no2]; rfl
  unfold getAttr? getAttrBy? getAttrBy
  refine wpAny_bind (wpAny_mkText (wpAny_bind (wpAny_attempt (wpAny_holding (wpAny_bind (T0.at (wpAny_bind (T1.at ?_))))))))
  show wpAny _ _ (if (onTheHeap (Value.ref D) && Value.builtin "BaseException.__getattribute__" == Value.builtin "object.__getattribute__") = true then _ else _) _ _ _
  rw [no1, if_neg Bool.false_ne_true]
  unfold getAttrByItsOwn hookBefore
  refine wpAny_bind ?_
  rw [if_pos (show onTheHeap (Value.ref D) = true from rfl)]
  refine T2.at (wpAny_bind (wpAny_attempt (wpAny_holding ?_)))
  unfold callGetattribute
  rw [show (false && onTheHeap (Value.builtin "BaseException.__getattribute__")) = false from rfl, if_neg Bool.false_ne_true]
  unfold boundAndCalled
  rw [PySem.F.excAttr_ValueError.ga.bind (.ref x)]
  refine wpAny_bind (wpAny_pure ?_)
  show wpAny _ _ (call (.builtin "BaseException.__getattribute__") [.ref x, .str "__class__" tk]) _ _ _
  refine wpAny_call (codeAny_call_builtin PySem.F.excAttr_ValueError.ga.plain PySem.F.entry_bexc_ga (@check_slot (model prog w) _ _ ⟨hp, gs, dr, tk + 1, os⟩ "BaseException.__getattribute__" "BaseException" "__getattribute__" (.ref x) [.str "__class__" tk] [] _ (by decide +kernel) (by decide +kernel) under (PySem.F.args_bexc_ga (.ref x) (.str "__class__" tk)) ?_))
  unfold Builtin.«object.__getattribute__»
  refine wpAny_bind (wpAny_of_eq (a := ((Value.ref x : Value), [Value.str "__class__" tk])) (by first | rfl | (simp only [slotArgs]; rfl)) (wpAny_bind (wpAny_pure (wpAny_bind (T0.at (wpAny_bind (T3.at ?_)))))))
  show wpAny _ _ (holding [Value.builtin "object.__class__"] (call (.builtin "getset_descriptor.__get__") [.builtin "object.__class__", .ref x, .ref D]) >>= ret) _ _ _
  refine wpAny_bind (wpAny_holding (wpAny_call (class_get (s := ⟨hp, gs, dr, tk + 1, os⟩) (ox := ox) (od := od) X I g8 (wpAny_pure ?_))))
  show wpAny _ _ (handedOut (.ref D)) _ _ _
  rw [handedOut_of (v := .ref D) rfl]
  first
    | exact wpAny_pure (wpAny_pure h)
    | exact wpAny_pure h
    | exact wpAny_pure (wpAny_bind (wpAny_pure (wpAny_pure h)))
theorem kit_of_err (C : L2.ExcC K D) : KitX K (.ref x) (.ref D) (fun h => InstAt h x ox D od) where
  ty := fun _ _ _ I => I.type
  it := fun _ _ X _ => by
    obtain ⟨cd, hc, _⟩ := any_some C.hd
    unfold clsIn at hc
    split at hc
    · rename_i ho
      intro A2 Q2 E2 s2 k q
      unfold isType loadHead
      exact wpAny_bind (wpAny_loadPart (k _ _ (X _ _ ho)) (wpAny_pure q))
    · cases hc
  ne := fun h tp dd its n sl X htp => by
    obtain ⟨cd, hc, _⟩ := any_some C.hd
    refine Bool.eq_false_iff.mpr fun q => ?_
    obtain rfl : D = tp := Value.ref.inj (beq_iff_eq.mp q)
    unfold clsIn at hc
    split at hc
    · rename_i ho
      have z := (X _ _ ho).symm.trans htp
      cases z
    · cases hc
  ca := fun X I k => cls_of_err C X I k
end
open PySem L2
/-- isinstance(e, c) of the error that the suite holds -/
theorem call_isX {X : Cx} {a D : Addr} {oe : Obj} {d : Option Addr} {pn : List (Addr × Obj)} (C : ExcC X.K D) (hz : Zc (.ref D) d oe) (hf : ∃ vs, oe.data = .fields vs) : CallR (X.suite a ((a, oe) :: pn)) (.builtin "isinstance")
    (fun xs H Q => ∃ (c : V) (cv : Value) (b : Bool), xs = [.ref a, c] ∧ (∀ u, RelV c u → u = cv) ∧ PySem.W.kitOne X.K (.ref D) cv = some b ∧ (d = none ∨ ∃ dd gs, d = some dd ∧ H dd = some (.xd gs)) ∧ Q (.bl b) H) := by
  intro pins s σ H xs us Q I r h
  obtain ⟨c, cv, b, rfl, hcv, e, hd, q⟩ := h
  cases r with
  | cons rx rr =>
    cases rr with
    | cons rt rr =>
      cases rr
      cases rx
      obtain rfl := hcv _ rt
      obtain ⟨there, _⟩ := I.pin (a, oe) (List.mem_append_left _ List.mem_cons_self)
      obtain ⟨vs, hv⟩ := hf
      have nc : PySem.W.notCls oe = true := by unfold PySem.W.notCls; rw [hv] <;> rfl
      have J : ∃ od, PySem.W.InstAt s.heap a oe D od := by
        rcases hd with z | ⟨dd, gs, z, hH⟩
        · exact ⟨none, there, hz.1, nc, by rw [hz.2, z]; trivial⟩
        · have hx : ObjOk X.prog X.w H s.heap dd (.xd gs) := I.hok dd _ hH
          obtain ⟨mA, hns, _⟩ := hx
          obtain ⟨od, ho, _⟩ := lookIn_ns hns
          exact ⟨some od, there, hz.1, nc, by rw [hz.2, z]; exact ho⟩
      obtain ⟨od, J⟩ := J
      exact PySem.W.kia_one (kit_of_err C) I.kIn J e (fun z => nomatch z) fun tk => ⟨.bl b, H, I.kept (t' := tk) fun _ _ z => z, rfl, q⟩
/-! ### expressions in a suite -/
theorem XRel.go {K : PySem.W.Frag} {m m' : Mp} {Ω Ω' : Om} {H H' : Hp} {x : Xn} {cls : Value} {d : Option Addr} (c : CellsOk K m Ω H) (r : XRel K m Ω H x cls d) (g : Go K m Ω H m' Ω' H') : XRel K m' Ω' H' x cls d :=
  ⟨r.1, r.2.imp id fun ⟨dd, gs, e, h, rf⟩ => ⟨dd, gs, e, xd_go c h g, RlF.go g.toGw c _ _ rf⟩⟩
section
variable (K : PySem.W.Frag) (i : Nat) (a : Addr) (cls : Value) (d : Option Addr)
def tY {α β : Type} (R : Mp → Om → Hp → α → β → Prop) (f : Xn → Den α) : L2.St → Hp → (β → Hp → Prop) → Prop := fun σ H Q => σ[i]? = some (some (.ref a)) ∧ ∃ (x : Xn) (m : Mp) (Γ : Gm) (Ω : Om), SR K m Γ Ω σ H ∧ XRel K m Ω H x cls d ∧ Af K R (fun _ _ _ => False) Q m Ω H (f x Γ Ω)
abbrev tDy (f : Xn → Den D) : TE := tY K i a cls d (Rl K) f
abbrev tDAy (f : Xn → Den (List D)) : TA := tY K i a cls d (RlL K) f
abbrev tDTy (f : Xn → Den Bool) : TT := tY K i a cls d (fun _ _ _ a b => a = b) f
end
section
variable {X : Cx} {i : Nat} {a : Addr} {cls : Value} {d : Option Addr} {e e2 : Expr} {es : List Expr} {f g : Xn → Den D} {p q : Xn → Den Bool} {r : Xn → Den (List D)} {pos : Pos}
theorem tY_bind {K : PySem.W.Frag} {α β γ δ : Type} {R : Mp → Om → Hp → α → β → Prop} {R2 : Mp → Om → Hp → γ → δ → Prop} {f : Xn → Den α} {k : Xn → α → Den γ} {σ : L2.St} {H : Hp} {Q : δ → Hp → Prop} (h : tY K i a cls d R2 (fun x => bnd (f x) (k x)) σ H Q) :
    tY K i a cls d R f σ H fun b H1 => ∃ m1 Ω1 y, CellsOk K m1 Ω1 H1 ∧ R m1 Ω1 H1 y b ∧ ∃ x Γ, σ[i]? = some (some (.ref a)) ∧ SR K m1 Γ Ω1 σ H1 ∧ XRel K m1 Ω1 H1 x cls d ∧ Af K R2 (fun _ _ _ => False) Q m1 Ω1 H1 (k x y Γ Ω1) := by
  obtain ⟨h0, x, m, Γ, Ω, s, xr, af⟩ := h
  exact ⟨h0, x, m, Γ, Ω, s, xr, (Af.bind (R := R) af).imp fun _ _ _ _ _ _ _ _ ⟨m1, Ω1, y, g1, r1, q⟩ => ⟨m1, Ω1, y, g1.ok, r1, x, Γ, h0, s.go g1, xr.go s.cells g1, q⟩⟩
theorem dey_of {g : Den D} (h : DE X E0S e g) : PE X e (tDy X.K i a cls d fun _ => g) := PE.mono h fun σ H Q ⟨_, _, m, Γ, Ω, s, _, af⟩ => ⟨m, Γ, Ω, s, af⟩
theorem day_nil : PA X [] (tDAy X.K i a cls d fun _ => fNil) := PA.mono (da_nil (E := E0S)) fun σ H Q ⟨_, _, m, Γ, Ω, s, _, af⟩ => ⟨m, Γ, Ω, s, af⟩
theorem day_cons (ha : PE X e (tDy X.K i a cls d f)) (hb : PA X es (tDAy X.K i a cls d r)) (hs : starEach (e :: es) X.env = (false, eval e X.env) :: starEach es X.env := by rfl) : PA X (e :: es) (tDAy X.K i a cls d fun x => fCons (f x) (r x)) :=
  PA.mono (pa_cons ha hb hs) fun σ H Q ⟨h0, x, m, Γ, Ω, s, xr, af⟩ => by
    refine ⟨h0, x, m, Γ, Ω, s, xr, (Af.bind (R := Rl X.K) af).imp fun _ _ _ _ _ _ _ _ ⟨m1, Ω1, y, g1, r1, q⟩ => ?_⟩
    refine ⟨h0, x, m1, Γ, Ω1, s.go g1, xr.go s.cells g1, (Af.bind (R := RlL X.K) q).imp fun _ _ _ _ _ _ _ _ ⟨m2, Ω2, ys, g2, r2, q2⟩ => ?_⟩
    refine q2 m2 _ _ (Go.refl g2.ok) ?_
    unfold RlL
    exact ⟨_, _, rfl, Rl.go g2.toGw g1.ok y _ r1, r2⟩
theorem dey_lst (h : PA X es (tDAy X.K i a cls d r)) : PE X (.List es pos) (tDy X.K i a cls d fun x => fLst (r x)) := PE.mono (pe_lst h) fun σ H Q ⟨h0, x, m, Γ, Ω, s, xr, af⟩ => by
  refine ⟨h0, x, m, Γ, Ω, s, xr, (Af.bind (R := RlL X.K) af).imp fun _ _ H1 _ b _ _ _ ⟨m1, Ω1, xs, g1, r1, q⟩ => ?_⟩
  obtain ⟨hz, q⟩ := Af.guard q
  exact ⟨by rw [← r1.length]; exact sz hz, fun p hp => q m1 _ _ (Go.new g1.ok hp) (Rl.newL g1.ok hp r1)⟩
theorem dey_callB {id : String} {x : Str} {p : Pos} {op : OpA} {rr : List V → Hp → VK → Prop} (hr : CallR X (.builtin id) rr) (hd : CallD X.K op rr) (hm : X.mg x = none) (hv : bootBuiltins x = some (.builtin id)) (ha : PA X (e :: es) (tDAy X.K i a cls d r)) (hg : Gl X x := by rfl) (hn : x ≠ Str.ofString "__name__" := by decide)
    (hdb : (x == ("__debug__" : Str)) = false := by decide) (he : starEach (e :: es) X.env = (false, eval e X.env) :: starEach es X.env := by rfl) (hpl : (backTo pos (starEach es X.env)).any (·.1) = false := by rfl) : PE X (.Call (.Name x p) (e :: es) [] pos) (tDy X.K i a cls d fun x => fCB op (r x)) :=
  PE.mono (pe_callB hr hg hm hv ha hn hdb he hpl) fun σ H Q h => by
    obtain ⟨h0, x, m, Γ, Ω, s, xr, af⟩ := tY_bind (R := RlL X.K) h
    exact ⟨h0, x, m, Γ, Ω, s, xr, af.imp fun m' Ω' H' ds vs _ g r ⟨m1, Ω1, y, c1, r1, x', Γ', _, s1, xr1, q⟩ => hd _ m1 Ω1 _ y _ Q c1 r1 q⟩
/-- e.f of the caught error -/
theorem dey_fld {Y : Cx} {oe : Obj} {pn : List (Addr × Obj)} {c n fl : Str} {p : Pos} (T : XfC Y.K (cad Y.K c)) (hno : PySem.W.findIn Y.K (.ref (cad Y.K c)) fl = some none) (hz : L2N.Zn cls d oe) (hf : ∃ vs, oe.data = .fields vs) (hN : Y.N[i]? = some n) (hv : Vis Y.env.scope n)
    (h1 : (n == ("__debug__" : Str)) = false) (h2 : (n == ("__classdict__" : Str)) = false) (hb : attributeBase (.Name n p) fl Y.env (eval (.Name n p) Y.env) = eval (.Name n p) Y.env) :
    PE (Y.suite a ((a, oe) :: pn)) (.Attribute (.Name n p) fl pos) (tDy Y.K i a cls d fun x => fXf c fl x) :=
  PE.mono (pe_xf T hno hz.zc hf (pe_var (X := Y.suite a ((a, oe) :: pn)) (i := i) hN hv h1 h2) hb) fun σ H Q ⟨h0, x, m, Γ, Ω, s, xr, af⟩ => by
    refine ⟨_, h0, rfl, ?_⟩
    unfold fXf at af
    dsimp only at af
    by_cases hc : x.cls = c
    · rw [if_pos hc] at af
      obtain ⟨ec, xr⟩ := xr
      cases e5 : x.fs.lookup fl with
      | none => rw [e5] at af; exact af.elim
      | some dv =>
        rw [e5] at af
        rcases xr with ⟨z, _⟩ | ⟨dd, gs, ed, hd, rf⟩
        · rw [z] at e5; cases e5
        · rcases rf.lookup (f := fl) with ⟨dv', v, z1, z2, z3⟩ | ⟨z1, z2⟩
          · rw [e5] at z1
            cases z1
            exact ⟨by rw [ec, hc], dd, gs, v, ed, hd, z2, af m v H (Go.refl s.cells) z3⟩
          · rw [e5] at z1; cases z1
    · rw [if_neg hc] at af
      exact af.elim
/-- isinstance(e, c) of the caught error, by a table of its classes -/
def fXis (tab : List (Str × Bool)) (x : Xn) : Den D := fun _ Ω => match tab.lookup x.cls with
  | some b => some (.ok (.bl b), Ω)
  | none => none
theorem dey_isa {Y : Cx} {oe : Obj} {pn : List (Addr × Obj)} {c n : Str} {tab : List (Str × Bool)} {p p2 p3 : Pos} (hm : Y.mg "isinstance" = none) (hc : Y.mg c = some (.ref (cad Y.K c))) (ht : ∀ q ∈ tab, ∃ D, He.ga Y.K q.1 = D ∧ ExcC Y.K D ∧ PySem.W.kitOne Y.K (.ref D) (.ref (cad Y.K c)) = some q.2) (hz : L2N.Zn cls d oe) (hf : ∃ vs, oe.data = .fields vs) (hN : Y.N[i]? = some n) (hv : Vis Y.env.scope n)
    (h1 : (n == ("__debug__" : Str)) = false) (h2 : (n == ("__classdict__" : Str)) = false) (hgc : Gl Y c) (hdb : (c == ("__debug__" : Str)) = false) (hg : Gl Y "isinstance" := by rfl) :
    PE (Y.suite a ((a, oe) :: pn)) (.Call (.Name "isinstance" p) [.Name n p2, .Name c p3] [] pos) (tDy Y.K i a cls d fun x => fXis tab x) := by
  refine ⟨fun pins s σ H Q I ⟨h0, x, m, Γ, Ω, sr, xr, af⟩ => ?_⟩
  unfold fXis at af
  dsimp only at af
  cases e1 : tab.lookup x.cls with
  | none => rw [e1] at af; exact af.elim
  | some b =>
    rw [e1] at af
    obtain ⟨D, eD, hC, hk⟩ := ht _ (mem_lookup e1)
    obtain ⟨ec, xr2⟩ := xr
    have hz2 : Zc (.ref D) d oe := ⟨by rw [← eD, ← ec]; exact hz.1, hz.zc.2⟩
    have hA : PA (Y.suite a ((a, oe) :: pn)) [.Name n p2, .Name c p3] (tCons (fun σ H Q => ∃ v, σ[i]? = some (some v) ∧ Q v H) (tCons (tC (.ref (cad Y.K c))) tNil)) :=
      pa_cons (pe_var (X := Y.suite a ((a, oe) :: pn)) (i := i) hN hv h1 h2) (pa_cons (pe_glob (X := Y.suite a ((a, oe) :: pn)) hgc hc rfl hdb) pa_nil rfl) rfl
    refine (pe_callB (X := Y.suite a ((a, oe) :: pn)) (call_isX hC hz2 hf) hg hm rfl hA (by decide) (by decide) rfl rfl).run pins s σ H Q I ?_
    refine ⟨_, h0, .ref (cad Y.K c), .ref (cad Y.K c), b, rfl, fun u r => r, hk, xr2.imp (fun z => z.2) fun ⟨dd, gs, z1, z2, _⟩ => ⟨dd, gs, z1, z2⟩, ?_⟩
    exact af m _ H (Go.refl sr.cells) (by unfold Rl; rfl)
theorem dey_one {op : BoolOp} (h : PE X e (tDy X.K i a cls d f)) : PE X (.BoolOp op [e] pos) (tDy X.K i a cls d f) := pe_one h
theorem tYT_of {K : PySem.W.Frag} {f : Xn → Den D} {σ : L2.St} {H : Hp} {Q : Bool → Hp → Prop} (h : tDTy K i a cls d (fun x => fT (f x)) σ H Q) : tDy K i a cls d f σ H fun v H1 => ∃ c, v = .bl c ∧ Q c H1 := by
  obtain ⟨h0, x, m, Γ, Ω, s, xr, af⟩ := h
  refine ⟨h0, x, m, Γ, Ω, s, xr, (Af.bind (R := Rl K) af).imp fun _ _ _ _ _ _ _ _ ⟨m1, Ω1, y, g1, r1, q⟩ => ?_⟩
  cases y with
  | bl c =>
    unfold Rl at r1
    exact ⟨c, r1, q m1 c _ (Go.refl g1.ok) rfl⟩
  | _ => exact q.elim
theorem dey_and {b : Expr} {rest : List Expr} (h1 : PE X e (tDy X.K i a cls d f)) (h2 : PE X (.BoolOp .And (b :: rest) pos) (tDy X.K i a cls d g)) : PE X (.BoolOp .And (e :: b :: rest) pos) (tDy X.K i a cls d fun x => fAndV (f x) (g x)) := PE.mono (pe_and h1 h2) fun σ H Q ⟨h0, x, m, Γ, Ω, s, xr, af⟩ => by
  refine tYT_of (Q := fun c H1 => if c = true then tDy X.K i a cls d g σ H1 Q else Q (.bl false) H1) ⟨h0, x, m, Γ, Ω, s, xr, (Af.bind (R := fun _ _ _ a b => a = b) af).imp fun _ _ _ _ _ _ _ _ ⟨m1, Ω1, y, g1, r1, q⟩ => ?_⟩
  subst r1
  cases y with
  | true => exact ⟨h0, x, m1, Γ, Ω1, s.go g1, xr.go s.cells g1, q⟩
  | false => exact q m1 _ _ (Go.refl g1.ok) (by unfold Rl; rfl)
/-! ### tests -/
/-! ### statements -/
abbrev DY (X : Cx) (i : Nat) (a : Addr) (cls : Value) (d : Option Addr) (st : Stmt) (u : Xn → DenS) : Prop := PS X st (tSy X.K i a cls d u)
abbrev DYs (X : Cx) (i : Nat) (a : Addr) (cls : Value) (d : Option Addr) (st : List Stmt) (u : Xn → DenS) : Prop := PSs X st (tSy X.K i a cls d u)
variable {st : Stmt} {u v : Xn → DenS}
theorem dys_one (h : DY X i a cls d st u) : DYs X i a cls d [st] u := PSs.mono (pss_one h) fun D σ H z => z
theorem dy_set (j : Nat) {x : Str} {pos' : Pos} (hN : X.N.Nodup) (hj : j ≠ i) (he : PE X e (tDy X.K i a cls d f)) (hi : X.N[j]? = some x := by rfl) (hx : Loc X.env.scope x := by first | exact Or.inl rfl | exact Or.inr rfl) (hs : swapsWith e (some (.Name x pos')) pos.line X.env = pure false := by rfl)
    (hf : X.fn x = true ∨ X.env.scope.names.lookup x = some .local := by first | exact Or.inl rfl | exact Or.inr rfl) : DY X i a cls d (.Assign [.Name x pos'] e pos) fun y => sSet j (f y) := PS.mono (ps_set (i := j) hN hi hx he hs hf) fun D σ H ⟨h0, x, m, Γ, Ω, s, xr, af⟩ =>
  ⟨h0, x, m, Γ, Ω, s, xr, (AfS.val s.slots s.cells af).imp fun _ _ _ _ _ _ _ _ ⟨m1, Ω1, d, g1, r1, q⟩ => q m1 _ _ (Go.refl g1.ok) ((s.go g1).slots.set r1)⟩
end
end Dn


set_option Elab.async false
set_option linter.all false
set_option maxRecDepth 100000
/-! DnLamF: what the head tells of errors that a suite looks at, of makers of lambdas. -/
namespace Dn
open PySem PySem.Spec PyProof.Rows L2
theorem fa_nil {α : Type} {P : α → Prop} : ∀ p ∈ ([] : List α), P p := fun p h => by cases h
theorem fa_cons {α : Type} {P : α → Prop} {a : α} {l : List α} (h : P a) (r : ∀ p ∈ l, P p) : ∀ p ∈ a :: l, P p := fun p hp => by
  rcases List.mem_cons.mp hp with e | hp
  · rw [e]; exact h
  · exact r p hp
def excB (c : Str) (K : PySem.W.Frag) : Bool := decide (PySem.W.findIn K (.ref (He.ga K c)) "__getattribute__" = some (some (.builtin "BaseException.__getattribute__"))) && (decide (PySem.W.findIn K (.ref (He.ga K c)) "__getattr__" = some none) && (decide (PySem.W.subIn K (.ref (He.ga K c)) (.type "BaseException") = some true) &&
  (PySem.W.hasDictIn K (He.ga K c) && (decide (PySem.W.findIn K (.ref (He.ga K c)) "__class__" = some (some (.builtin "object.__class__"))) && (decide (PySem.W.specialIn K (.builtin "object.__class__") "__get__" = some (some (.builtin "getset_descriptor.__get__"))) &&
  (decide (PySem.W.takesIn K (.builtin "object.__class__") = some true) && decide (PySem.W.mroIn K (He.ga K c) (.type "object") = some true)))))))
theorem excB_ok {c : Str} {K : PySem.W.Frag} (h : excB c K = true) : ExcC K (He.ga K c) := by
  unfold excB at h
  obtain ⟨h1, h⟩ := He.ba h
  obtain ⟨h2, h⟩ := He.ba h
  obtain ⟨h3, h⟩ := He.ba h
  obtain ⟨h4, h⟩ := He.ba h
  obtain ⟨h5, h⟩ := He.ba h
  obtain ⟨h6, h⟩ := He.ba h
  obtain ⟨h7, h8⟩ := He.ba h
  exact ⟨of_decide_eq_true h1, of_decide_eq_true h2, of_decide_eq_true h3, h4, of_decide_eq_true h5, of_decide_eq_true h6, of_decide_eq_true h7, of_decide_eq_true h8⟩
def kitB (c d : Str) (b : Bool) (K : PySem.W.Frag) : Bool := decide (PySem.W.kitOne K (.ref (He.ga K c)) (.ref (cad K d)) = some b)
theorem kitB_ok {c d : Str} {b : Bool} {K : PySem.W.Frag} (h : kitB c d b K = true) : PySem.W.kitOne K (.ref (He.ga K c)) (.ref (cad K d)) = some b := of_decide_eq_true h
theorem lamB_code {K : PySem.W.Frag} {h : Heap} {at_ : Str × Option Str} {P : Addr} (X : K.In h) (e : lamB at_ P K = true) : ∃ c, PySem.W.CodeHd h c P := by
  unfold lamB at e
  split at e
  · split at e
    · exact ⟨_, PySem.W.codeHd_of_K X e⟩
    · cases e
  · cases e
/-- the script, of a law with tables -/
theorem scr_ofT {T : List (Addr × Str)} {K : PySem.W.Frag} {H : Hp} {a : Addr} {vs : List V} (hO : OnlyT T H) (h : SqL K H a vs) : ScrL K H a vs := by
  rcases h with (h | h) | h
  · rcases hO.2 a with e | ⟨_, _, _, e⟩ | ⟨o, xs, e⟩ <;> (rw [e] at h; cases h)
  · exact .inl h
  · exact .inr h
end Dn


set_option Elab.async false
set_option linter.all false
set_option maxRecDepth 100000
set_option maxHeartbeats 2000000
/-! DnRpD: repr of data that holds dicts. -/
namespace Dn
open PySem PySem.Spec PyProof.Rows L2
def keyPX : Key → PyData
  | .inl i => .int i
  | .inr x => .str x
mutual
inductive Dq (K : PySem.W.Frag) (H : Hp) : V → PyData → Prop
  | non : Dq K H .non .none
  | bl (b : Bool) : Dq K H (.bl b) (.bool b)
  | int (i : Int) : Dq K H (.int i) (.int i)
  | str (x : Str) : Dq K H (.str x) (.str x)
  | lst {a : Addr} {xs : List V} {ds : List PyData} : SqL K H a xs → DqAll K H xs ds → Dq K H (.ref a) (.list ds)
  | tup {a : Addr} {xs : List V} {ds : List PyData} : SqT K H a xs → DqAll K H xs ds → Dq K H (.ref a) (.tuple ds)
  | dct {a : Addr} {ws : List (Key × V)} {ds : List (PyData × PyData)} : Rd H a (.dK ws) → DqK K H ws ds → Dq K H (.ref a) (.dict ds)
inductive DqAll (K : PySem.W.Frag) (H : Hp) : List V → List PyData → Prop
  | nil : DqAll K H [] []
  | cons {v : V} {vs : List V} {d : PyData} {ds : List PyData} : Dq K H v d → DqAll K H vs ds → DqAll K H (v :: vs) (d :: ds)
inductive DqK (K : PySem.W.Frag) (H : Hp) : List (Key × V) → List (PyData × PyData) → Prop
  | nil : DqK K H [] []
  | cons {k : Key} {v : V} {vs : List (Key × V)} {d : PyData} {ds : List (PyData × PyData)} : Dq K H v d → DqK K H vs ds → DqK K H ((k, v) :: vs) ((keyPX k, d) :: ds)
end
/-- sys.modules is no list -/
def SmF (K : PySem.W.Frag) : Prop := ∃ o, K.lookup sysModules = some o ∧ o.cls ≠ .type "list"
def smB (K : PySem.W.Frag) : Bool := match K.lookup sysModules with
  | some ⟨.type "list", _, _, _⟩ => false
  | some _ => true
  | none => false
theorem sm_ok {K : PySem.W.Frag} (h : smB K = true) : SmF K := by
  unfold smB at h
  split at h
  · cases h
  · rename_i o hne e
    exact ⟨o, e, fun z => by obtain ⟨c, d, dt, sl⟩ := o; cases z; exact hne _ _ _ rfl⟩
  · cases h
theorem key_reads {h : Heap} {k : Key} {v : Value} (e : keyIs k v = true) : Reads h v (keyPX k) [] := by
  rcases keyIs_shape e with ⟨i, t, rfl, rfl⟩ | ⟨x, t, rfl, rfl⟩
  · exact Reads.int i t
  · exact Reads.str x t
section
variable {X : Cx} {pins : List (Addr × Obj)} {σ : L2.St} {H : Hp} {s : Shared}
theorem not_app {as bs : List Addr} (h1 : sysModules ∉ as) (h2 : sysModules ∉ bs) : sysModules ∉ as ++ bs := fun h => (List.mem_append.mp h).elim h1 h2
mutual
theorem Dq.reads (sm : SmF X.K) (I : Inv X pins σ H s) : ∀ (d : PyData) (v : V) (u : Value), Dq X.K H v d → RelV v u → ∃ as, Reads s.heap u d as ∧ sysModules ∉ as
  | .none, _, _, h, r => by
    cases h
    cases r
    exact ⟨_, Reads.none, by simp⟩
  | .bool b, _, _, h, r => by
    cases h
    cases r
    exact ⟨_, Reads.bool b, by simp⟩
  | .int i, _, _, h, r => by
    cases h
    obtain ⟨t, rfl⟩ := r
    exact ⟨_, Reads.int i t, by simp⟩
  | .str x, _, _, h, r => by
    cases h
    obtain ⟨t, rfl⟩ := r
    exact ⟨_, Reads.str x t, by simp⟩
  | .list ds, _, _, h, r => by
    cases h with
    | @lst a _ _ hs ha =>
      cases r
      obtain ⟨its, rv, ⟨o, n, ho, hc, _, hd⟩, _⟩ := I.list hs
      obtain ⟨as, hr, hn⟩ := DqAll.reads sm I ds _ its ha rv
      obtain ⟨o1, e1, c1⟩ := sm
      refine ⟨_, Reads.list ho hc hd hr, fun h => ?_⟩
      rcases List.mem_cons.mp h with h | h
      · rw [← h] at ho
        have := I.kIn _ _ e1
        rw [ho] at this
        cases this
        exact c1 hc
      · exact hn h
  | .tuple ds, _, _, h, r => by
    cases h with
    | tup hs ha =>
      cases r
      obtain ⟨its, rv, ⟨o, ho, hc, n, hd⟩, _⟩ := I.tuple hs
      obtain ⟨as, hr, hn⟩ := DqAll.reads sm I ds _ its ha rv
      exact ⟨_, Reads.tuple ho hc hd hr, hn⟩
  | .dict ds, _, _, h, r => by
    cases h with
    | @dct a ws _ hs ha =>
      cases r
      obtain ⟨_, hsm, vs, kv, o, es, ep, ho, hx, hd, _, hp, _⟩ := (show ObjOk X.prog X.w H s.heap a (.dK ws) from hs.ok I.hok)
      obtain ⟨as, bs, h1, h2, n1, n2⟩ := DqK.reads sm I ds ws vs es.toList ha kv hp
      refine ⟨_, Reads.dict ho hx.1 hd h1 h2, fun h => ?_⟩
      rcases List.mem_append.mp h with h | h
      · rcases List.mem_cons.mp h with h | h
        · rw [← h] at hsm
          simp at hsm
        · exact n1 h
      · exact n2 h
theorem DqAll.reads (sm : SmF X.K) (I : Inv X pins σ H s) : ∀ (ds : List PyData) (vs : List V) (us : List Value), DqAll X.K H vs ds → Vals vs us → ∃ as, ReadsAll s.heap us ds as ∧ sysModules ∉ as
  | [], _, _, h, r => by
    cases h
    cases r
    exact ⟨_, ReadsAll.nil, by simp⟩
  | d :: ds, _, _, h, r => by
    cases h with
    | cons h1 h2 =>
      cases r with
      | cons r1 r2 =>
        obtain ⟨as, q1, n1⟩ := Dq.reads sm I d _ _ h1 r1
        obtain ⟨bs, q2, n2⟩ := DqAll.reads sm I ds _ _ h2 r2
        exact ⟨_, ReadsAll.cons q1 q2, not_app n1 n2⟩
theorem DqK.reads (sm : SmF X.K) (I : Inv X pins σ H s) : ∀ (ds : List (PyData × PyData)) (ws : List (Key × V)) (vs : List (Key × Value)) (es : List DictEntry), DqK X.K H ws ds → KV ws vs → Pairs (mixKind X.prog X.w) es vs →
    ∃ as bs, ReadsAll s.heap (es.map (·.key)) (ds.map (·.1)) as ∧ ReadsAll s.heap (es.map (·.val)) (ds.map (·.2)) bs ∧ sysModules ∉ as ∧ sysModules ∉ bs
  | [], _, _, _, h, r, p => by
    cases h
    cases r
    cases p
    exact ⟨_, _, ReadsAll.nil, ReadsAll.nil, by simp, by simp⟩
  | (kd, d) :: ds, _, _, _, h, r, p => by
    cases h with
    | @cons k v ws _ _ h1 h2 =>
      cases r with
      | @cons _ q _ vs r1 r2 =>
        cases p with
        | @cons e _ es _ p1 p2 p3 =>
          obtain ⟨rk, rv⟩ := r1
          obtain ⟨as, q1, n1⟩ := Dq.reads sm I d _ _ h1 rv
          obtain ⟨bs, cs, q2, q3, n2, n3⟩ := DqK.reads sm I ds ws vs es h2 r2 p3
          have kr : Reads s.heap e.key (keyPX k) [] := key_reads (by have : keyIs q.1 e.key = true := p1; rw [← rk] at this; exact this)
          refine ⟨_, _, ReadsAll.cons kr q2, ReadsAll.cons (show Reads s.heap e.val d as by rw [p2]; exact q1) q3, not_app (by simp) n2, not_app n1 n3⟩
end
end
def rReprX (K : PySem.W.Frag) : List V → Hp → VK → Prop := fun xs H Q => ∃ x p, xs = [x] ∧ Dq K H x p ∧ p.showable = true ∧ p.depth ≤ 60 ∧ p.shown.length ≤ sizeLine ∧ Q (.str p.shown) H
section
variable {X : Cx} {k : Nat}
theorem call_reprX (hr : RoomG k X.A) (sm : SmF X.K) : CallR X (.builtin "repr") (rReprX X.K) := by
  intro pins s σ H xs us Q I rv h
  obtain ⟨x, p, rfl, hd, h1, h3, h4, q⟩ := h
  obtain ⟨u, rfl, ru⟩ := vals1 rv
  obtain ⟨as, rd, hn⟩ := Dq.reads sm I p x u hd ru
  have hun := hr.units
  have big : ∀ (a : Addr), u = .ref a → wpAny (model X.prog X.w) X.A (call (.builtin "repr") [u]) (EP X pins σ Q) X.xe s := fun a e => by
    subst e
    exact repr_of_reads' rd h1 (fun _ => hn) hr.gd (by omega) (fun _ _ z => z) (fun h' u tk hk => ⟨.str p.shown, H, I.kept hk, ⟨_, rfl⟩, q⟩) h4
  cases hd with
  | non => obtain rfl : u = .none := ru; exact PySem.P.repr_of_none ⟨.str _, H, I.tok _, ⟨_, rfl⟩, q⟩
  | bl b => obtain rfl : u = .bool b := ru; exact PySem.P.repr_of_bool ⟨.str _, H, I.tok _, ⟨_, rfl⟩, q⟩
  | int i => obtain ⟨t, rfl⟩ := ru; exact PySem.P.repr_of_int (of_decide_eq_true h1) ⟨.str _, H, I.tok _, ⟨_, rfl⟩, q⟩
  | str y => obtain ⟨t, rfl⟩ := ru; exact PySem.P.repr_of_str ⟨.str _, H, I.tok _, ⟨_, rfl⟩, q⟩ h4
  | lst _ _ => exact big _ ru
  | tup _ _ => exact big _ ru
  | dct _ _ => exact big _ ru
end
mutual
def toPX : D → Option PyData
  | .non => some .none
  | .bl b => some (.bool b)
  | .int i => some (.int i)
  | .str x => some (.str x)
  | .tup xs => (toPXL xs).map .tuple
  | .tpk xs => (toPXL xs).map .tuple
  | .lst xs => (toPXL xs).map .list
  | .dct kvs => (toPXK kvs).map .dict
  | _ => none
def toPXL : List D → Option (List PyData)
  | [] => some []
  | d :: ds => match toPX d with
    | none => none
    | some p => match toPXL ds with
      | none => none
      | some ps => some (p :: ps)
def toPXK : List (Key × D) → Option (List (PyData × PyData))
  | [] => some []
  | (k, d) :: ds => match toPX d with
    | none => none
    | some p => match toPXK ds with
      | none => none
      | some ps => some ((keyPX k, p) :: ps)
end
section
variable {K : PySem.W.Frag} {m : Mp} {Ω : Om} {H : Hp}
mutual
theorem toPX_ok : ∀ (d : D) (v : V) (p : PyData), Rl K m Ω H d v → toPX d = some p → Dq K H v p
  | .non, v, p, r, e => by unfold Rl at r; unfold toPX at e; cases e; subst r; exact .non
  | .bl b, v, p, r, e => by unfold Rl at r; unfold toPX at e; cases e; subst r; exact .bl b
  | .int b, v, p, r, e => by unfold Rl at r; unfold toPX at e; cases e; subst r; exact .int b
  | .str b, v, p, r, e => by unfold Rl at r; unfold toPX at e; cases e; subst r; exact .str b
  | .tpk xs, v, p, r, e => by
    unfold Rl at r
    unfold toPX at e
    obtain ⟨a, vs, ev, h1, h2⟩ := r
    obtain ⟨ps, q, rfl⟩ := Option.map_eq_some_iff.mp e
    subst ev
    exact .tup h1.sq (toPXL_ok xs vs ps h2 q)
  | .tup xs, v, p, r, e => by
    unfold Rl at r
    unfold toPX at e
    obtain ⟨a, vs, ev, h1, h2⟩ := r
    obtain ⟨ps, q, rfl⟩ := Option.map_eq_some_iff.mp e
    subst ev
    exact .tup h1.sq (toPXL_ok xs vs ps h2 q)
  | .lst xs, v, p, r, e => by
    unfold Rl at r
    unfold toPX at e
    obtain ⟨a, vs, ev, h1, _, h2⟩ := r
    obtain ⟨ps, q, rfl⟩ := Option.map_eq_some_iff.mp e
    subst ev
    exact .lst (.inl (.inl h1)) (toPXL_ok xs vs ps h2 q)
  | .dct kvs, v, p, r, e => by
    unfold Rl at r
    unfold toPX at e
    obtain ⟨a, ws, ev, h1, _, h2⟩ := r
    obtain ⟨ps, q, rfl⟩ := Option.map_eq_some_iff.mp e
    subst ev
    exact .dct h1 (toPXK_ok kvs ws ps h2 q)
  | .dcT _, _, _, _, e => by unfold toPX at e; cases e
  | .dcN _ _, _, _, _, e => by unfold toPX at e; cases e
  | .obj _ _, _, _, _, e => by unfold toPX at e; cases e
  | .ref _, _, _, _, e => by unfold toPX at e; cases e
  | .scr _, _, _, _, e => by unfold toPX at e; cases e
  | .cl _, _, _, _, e => by unfold toPX at e; cases e
  | .clo _ _ _, _, _, _, e => by unfold toPX at e; cases e
theorem toPXL_ok : ∀ (ds : List D) (vs : List V) (ps : List PyData), RlL K m Ω H ds vs → toPXL ds = some ps → DqAll K H vs ps
  | [], vs, ps, r, e => by unfold RlL at r; unfold toPXL at e; cases e; subst r; exact .nil
  | d :: ds, vs, ps, r, e => by
    unfold RlL at r
    unfold toPXL at e
    obtain ⟨v, r2, ev, h1, h2⟩ := r
    subst ev
    cases q : toPX d with
    | none => rw [q] at e; cases e
    | some p =>
      rw [q] at e
      dsimp only at e
      cases q2 : toPXL ds with
      | none => rw [q2] at e; cases e
      | some ps2 =>
        rw [q2] at e
        cases e
        exact .cons (toPX_ok d v p h1 q) (toPXL_ok ds r2 ps2 h2 q2)
theorem toPXK_ok : ∀ (ds : List (Key × D)) (vs : List (Key × V)) (ps : List (PyData × PyData)), RlK K m Ω H ds vs → toPXK ds = some ps → DqK K H vs ps
  | [], vs, ps, r, e => by unfold RlK at r; unfold toPXK at e; cases e; subst r; exact .nil
  | (k, d) :: ds, vs, ps, r, e => by
    unfold RlK at r
    unfold toPXK at e
    obtain ⟨v, r2, ev, h1, h2⟩ := r
    subst ev
    cases q : toPX d with
    | none => rw [q] at e; cases e
    | some p =>
      rw [q] at e
      dsimp only at e
      cases q2 : toPXK ds with
      | none => rw [q2] at e; cases e
      | some ps2 =>
        rw [q2] at e
        cases e
        exact .cons (toPX_ok d v p h1 q) (toPXK_ok ds r2 ps2 h2 q2)
end
def okRepX (p : PyData) : Bool := p.showable && decide (p.depth ≤ 60) && decide (p.shown.length ≤ 100000)
def dReprX : OpA := op1 fun d Ω => match toPX d with
  | some p => if okRepX p = true then some (.ok (.str p.shown), Ω) else none
  | none => none
theorem cd_reprX : CallD K dReprX (rReprX K) := by
  intro E m Ω H ds vs Q c r q
  obtain ⟨d, v, ed, ev, h, q1⟩ := op1_of r q
  clear q
  subst ed ev
  cases e1 : toPX d with
  | none => rw [e1] at q1; exact q1.elim
  | some p =>
    rw [e1] at q1
    obtain ⟨hz, q1⟩ := Af.guard q1
    unfold okRepX at hz
    simp only [Bool.and_eq_true, decide_eq_true_eq] at hz
    obtain ⟨⟨z1, z3⟩, z4⟩ := hz
    exact ⟨v, p, rfl, toPX_ok d v p h e1, z1, z3, sz z4, q1.now c (by unfold Rl; rfl)⟩
end
end Dn


set_option Elab.async false
set_option linter.all false
set_option maxRecDepth 100000
set_option maxHeartbeats 2000000
/-! DnSuite3: repr in a suite of except, of data that holds dicts. -/
namespace Dn
open PySem PySem.Spec PyProof.Rows L2
theorem call_reprXD {X : Cx} {A : Around} {k : Nat} (hr : RoomG k A) (hu : X.A.units ≤ A.units + 8) (hgd : X.A.guards = A.guards) (sm : SmF X.K) : CallR X (.builtin "repr") (rReprX X.K) := by
  intro pins s σ H xs us Q I rv h
  obtain ⟨x, p, rfl, hd, h1, h3, h4, q⟩ := h
  obtain ⟨u, rfl, ru⟩ := vals1 rv
  obtain ⟨as, rd, hn⟩ := Dq.reads sm I p x u hd ru
  have hun := hr.un
  have big : ∀ (a : Addr), u = .ref a → wpAny (model X.prog X.w) X.A (call (.builtin "repr") [u]) (EP X pins σ Q) X.xe s := fun a e => by
    subst e
    exact repr_of_reads' rd h1 (fun _ => hn) (hgd.trans hr.gd) (by omega) (fun _ _ z => z) (fun h' u tk hk => ⟨.str p.shown, H, I.kept hk, ⟨_, rfl⟩, q⟩) h4
  cases hd with
  | non => obtain rfl : u = .none := ru; exact PySem.P.repr_of_none ⟨.str _, H, I.tok _, ⟨_, rfl⟩, q⟩
  | bl b => obtain rfl : u = .bool b := ru; exact PySem.P.repr_of_bool ⟨.str _, H, I.tok _, ⟨_, rfl⟩, q⟩
  | int i => obtain ⟨t, rfl⟩ := ru; exact PySem.P.repr_of_int (of_decide_eq_true h1) ⟨.str _, H, I.tok _, ⟨_, rfl⟩, q⟩
  | str y => obtain ⟨t, rfl⟩ := ru; exact PySem.P.repr_of_str ⟨.str _, H, I.tok _, ⟨_, rfl⟩, q⟩ h4
  | lst _ _ => exact big _ ru
  | tup _ _ => exact big _ ru
  | dct _ _ => exact big _ ru
theorem call_reprSD {X : Cx} {a : Addr} {pn : List (Addr × Obj)} {k : Nat} (hr : RoomG k X.A) (sm : SmF X.K) : CallR (X.suite a pn) (.builtin "repr") (rReprX X.K) := call_reprXD (X := X.suite a pn) hr (by show _ ≤ _; simp [Cx.suite, Around.mark]) rfl sm
/-! ### isinstance(e, C), C a built-in class -/
theorem dey_isab {i : Nat} {a : Addr} {cls : Value} {d : Option Addr} {pos : Pos} {T' : String} {Y : Cx} {oe : Obj} {pn : List (Addr × Obj)} {c n : Str} {tab : List (Str × Bool)} {p p2 p3 : Pos} (hm : Y.mg "isinstance" = none) (hmT : Y.mg c = none) (hvT : bootBuiltins c = some (.type T')) (hnT : c ≠ "__name__") (ht : ∀ q ∈ tab, ∃ D, He.ga Y.K q.1 = D ∧ ExcC Y.K D ∧ PySem.W.kitOne Y.K (.ref D) (.type T') = some q.2) (hz : L2N.Zn cls d oe) (hf : ∃ vs, oe.data = .fields vs) (hN : Y.N[i]? = some n) (hv : Vis Y.env.scope n)
    (h1 : (n == ("__debug__" : Str)) = false) (h2 : (n == ("__classdict__" : Str)) = false) (hgc : Gl Y c) (hdb : (c == ("__debug__" : Str)) = false) (hg : Gl Y "isinstance" := by rfl) :
    PE (Y.suite a ((a, oe) :: pn)) (.Call (.Name "isinstance" p) [.Name n p2, .Name c p3] [] pos) (tDy Y.K i a cls d fun x => fXis tab x) := by
  refine ⟨fun pins s σ H Q I ⟨h0, x, m, Γ, Ω, sr, xr, af⟩ => ?_⟩
  unfold fXis at af
  dsimp only at af
  cases e1 : tab.lookup x.cls with
  | none => rw [e1] at af; exact af.elim
  | some b =>
    rw [e1] at af
    obtain ⟨D, eD, hC, hk⟩ := ht _ (mem_lookup e1)
    obtain ⟨ec, xr2⟩ := xr
    have hz2 : Zc (.ref D) d oe := ⟨by rw [← eD, ← ec]; exact hz.1, hz.zc.2⟩
    have hA : PA (Y.suite a ((a, oe) :: pn)) [.Name n p2, .Name c p3] (tCons (fun σ H Q => ∃ v, σ[i]? = some (some v) ∧ Q v H) (tCons (tC (.ty T')) tNil)) :=
      pa_cons (pe_var (X := Y.suite a ((a, oe) :: pn)) (i := i) hN hv h1 h2) (pa_cons (pe_bltn (X := Y.suite a ((a, oe) :: pn)) (v := .ty T') hgc hmT hvT rfl hnT hdb) pa_nil rfl) rfl
    refine (pe_callB (X := Y.suite a ((a, oe) :: pn)) (call_isX hC hz2 hf) hg hm rfl hA (by decide) (by decide) rfl rfl).run pins s σ H Q I ?_
    refine ⟨_, h0, .ty T', .type T', b, rfl, fun u r => r, hk, xr2.imp (fun z => z.2) fun ⟨dd, gs, z1, z2, _⟩ => ⟨dd, gs, z1, z2⟩, ?_⟩
    exact af m _ H (Go.refl sr.cells) (by unfold Rl; rfl)
def kitTB (c : Str) (T : String) (b : Bool) (K : PySem.W.Frag) : Bool := decide (PySem.W.kitOne K (.ref (He.ga K c)) (.type T) = some b)
theorem kitTB_ok {c : Str} {T : String} {b : Bool} {K : PySem.W.Frag} (h : kitTB c T b K = true) : PySem.W.kitOne K (.ref (He.ga K c)) (.type T) = some b := of_decide_eq_true h
end Dn


set_option Elab.async false
set_option linter.all false
set_option maxRecDepth 100000
/-! DnCallX: x(v), x an instance; what it raises goes on. -/
namespace Dn
open PySem L2
def fCallOX (c : Str) (n : Nat) (F : FD) (fo : Den D) (r : Den (List D)) : Den D := bnd fo fun x Γ Ω => match x with
  | .obj c' fs => if c' = c then bR (r Γ Ω) fun ds Ω1 => if (x :: ds).length = n then F (x :: ds) Ω1 else none else none
  | _ => none
section
variable {X : Cx} {E : St → XK} {fe e : Expr} {es : List Expr} {fo : Den D} {r : Den (List D)} {pos : Pos} {c : Str} {ps : List Str} {k n : Nat} {F : FD}
theorem de_callOX (hx : ∀ σ, PassesAt (L2N.CX X.prog X.w) X σ (E σ)) (G : ClG X.prog X.w X.K X.mg X.base c ps k F) (hr : RoomG k X.A) (hf : DE X E fe fo) (ha : DA X E (e :: es) r) (hn : ps.length = n := by rfl)
    (ht : eval (.Call fe (e :: es) [] pos) X.env = (do callWith pos (← eval fe X.env) [] (backTo pos (starEach (e :: es) X.env)) (backToKw pos (keywordEach [] X.env))) := by rfl)
    (he : starEach (e :: es) X.env = (false, eval e X.env) :: starEach es X.env := by rfl) (hpl : (backTo pos (starEach es X.env)).any (·.1) = false := by rfl) : DE X E (.Call fe (e :: es) [] pos) (fCallOX c n F fo r) := by
  subst hn
  obtain ⟨f, fd, co, ok, bi⟩ := G.ex
  have h0 : PE X (.Call fe (e :: es) [] pos) (fun σ H Q => StX.tCallO X (cad X.K c) (spD X.K ps.length F) (E σ) (tD X.K E fo) (tDA X.K E r) σ H Q) := ⟨fun pins s σ H Q I h => by
    refine PyProof.Rows.Call_ (thn (hf.run pins s σ H _ I h) fun u s1 ⟨y, H1, I1, ry, a, ey, q⟩ => ?_) ht
    cases ey
    cases ry
    refine StX.callO_with (thn (ha.run pos pins s1 σ H1 _ I1 q) fun us s2 ⟨vs, H2, I2, rv, hi, q2⟩ => ?_) he hpl
    obtain ⟨ox, od, J, hd⟩ := StX.insC_at I2 hi
    have n1 := ok.len _ _ _ _ q2
    have n2 := rv.length
    have b := bi s2 (.ref a :: us) I2.kIn (by rw [List.append_nil, List.length_cons, ← n2, ← n1, List.length_cons])
    rw [List.append_nil] at b
    refine ⟨⟨_, ox, od, J, hd⟩, wpAny_call (PySem.W.kco_code I2.kIn J hd co.at_ co.fn co.fi (codeAny_mono (ok.run X.A X.stack s2 H2 ⟨.ref a :: us, []⟩ (.ref a :: us) (.ref a :: vs) Q (E σ) hr I2.env0 b (.cons rfl rv) q2) fun out s' q => ?_))⟩
    match out, q with
    | .error er, q => exact hx σ pins H2 s2 er s' I2 q
    | .ok (.ret u), q => exact I2.after q
    | .ok .next, q => exact q.elim
    | .ok .brk, q => exact q.elim
    | .ok .cont, q => exact q.elim⟩
  refine PE.mono h0 fun σ H Q h => ?_
  obtain ⟨m, Γ, Ω, s, h⟩ := h
  refine ⟨m, Γ, Ω, s, (Af.bind (R := Rl X.K) h).imp fun _ _ _ _ _ _ _ _ ⟨m1, Ω1, x, g1, r1, q⟩ => ?_⟩
  cases x with
  | obj c' fs =>
    have r2 := r1
    unfold Rl at r2
    obtain ⟨a, dx, gs, ev, h1, _⟩ := r2
    dsimp only at q
    obtain ⟨hc, q1⟩ := Af.guard q
    clear q
    subst hc
    have q := q1
    clear q1
    refine ⟨a, ev, m1, Γ, Ω1, s.go g1, (Af.bind (R := RlL X.K) q).imp fun _ _ _ _ vs _ _ _ ⟨m2, Ω2, ds, g2, r2, q2⟩ => ?_⟩
    have r3 := Rl.go g2.toGw g1.ok _ _ r1
    obtain ⟨hl, q2⟩ := Af.guard q2
    have r4 := r3
    unfold Rl at r4
    obtain ⟨a', dx', gs', ev', h1', _⟩ := r4
    rw [ev] at ev'
    cases ev'
    refine ⟨.inr ⟨dx', gs', h1'⟩, ?_⟩
    subst ev
    refine ⟨?_, m2, Ω2, D.obj c' fs :: ds, g2.ok, ?_, q2⟩
    · rw [← hl, List.length_cons, List.length_cons, r2.length]
    · unfold RlL
      exact ⟨_, _, rfl, r3, r2⟩
  | _ => exact q.elim
end
end Dn


set_option Elab.async false
set_option linter.all false
set_option maxRecDepth 100000
/-! L2DcX: dict comprehensions whose keys are tuples: what a turn stores is a relation of one's own (StX). -/
namespace L2
open PySem PySem.Spec PyProof.Rows
/-- the dict at D takes z at y: the heaps that may come -/
abbrev StX := Addr → V → V → Hp → (Hp → Prop) → Prop
section
variable {X : Cx} {O0 : Addr → HO} {ST : StX} {kx vx tg iter : Expr} {ifs : List Expr} {scope : Scope} {own : List (Str × Nat)} {pos : Pos} {wi : TI} {g : TG} {tt : TT} {tk tv : TE}
/-- what the block's parts promise in any of its frames -/
structure DcParts (X : Cx) (scope : Scope) (tg kx vx : Expr) (ifs : List Expr) (g : TG) (tt : TT) (tk tv : TE) : Prop where
  g : ∀ (s : Shared) (H : Hp) (C : Addr) (cl : List (Str × Addr)) (fp : List Addr), PG (X.blk s H scope (compEnvC scope cl C X.env) fp) tg g
  t : ∀ (s : Shared) (H : Hp) (C : Addr) (cl : List (Str × Addr)) (fp : List Addr), PTs (X.blk s H scope (compEnvC scope cl C X.env) fp) ifs tt
  k : ∀ (s : Shared) (H : Hp) (C : Addr) (cl : List (Str × Addr)) (fp : List Addr), PE (X.blk s H scope (compEnvC scope cl C X.env) fp) kx tk
  v : ∀ (s : Shared) (H : Hp) (C : Addr) (cl : List (Str × Addr)) (fp : List Addr), PE (X.blk s H scope (compEnvC scope cl C X.env) fp) vx tv
end
end L2


set_option Elab.async false
set_option linter.all false
set_option maxRecDepth 100000
/-! DnDcN: dicts whose keys are tuples of any depth, wherever they stand: d[k], {}, d[k] = v, {k: v for ..}. -/
namespace Dn
open PySem L2
/-! ### keys -/
def valN (kvs : List (NK × D)) (k : NK) : Option D := (kvs.find? fun kv => decide (kv.1 = k)).map (·.2)
def putNd (kvs : List (NK × D)) (k : NK) (d : D) : List (NK × D) := if (kvs.any fun kv => decide (kv.1 = k)) = true then kvs.map (fun kv => if kv.1 = k then (kv.1, d) else kv) else kvs ++ [(k, d)]
section
variable {K : PySem.W.Frag} {m : Mp} {Ω : Om} {H : Hp}
theorem RlN.length : ∀ {ds : List (NK × D)} {es : List NE}, RlN K m Ω H ds es → ds.length = es.length
  | [], es, h => by unfold RlN at h; rw [h]; rfl
  | (k, d) :: ds, es, h => by
    unfold RlN at h
    obtain ⟨b, v, r, e, _, h2⟩ := h
    rw [e, List.length_cons, List.length_cons, RlN.length h2]
theorem RlN.val : ∀ {ds : List (NK × D)} {es : List NE} {k : NK} {d : D}, RlN K m Ω H ds es → valN ds k = some d → ∃ v, atN es k = some v ∧ Rl K m Ω H d v
  | [], es, k, d, h, e => by cases e
  | (k', d') :: ds, es, k, d, h, e => by
    unfold RlN at h
    obtain ⟨b, v, r, rfl, h1, h2⟩ := h
    rw [atN_cons]
    by_cases q : k' = k
    · have : d' = d := by simpa [valN, q] using e
      exact ⟨v, if_pos q, by rw [← this]; exact h1⟩
    · have : valN ds k = some d := by simpa [valN, q] using e
      obtain ⟨v', z1, z2⟩ := RlN.val h2 this
      exact ⟨v', (if_neg q).trans z1, z2⟩
theorem RlN.any : ∀ {ds : List (NK × D)} {es : List NE} {k : NK}, RlN K m Ω H ds es → (ds.any fun kv => decide (kv.1 = k)) = es.any fun e => decide (e.1 = k)
  | [], es, k, h => by unfold RlN at h; rw [h]; rfl
  | (k', d') :: ds, es, k, h => by
    unfold RlN at h
    obtain ⟨b, v, r, rfl, h1, h2⟩ := h
    rw [List.any_cons, List.any_cons, RlN.any h2]
theorem RlN.repl {k : NK} {d : D} {v : V} (q : Rl K m Ω H d v) : ∀ {ds : List (NK × D)} {es : List NE}, RlN K m Ω H ds es → RlN K m Ω H (ds.map fun kv => if kv.1 = k then (kv.1, d) else kv) (es.map (setN k v))
  | [], es, h => by unfold RlN at h; rw [h]; unfold RlN; rfl
  | (k', d') :: ds, es, h => by
    unfold RlN at h
    obtain ⟨b, v', r, rfl, h1, h2⟩ := h
    rw [List.map_cons, List.map_cons]
    by_cases z : k' = k
    · rw [if_pos z, show setN k v (k', b, v') = (k', b, v) from if_pos z]
      unfold RlN
      exact ⟨b, v, _, rfl, q, RlN.repl q h2⟩
    · rw [if_neg z, show setN k v (k', b, v') = (k', b, v') from if_neg z]
      unfold RlN
      exact ⟨b, v', _, rfl, h1, RlN.repl q h2⟩
theorem RlN.snoc {k : NK} {b : Addr} {d : D} {v : V} (q : Rl K m Ω H d v) : ∀ {ds : List (NK × D)} {es : List NE}, RlN K m Ω H ds es → RlN K m Ω H (ds ++ [(k, d)]) (es ++ [(k, b, v)])
  | [], es, h => by
    unfold RlN at h
    rw [h]
    show RlN K m Ω H [(k, d)] [(k, b, v)]
    unfold RlN
    exact ⟨b, v, [], rfl, q, by unfold RlN; rfl⟩
  | (k', d') :: ds, es, h => by
    unfold RlN at h
    obtain ⟨b', v', r, rfl, h1, h2⟩ := h
    show RlN K m Ω H ((k', d') :: (ds ++ [(k, d)])) ((k', b', v') :: (r ++ [(k, b, v)]))
    unfold RlN
    exact ⟨b', v', _, rfl, h1, RlN.snoc q h2⟩
theorem RlN.put {ds : List (NK × D)} {es : List NE} {k : NK} {b : Addr} {d : D} {v : V} (h : RlN K m Ω H ds es) (q : Rl K m Ω H d v) : RlN K m Ω H (putNd ds k d) (putN es k b v) := by
  unfold putNd putN
  rw [h.any]
  split
  · exact RlN.repl q h
  · exact RlN.snoc q h
theorem KyE.put {es : List NE} {k : NK} {b : Addr} {v : V} (h : KyE K H es) (kb : KyT K H k b) : KyE K H (putN es k b v) := by
  unfold putN
  split
  · intro e he
    obtain ⟨e0, h0, rfl⟩ := List.mem_map.mp he
    have := h e0 h0
    unfold setN
    split <;> exact this
  · intro e he
    rcases List.mem_append.mp he with he | he
    · exact h e he
    · rw [List.mem_singleton.mp he]
      exact kb
/-! ### a dict of the world w -/
end
section
variable {X : Cx} {E : St → XK} {a b e o : Expr} {f g : Den D} {pos : Pos} {k : Nat}
theorem hu16 (hr : RoomG k X.A) : X.A.units + 16 < cLine := by have := hr.un; omega
end
/-! ### d[k] = v -/
section
variable {X : Cx} {E : St → XK} {o i e : Expr} {fo fi fe : Den D} {pos tpos : Pos} {k : Nat}
end
end Dn


set_option Elab.async false
set_option linter.all false
set_option maxRecDepth 100000
/-! L2DcI: what any dict holds, as values: list(d.items()), d.values(), dict(xs) of pairs whose keys are tuples, a comprehension's d[k] = v. -/
namespace L2
open PySem PySem.Spec PyProof.Rows
/-- a dict's entries, as values -/
def Ents (kvs : List (V × V)) (es : Array DictEntry) : Prop := Paired (fun p e => RelV p.1 e.key ∧ RelV p.2 e.val) kvs es.toList
/-- the dict at d: its raw data, and these values in it -/
structure RawOf (s : Shared) (d : Addr) (kvs : List (V × V)) (es : Array DictEntry) (ep : Nat) : Prop where
  lo : (d == sysModules) = false
  raw : DT.Raw s.heap d es ep
  ents : Ents kvs es
  le : es.size ≤ sizeLine
theorem Ents.len {kvs : List (V × V)} {es : Array DictEntry} (x : Ents kvs es) : kvs.length = es.size := by rw [← Array.length_toList]; exact Paired.length x
section
variable {X : Cx} {pins : List (Addr × Obj)} {σ : St} {H : Hp} {s : Shared} {d : Addr}
end
/-! ### list(d.items()) -/
section
variable {prog : Program} {w : World} {A : Around} {E : Value → Shared → Prop} {s : Shared} {v d : Addr} {es : Array DictEntry} {ep : Nat}
end
section
variable {X : Cx} {pins : List (Addr × Obj)} {σ : St} {H : Hp} {s : Shared}
end
/-! ### for v in d.values(), d locked -/
/-! ### dict(xs), xs pairs whose keys are tuples -/
section
variable {X : Cx} {pins : List (Addr × Obj)} {σ : St} {H : Hp} {s : Shared}
/-- the pairs at ps: where each key stands, and its value -/
def PrsAt (K : PySem.W.Frag) (H : Hp) (ps : List Addr) (qs : List (Addr × V)) : Prop := Paired (fun p q => SqT K H p [.ref q.1, q.2]) ps qs
end
end L2


set_option Elab.async false
set_option linter.all false
set_option maxRecDepth 100000
/-! L2DcP: dict(xs) of pairs with tuple keys as a tracked dict; what a comprehension stores. -/
namespace L2
open PySem PySem.Spec PyProof.Rows
section
variable {X : Cx}
/-- the pairs' keys and values -/
structure PrsK (K : PySem.W.Frag) (H : Hp) (xs : List V) (a : Addr) (ps : List Addr) (qs : List (Addr × V)) (n : Nat) : Prop where
  ex : xs = [.ref a]
  l : SqL K H a (ps.map V.ref)
  p : PrsAt K H ps qs
  n : n = qs.length
end
end L2


set_option Elab.async false
set_option linter.all false
set_option maxRecDepth 100000
/-! DnDcU: dicts walked and made anew: list(d.items()), d.values(), list(d), dict(pairs) and {k: v for ..} with tuple keys. -/
namespace Dn
open PySem L2
section
variable {K : PySem.W.Frag} {m : Mp} {Ω : Om} {H : Hp}
/-- all that is tracked stays -/
theorem Go.more (c : CellsOk K m Ω H) {H' : Hp} (k : ∀ b o, H b = some o → H' b = some o) : Go K m Ω H m Ω H' := Go.upS c (fun b o q => ⟨o, k b o q, .inl rfl⟩) (fun b o q _ => k b o q) (c.tb.up (fun b ps q => k _ _ q) fun b o q => k _ _ q)
theorem RlL.cons {d : D} {v : V} {ds : List D} {vs : List V} (r : Rl K m Ω H d v) (t : RlL K m Ω H ds vs) : RlL K m Ω H (d :: ds) (v :: vs) := by
  unfold RlL
  exact ⟨_, _, rfl, r, t⟩
theorem RlL.nil : RlL K m Ω H [] [] := by unfold RlL; rfl
end
/-! ### a dict with tuple keys, locked from then on -/
section
variable {X : Cx} {E : St → XK} {e : Expr} {f : Den D}
end
/-! ### for v in d.values() -/
theorem RlT.at {K : PySem.W.Frag} {m : Mp} {Ω : Om} {H : Hp} : ∀ {kvs : List (List Key × D)} {ws : List (List Key × V)} {i : Nat} {k : List Key} {v : V}, RlT K m Ω H kvs ws → ws[i]? = some (k, v) → ∃ d, kvs[i]? = some (k, d) ∧ Rl K m Ω H d v
  | [], ws, i, k, v, h, e => by unfold RlT at h; subst h; simp at e
  | (k', d) :: kvs, ws, i, k, v, h, e => by
    unfold RlT at h
    obtain ⟨w, r, ew, h1, h2⟩ := h
    subst ew
    cases i with
    | zero => cases (Option.some.inj e); exact ⟨d, rfl, h1⟩
    | succ i => exact RlT.at (i := i) h2 e
section
variable {X : Cx} {E : St → XK} {tg e : Expr} {f : Den (List (List Key × D))} {g : Den (List (Key × D))} {apos cpos : Pos}
end
/-! ### list(d.items()) -/
section
variable {K : PySem.W.Frag} {m : Mp} {Ω : Om} {H : Hp}
theorem IsKeys.more {H' : Hp} {ws : List (List Key × V)} {bs : List Addr} (h : IsKeys H ws bs) (k : ∀ b o, H b = some o → H' b = some o) : IsKeys H' ws bs := Paired.mapP h fun _ _ z => k _ _ z
end
section
variable {X : Cx} {E : St → XK} {e : Expr} {f : Den D} {p apos cpos pos : Pos}
end
/-! ### list(d), d's keys tuples -/
section
variable {K : PySem.W.Frag}
end
/-! ### dict(xs), xs pairs with tuples as keys -/
section
variable {K : PySem.W.Frag} {m : Mp} {Ω : Om} {H : Hp}
end
end Dn


set_option Elab.async false
set_option linter.all false
set_option maxRecDepth 100000
/-! DnDcV: {k: v for .. in ..}, k a tuple. -/
namespace Dn
open PySem L2
/-- between two turns: the dict at p is filled, hidden -/
structure DcIT (K : PySem.W.Frag) (Γ : Gm) (σ : St) (m1 : Mp) (Ω1 : Om) (H1 : Hp) (p : Addr) (m2 : Mp) (Ω2 : Om) (acc : List (List Key × D)) (ws : List (List Key × V)) (H2 : Hp) : Prop where
  gw : Gw K m1 Ω1 H1 m2 Ω2 H2
  c : CellsOk K m2 Ω2 H2
  hh : ∀ a, m1.hid a → m2.hid a
  hk : ∀ a o, m1.hid a → H1 a = some o → H2 a = some o
  hD : m2.hid p
  eD : H2 p = some (.dT ws)
  racc : RlT K m2 Ω2 H2 acc ws
  sl : Slots K m2 Ω2 H2 Γ σ
theorem DcIT.step {K : PySem.W.Frag} {Γ : Gm} {σ : St} {m1 : Mp} {Ω1 : Om} {H1 : Hp} {p : Addr} {m2 m3 : Mp} {Ω2 Ω3 : Om} {acc : List (List Key × D)} {ws : List (List Key × V)} {H2 H3 : Hp}
    (I : DcIT K Γ σ m1 Ω1 H1 p m2 Ω2 acc ws H2) (g : Go K m2 Ω2 H2 m3 Ω3 H3) : DcIT K Γ σ m1 Ω1 H1 p m3 Ω3 acc ws H3 :=
  ⟨I.gw.trans g.toGw, g.ok, fun a h => g.hs a (I.hh a h), fun a o h e => g.hk a o (I.hh a h) (I.hk a o h e), g.hs p I.hD, g.hk p _ I.hD I.eD, RlT.go g.toGw I.c _ _ I.racc, ((SR.mk I.c I.sl).go g).slots⟩
section
variable {X : Cx} {E : St → XK} {kx vx tg iter : Expr} {ifs : List Expr} {scope : Scope} {own : List (Str × Nat)} {pos : Pos} {fi : Den (List D)} {t : Tg} {ft : Den Bool} {fk fe : Den D}
end
end Dn


set_option Elab.async false
set_option linter.all false
set_option maxRecDepth 100000
/-! DnDisp: {"k": v, ..}: a display with texts as keys. -/
namespace Dn
open PySem L2 PyProof.Rows
section
variable {X : Cx} {E : L2.St → XK} {pos : Pos}
end
end Dn


set_option Elab.async false
set_option linter.all false
set_option maxRecDepth 100000
set_option maxHeartbeats 1000000
/-! DnDspT: {k: v}, k a tuple. -/
namespace Dn
open PySem PySem.Spec PyProof.Rows L2
section
variable {prog : Program} {w : World} {K : Type} [DecidableEq K] {knd : HeapKind prog w K} {A : Around} {E : Value → Shared → Prop} {s : Shared}
theorem wp_dictX {env : Env} {keys : List (Option Expr)} {values : List Expr} {pos : Pos} {pairs : List (Sem Value × Sem Value)} {Q : Value → Shared → Prop} (hu : knd.room A)
    (hshape : (evalEachOpt keys env).zip ((evalEach values env).map fun v => do let x ← v; standAt pos; pure x) = pairs.map fun p => (some p.1, p.2)) (h0 : pairs ≠ []) (hlen : pairs.length ≤ 15)
    (h : wpAny (model prog w) A (evalPairs pairs) (fun vs s₁ => ∃ ps, CarriesH knd s₁.heap vs ps ∧ s₁.heap.DictOfH knd s.heap.objs.size [] ∧
      ∀ h' tk, h'.DictOfH knd s.heap.objs.size (storedAllH [] ps) → Heap.SameBut s.heap.objs.size s₁.heap h' → Q (.ref s.heap.objs.size) { s₁ with heap := h', toks := tk }) E
      { s with heap := s.heap.push { cls := .type "dict", data := .dict #[] } }) :
    wpAny (model prog w) A (eval (.Dict keys values pos) env) Q E s := by
  rw [arm_eval_Dict, hshape, dictDisplay_pairs pairs h0 (by omega)]
  exact wpAny_bind (wpAny_standAt (wpAny_bind (wpAny_subDictH (knd := knd) (Q := fun d s' => wpAny (model prog w) A (pure (Value.ref d)) Q E s') hu hlen
    (wpAny_mono h (fun vs s₁ h₁ => by obtain ⟨ps, hc, hm, hq⟩ := h₁; exact ⟨ps, hc, hm, fun h' tk a b => wpAny_pure (hq h' tk a b)⟩) fun _ _ e => e))))
end
section
variable {X : Cx} {E : L2.St → XK} {pos : Pos} {ke ve : Expr} {tk tv : TE} {fk fv : Den D} {k : Nat}
def tDispT (tk tv : TE) : TE := fun σ H Q => ∀ p, H p = none → tPairs [(tk, tv)] σ (upd H p (.dT [])) fun ps H2 => ∃ x y, ps = [(x, y)] ∧ H2 p = some (.dT []) ∧ ∃ ks b, x = .ref b ∧ H2 b = some (.tup (List.map kV ks)) ∧ Q (.ref p) (upd H2 p (.dT [(ks, y)]))
theorem pe_dispT (hu : X.A.units + 1 < cLine) (hk : PE X ke tk) (hv : PE X ve tv) : PE X (.Dict [some ke] [ve] pos) (tDispT tk tv) := by
  refine ⟨fun pins s σ H Q I q => ?_⟩
  have hn := I.hok.fresh (Nat.le_refl s.heap.objs.size)
  have I1 := I.laid (a := s.heap.objs.size) (o := .dT []) (h' := s.heap.push { cls := .type "dict", data := .dict #[] }) (t' := s.toks) (fun _ _ q => Heap.get?_push_of_some _ q) (Nat.le_refl _) (dt_empty s.heap I.big)
  refine wp_dictX (knd := tupleKind (mixKind X.prog X.w)) (pairs := pairTrees [some ke] [ve] X.env pos) (show X.A.units < cLine by omega) (zip_pairTrees [some ke] [ve] X.env pos rfl rfl) (fun z => by have := congrArg List.length z; rw [pairTrees_length [some ke] [ve] X.env pos rfl rfl] at this; cases this) (by rw [pairTrees_length [some ke] [ve] X.env pos rfl rfl]; exact (by decide : 1 ≤ 15))
    (thn ((pps_cons hk hv pps_nil).run pins _ σ _ _ I1 (q _ hn)) fun ws s2 ⟨ps, H2, I2, rel, x, y, ep, e, ks, b, ex, eb, q2⟩ => ?_)
  subst ep ex
  cases rel with
  | @cons _ z _ zs h1 h2 =>
    cases h2
    obtain ⟨u, v⟩ := z
    obtain ⟨h3, h4⟩ := h1
    cases (show u = Value.ref b from h3)
    obtain ⟨hl, hd, xs, rel, dd⟩ := dt_of I2.hok e
    cases rel
    refine ⟨[(ks, b, v)], ⟨rfl, rfl, key_of I2.hok eb, trivial⟩, dd, fun h' tk dd' hs => ⟨.ref s.heap.objs.size, _, ?_, rfl, q2⟩⟩
    obtain ⟨o, es, ep, hq, g2, g3, g4, _, g5⟩ := dd'
    refine d_write I2 (by rw [e]; exact True.intro) hs ⟨o, hq⟩ ⟨(show 1 ≤ sizeLine by decide), hd, [(ks, b, v)], .cons ⟨rfl, ?_, h4⟩ .nil, o, es, ep, hq, g2, g3, g4, g5⟩
    rw [upd_ne (ne_of eb e (fun z => nomatch z))]
    exact eb
def fDispT (fk fv : Den D) : Den D := fun Γ Ω => match fk Γ Ω with
  | some (.ok y, Ω1) => (match fv Γ Ω1 with
    | some (.ok d, Ω2) => (match keyT y with
      | some k => some (.ok (.dcT [(k, d)]), Ω2)
      | none => none)
    | _ => none)
  | _ => none
theorem de_dispT (hr : RoomG k X.A) (hk : DE X E ke fk) (hv : DE X E ve fv) : DE X E (.Dict [some ke] [ve] pos) (fDispT fk fv) := by
  refine PE.mono (pe_dispT (by have := hu16 hr; omega) hk hv) fun σ H Q hh => ?_
  obtain ⟨m, Γ, Ω, s, hh⟩ := hh
  unfold fDispT at hh
  cases e1 : fk Γ Ω with
  | none => rw [e1] at hh; exact hh.elim
  | some z =>
    obtain ⟨rr, Ω1⟩ := z
    rw [e1] at hh
    cases rr with
    | ex e => exact hh.elim
    | ok y =>
      dsimp only at hh
      cases e2 : fv Γ Ω1 with
      | none => rw [e2] at hh; exact hh.elim
      | some z =>
        obtain ⟨rr, Ω2⟩ := z
        rw [e2] at hh
        cases rr with
        | ex e => exact hh.elim
        | ok d =>
          dsimp only at hh
          cases e3 : keyT y with
          | none => rw [e3] at hh; exact hh.elim
          | some ks =>
            rw [e3] at hh
            dsimp only at hh
            intro p hp
            have c1 := s.cells
            have gw := Gw.hide (K := X.K) (o := .dT []) c1 hp
            have I0 : DcIT X.K Γ σ m Ω H p (m.hide p) Ω [] [] (upd H p (.dT [])) := ⟨gw, c1.hideO trivial hp, fun a h => .inl h, fun a o _ q => by rw [upd_ne (ne_of_none q hp)]; exact q, .inr rfl, upd_same, by unfold RlT; rfl, ⟨s.slots.1, fun i d h => let ⟨v, h1, h2⟩ := s.slots.2 i d h; ⟨v, h1, Rl.go gw c1 d v h2⟩⟩⟩
            show tD X.K E fk σ _ _
            refine ⟨m.hide p, Γ, Ω, ⟨I0.c, I0.sl⟩, ?_⟩
            rw [e1]
            intro m4 v H4 g4 r4
            have I4 := I0.step g4
            show tD X.K E fv σ _ _
            refine ⟨m4, Γ, Ω1, ⟨I4.c, I4.sl⟩, ?_⟩
            rw [e2]
            intro m5 v5 H5 g5 r5
            have I5 := I4.step g5
            obtain ⟨b, eb, hb⟩ := keyT_ok (Rl.go g5.toGw I4.c y _ r4) e3
            refine ⟨v, v5, rfl, I5.eD, ks, b, eb, hb, ?_⟩
            have gf := Gw.fill (K := X.K) (o := .dT [(ks, v5)]) I5.c I5.hD
            have r6 : RlT X.K m5 Ω2 (upd H5 p (.dT [(ks, v5)])) [(ks, d)] [(ks, v5)] := RlT.go gf I5.c _ _ (by unfold RlT; exact ⟨v5, [], rfl, r5, by unfold RlT; rfl⟩)
            have I6 : DcIT X.K Γ σ m Ω H p m5 Ω2 [(ks, d)] [(ks, v5)] (upd H5 p (.dT [(ks, v5)])) := ⟨I5.gw.trans gf, I5.c.fillO trivial I5.hD, I5.hh, fun a o h e => by rw [upd_ne (show a ≠ p from fun z => c1.freshH hp (by rw [← z]; exact h))]; exact I5.hk a o h e, I5.hD, upd_same, r6, ⟨I5.sl.1, fun i d h => let ⟨v, h1, h2⟩ := I5.sl.2 i d h; ⟨v, h1, Rl.go gf I5.c d v h2⟩⟩⟩
            refine hh (m5.shown m.hid) _ _ ⟨I6.gw.toShown I6.hh, I6.c.shown I6.hh, I6.hk, fun _ h => h⟩ ?_
            unfold Rl
            refine ⟨p, [(ks, v5)], rfl, .inl I6.eD, fun l => ?_, RlT.go (Gw.shown I6.hh) I6.c _ _ I6.racc⟩
            rcases l with ⟨n, cc, h1, _⟩ | l
            · exact (I6.c.hl p I6.hD).2 (List.mem_of_getElem? h1)
            · exact c1.freshH hp l
end
end Dn


set_option Elab.async false
set_option linter.all false
set_option maxRecDepth 100000
set_option maxHeartbeats 4000000
namespace K10
open PySem PySem.Spec PyProof.Rows L2 Dn
def top (i : Nat) : Stmt := PySem.Challenge.pw_roadstairs_k10_stairs_refused.main.body.getD i (.Pass ⟨0, 0, 0, 0⟩)
abbrev CL : List Str := ["Stair", "RightSteps"]
abbrev FnP (K : PySem.W.Frag) (x q : Str) (st : Stmt) (f : Addr) (fd : FuncData) : Prop := FunD K x q (defArgs st) (defBody st) (defScope st) [] [] f fd
structure Hd (K : PySem.W.Frag) (mg : Str → Option Value) : Prop where
  g_isinstance : mg "isinstance" = none
  isa : IsaF K CL
  g_int : mg "int" = none
  g_bool : mg "bool" = none
  g_list : mg "list" = none
  g_tuple : mg "tuple" = none
  g_len : mg "len" = none
  g_all : mg "all" = none
  g_enumerate : mg "enumerate" = none
  g_max : mg "max" = none
  g_min : mg "min" = none
  g_sorted : mg "sorted" = none
  c_RightSteps : Cls K (cad K "RightSteps")
  n_RightSteps_told_steps : NoAttr K (cad K "RightSteps") "told_steps"
  m_RightSteps : mg "RightSteps" = some (.ref (cad K "RightSteps"))
  cv_Stair_MOST_STEPS : CvE K "Stair" "MOST_STEPS" 60
  m_Stair : mg "Stair" = some (.ref (cad K "Stair"))
  c_Stair : Cls K (cad K "Stair")
  n_Stair_own_steps : NoAttr K (cad K "Stair") "own_steps"
  g_abs : mg "abs" = none
  g_divmod : mg "divmod" = none
  g_range : mg "range" = none
  xq_InvalidSteps_InvalidSteps : PySem.W.exmOne K (.ref (He.ga K "InvalidSteps")) (.ref (cad K "InvalidSteps")) = some true
  xq_InvalidMark_InvalidSteps : PySem.W.exmOne K (.ref (He.ga K "InvalidMark")) (.ref (cad K "InvalidSteps")) = some false
  xq_InvalidLength_InvalidSteps : PySem.W.exmOne K (.ref (He.ga K "InvalidLength")) (.ref (cad K "InvalidSteps")) = some false
  xq_InvalidRange_InvalidSteps : PySem.W.exmOne K (.ref (He.ga K "InvalidRange")) (.ref (cad K "InvalidSteps")) = some false
  xq_TooMany_InvalidSteps : PySem.W.exmOne K (.ref (He.ga K "TooMany")) (.ref (cad K "InvalidSteps")) = some false
  xt_InvalidSteps_ValueError : PySem.W.kitOne K (.ref (He.ga K "InvalidSteps")) (.type "ValueError") = some true
  xc_InvalidSteps : ExcC K (He.ga K "InvalidSteps")
  g_ValueError : mg "ValueError" = none
  xk_InvalidSteps_RoadError : PySem.W.kitOne K (.ref (He.ga K "InvalidSteps")) (.ref (cad K "RoadError")) = some true
  m_RoadError : mg "RoadError" = some (.ref (cad K "RoadError"))
  g_repr : mg "repr" = none
  xf_InvalidSteps : XfC K (cad K "InvalidSteps")
  n_InvalidSteps_position : NoAttr K (cad K "InvalidSteps") "position"
  smf : SmF K
  xq_InvalidSteps_InvalidMark : PySem.W.exmOne K (.ref (He.ga K "InvalidSteps")) (.ref (cad K "InvalidMark")) = some false
  xq_InvalidMark_InvalidMark : PySem.W.exmOne K (.ref (He.ga K "InvalidMark")) (.ref (cad K "InvalidMark")) = some true
  xq_InvalidLength_InvalidMark : PySem.W.exmOne K (.ref (He.ga K "InvalidLength")) (.ref (cad K "InvalidMark")) = some false
  xq_InvalidRange_InvalidMark : PySem.W.exmOne K (.ref (He.ga K "InvalidRange")) (.ref (cad K "InvalidMark")) = some false
  xq_TooMany_InvalidMark : PySem.W.exmOne K (.ref (He.ga K "TooMany")) (.ref (cad K "InvalidMark")) = some false
  xk_InvalidMark_RoadError : PySem.W.kitOne K (.ref (He.ga K "InvalidMark")) (.ref (cad K "RoadError")) = some true
  xc_InvalidMark : ExcC K (He.ga K "InvalidMark")
  xf_InvalidMark : XfC K (cad K "InvalidMark")
  n_InvalidMark_value : NoAttr K (cad K "InvalidMark") "value"
  xq_InvalidSteps_InvalidLength : PySem.W.exmOne K (.ref (He.ga K "InvalidSteps")) (.ref (cad K "InvalidLength")) = some false
  xq_InvalidMark_InvalidLength : PySem.W.exmOne K (.ref (He.ga K "InvalidMark")) (.ref (cad K "InvalidLength")) = some false
  xq_InvalidLength_InvalidLength : PySem.W.exmOne K (.ref (He.ga K "InvalidLength")) (.ref (cad K "InvalidLength")) = some true
  xq_InvalidRange_InvalidLength : PySem.W.exmOne K (.ref (He.ga K "InvalidRange")) (.ref (cad K "InvalidLength")) = some false
  xq_TooMany_InvalidLength : PySem.W.exmOne K (.ref (He.ga K "TooMany")) (.ref (cad K "InvalidLength")) = some false
  xk_InvalidLength_RoadError : PySem.W.kitOne K (.ref (He.ga K "InvalidLength")) (.ref (cad K "RoadError")) = some true
  xc_InvalidLength : ExcC K (He.ga K "InvalidLength")
  xf_InvalidLength : XfC K (cad K "InvalidLength")
  n_InvalidLength_value : NoAttr K (cad K "InvalidLength") "value"
  xq_InvalidSteps_InvalidRange : PySem.W.exmOne K (.ref (He.ga K "InvalidSteps")) (.ref (cad K "InvalidRange")) = some false
  xq_InvalidMark_InvalidRange : PySem.W.exmOne K (.ref (He.ga K "InvalidMark")) (.ref (cad K "InvalidRange")) = some false
  xq_InvalidLength_InvalidRange : PySem.W.exmOne K (.ref (He.ga K "InvalidLength")) (.ref (cad K "InvalidRange")) = some false
  xq_InvalidRange_InvalidRange : PySem.W.exmOne K (.ref (He.ga K "InvalidRange")) (.ref (cad K "InvalidRange")) = some true
  xq_TooMany_InvalidRange : PySem.W.exmOne K (.ref (He.ga K "TooMany")) (.ref (cad K "InvalidRange")) = some false
  xk_InvalidRange_RoadError : PySem.W.kitOne K (.ref (He.ga K "InvalidRange")) (.ref (cad K "RoadError")) = some true
  xc_InvalidRange : ExcC K (He.ga K "InvalidRange")
  xf_InvalidRange : XfC K (cad K "InvalidRange")
  n_InvalidRange_value : NoAttr K (cad K "InvalidRange") "value"
  xq_InvalidSteps_TooMany : PySem.W.exmOne K (.ref (He.ga K "InvalidSteps")) (.ref (cad K "TooMany")) = some false
  xq_InvalidMark_TooMany : PySem.W.exmOne K (.ref (He.ga K "InvalidMark")) (.ref (cad K "TooMany")) = some false
  xq_InvalidLength_TooMany : PySem.W.exmOne K (.ref (He.ga K "InvalidLength")) (.ref (cad K "TooMany")) = some false
  xq_InvalidRange_TooMany : PySem.W.exmOne K (.ref (He.ga K "InvalidRange")) (.ref (cad K "TooMany")) = some false
  xq_TooMany_TooMany : PySem.W.exmOne K (.ref (He.ga K "TooMany")) (.ref (cad K "TooMany")) = some true
  xt_TooMany_ArithmeticError : PySem.W.kitOne K (.ref (He.ga K "TooMany")) (.type "ArithmeticError") = some true
  xc_TooMany : ExcC K (He.ga K "TooMany")
  g_ArithmeticError : mg "ArithmeticError" = none
  xk_TooMany_LimitError : PySem.W.kitOne K (.ref (He.ga K "TooMany")) (.ref (cad K "LimitError")) = some true
  m_LimitError : mg "LimitError" = some (.ref (cad K "LimitError"))
  xf_TooMany : XfC K (cad K "TooMany")
  n_TooMany_limit : NoAttr K (cad K "TooMany") "limit"
  n_TooMany_what : NoAttr K (cad K "TooMany") "what"
  m_TooMany : mg "TooMany" = some (.ref (cad K "TooMany"))
  m_InvalidRange : mg "InvalidRange" = some (.ref (cad K "InvalidRange"))
  m_InvalidLength : mg "InvalidLength" = some (.ref (cad K "InvalidLength"))
  m_InvalidMark : mg "InvalidMark" = some (.ref (cad K "InvalidMark"))
  m_InvalidSteps : mg "InvalidSteps" = some (.ref (cad K "InvalidSteps"))
variable {P : Program} {w : World} {K : PySem.W.Frag} {mg : Str → Option Value} {base : Heap}
noncomputable section
abbrev s_is_integer : Stmt := top 10
theorem sc_is_integer : FnScope ["value"] ["value"] (defScope s_is_integer) := ⟨rfl, rfl, rfl, by decide +kernel, rfl, by decide +kernel, by decide +kernel⟩
-- slots: 0 value
def b_is_integer : DenS := (sRet (fAndV (fIs (isB CL "int") (fVar 0)) (fNotV (fIs (isB CL "bool") (fVar 0)))))
def F_is_integer : FD := clean (fnD 1 b_is_integer)
theorem ok_is_integer {f : Addr} {fd : FuncData} (hd : Hd K mg) (F : FnP K "is_integer" "is_integer" s_is_integer f fd) : FnOkG P w K mg base (L2N.CX P w) 1 f fd ["value"] (spD K 1 F_is_integer) :=
  FnOkG.clean (fn_def F sc_is_integer fun cdv A outer s H E hr => (ds_one (ds_ret (de_and (de_isB (T' := "int") hd.isa (de_var 0) hd.g_isinstance hd.g_int bt_int) (de_one (de_not (de_isB (T' := "bool") hd.isa (de_var 0) hd.g_isinstance hd.g_bool bt_bool)))))))
abbrev s_is_list : Stmt := top 11
theorem sc_is_list : FnScope ["value"] ["value"] (defScope s_is_list) := ⟨rfl, rfl, rfl, by decide +kernel, rfl, by decide +kernel, by decide +kernel⟩
-- slots: 0 value
def b_is_list : DenS := (sRet (fIs (isB2 CL "list" "tuple") (fVar 0)))
def F_is_list : FD := clean (fnD 1 b_is_list)
theorem ok_is_list {f : Addr} {fd : FuncData} (hd : Hd K mg) (F : FnP K "is_list" "is_list" s_is_list f fd) : FnOkG P w K mg base (L2N.CX P w) 1 f fd ["value"] (spD K 1 F_is_list) :=
  FnOkG.clean (fn_def F sc_is_list fun cdv A outer s H E hr => (ds_one (ds_ret (de_isB2 (T' := "list") (T2' := "tuple") hd.isa (de_var 0) hd.g_isinstance hd.g_list hd.g_tuple bt_list bt_tuple))))
abbrev s_want_range : Stmt := top 12
theorem sc_want_range : FnScope ["first", "end"] ["first", "end"] (defScope s_want_range) := ⟨rfl, rfl, rfl, by decide +kernel, rfl, by decide +kernel, by decide +kernel⟩
-- slots: 0 first, 1 end
def b_want_range : DenS := (sIf (fOr (fNot (fT (fCall 1 F_is_integer (fCons (fVar 0) fNil)))) (fOr (fNot (fT (fCall 1 F_is_integer (fCons (fVar 1) fNil)))) (fT (fBin dGe (fVar 0) (fVar 1))))) (sRaise "InvalidRange" ["value"] (fCons (fTup (fCons (fVar 0) (fCons (fVar 1) fNil))) fNil)) sSkip)
def F_want_range : FD := clean (fnD 2 b_want_range)
theorem ok_want_range {f : Addr} {fd : FuncData} (hd : Hd K mg) (G_is_integer : FnG P w K mg base "is_integer" ["value"] 1 F_is_integer) (ER_InvalidRange : ErG P w K mg base "InvalidRange" ["value"] ["self", "value"] 1) (F : FnP K "want_range" "want_range" s_want_range f fd) : FnOkG P w K mg base (L2N.CX P w) 3 f fd ["first", "end"] (spD K 2 F_want_range) :=
  FnOkG.clean (fn_def F sc_want_range fun cdv A outer s H E hr => (ds_one (ds_if (dt_w (dw_or (dt_not (dt_val (de_callN G_is_integer (hr.mono (by omega)) hx_of (da_cons (de_var 0) da_nil)))) (dw_or (dt_not (dt_val (de_callN G_is_integer (hr.mono (by omega)) hx_of (da_cons (de_var 1) da_nil)))) (dw_or1 (dt_ge (de_var 0) (de_var 1)))))) (ds_one (ds_raise ER_InvalidRange (hr.mono (by omega)) rfl (L2N.takes_of rfl rfl rfl rfl) (da_cons (de_tup (da_cons (de_var 0) (da_cons (de_var 1) da_nil))) da_nil))) ds_nil)))
abbrev s_is_step : Stmt := top 15
theorem sc_is_step : FnScope ["value", "part"] ["value"] (defScope s_is_step) := ⟨rfl, rfl, rfl, by decide +kernel, rfl, by decide +kernel, by decide +kernel⟩
-- slots: 0 value, 1 part
def b_is_step : DenS := (sSeq (sIf (fOr (fNot (fT (fIs (isB CL "tuple") (fVar 0)))) (fOr (fT (fBin dNe (fCB dLen (fCons (fVar 0) fNil)) (fC (.int 3)))) (fNot (fT (fCB dAll (fCons (fLc (fSeq (fVar 0)) (.nm 1) (fC true) (fCall 1 F_is_integer (fCons (fVar 1) fNil)) [1]) fNil)))))) (sRet (fC (.bl false))) sSkip) (sRet (fBin dGe (fBin dIx (fVar 0) (fC (.int 2))) (fC (.int 1)))))
def F_is_step : FD := clean (fnD 2 b_is_step)
theorem ok_is_step {f : Addr} {fd : FuncData} (hd : Hd K mg) (G_is_integer : FnG P w K mg base "is_integer" ["value"] 1 F_is_integer) (F : FnP K "is_step" "is_step" s_is_step f fd) : FnOkG P w K mg base (L2N.CX P w) 2 f fd ["value"] (spD K 1 F_is_step) :=
  FnOkG.clean (fn_def F sc_is_step fun cdv A outer s H E hr => (ds_cons (by exact (ds_if (dt_w (dw_or (dt_not (dt_val (de_isB (T' := "tuple") hd.isa (de_var 0) hd.g_isinstance hd.g_tuple bt_tuple))) (dw_or (dt_ne hr (de_callB call_len cd_len hd.g_len bt_len (da_cons (de_var 0) da_nil)) de_int) (dw_or1 (dt_not (dt_val (de_callB (cr_all rfl) cd_all hd.g_all bt_all (da_cons (de_lc (own := [("part", 1)]) (t := (.nm 1)) (ft := (fC true)) (fe := (fCall 1 F_is_integer (fCons (fVar 1) fNil))) rfl sc_is_step.nd (di_seq (de_var 0)) (blkOk_by rfl) (by decide) (by exact fun _ _ _ _ _ => (pg_nm 1 sc_is_step.nd)) (by exact fun _ _ _ _ _ => dts_nil) (by exact fun _ _ _ _ _ => (de_callN G_is_integer (hr.mono (by omega)) pass00 (da_cons (de_var 1) da_nil)))) da_nil)))))))) (ds_one (ds_ret de_bl)) ds_nil)) (by exact (ds_one (ds_ret (de_ge (de_sq (de_var 0) de_int) de_int))))))
abbrev s_does_rise : Stmt := top 16
theorem sc_does_rise : FnScope ["before", "step"] ["before", "step"] (defScope s_does_rise) := ⟨rfl, rfl, rfl, by decide +kernel, rfl, by decide +kernel, by decide +kernel⟩
-- slots: 0 before, 1 step
def b_does_rise : DenS := (sRet (fAndV (fBin dGe (fBin dIx (fVar 1) (fC (.int 0))) (fBin dAdd (fBin dIx (fVar 0) (fC (.int 0))) (fBin dIx (fVar 0) (fC (.int 2))))) (fBin dGe (fBin dIx (fVar 1) (fC (.int 1))) (fBin dAdd (fBin dIx (fVar 0) (fC (.int 1))) (fBin dIx (fVar 0) (fC (.int 2)))))))
def F_does_rise : FD := clean (fnD 2 b_does_rise)
theorem ok_does_rise {f : Addr} {fd : FuncData} (hd : Hd K mg) (F : FnP K "does_rise" "does_rise" s_does_rise f fd) : FnOkG P w K mg base (L2N.CX P w) 1 f fd ["before", "step"] (spD K 2 F_does_rise) :=
  FnOkG.clean (fn_def F sc_does_rise fun cdv A outer s H E hr => (ds_one (ds_ret (de_and (de_ge (de_sq (de_var 1) de_int) (de_add (de_sq (de_var 0) de_int) (de_sq (de_var 0) de_int))) (de_one (de_ge (de_sq (de_var 1) de_int) (de_add (de_sq (de_var 0) de_int) (de_sq (de_var 0) de_int))))))))
abbrev s_want_steps : Stmt := top 17
theorem sc_want_steps : FnScope ["steps", "position", "step"] ["steps"] (defScope s_want_steps) := ⟨rfl, rfl, rfl, by decide +kernel, rfl, by decide +kernel, by decide +kernel⟩
-- slots: 0 steps, 1 position, 2 step
def b_want_steps_for : DenS := (sIf (fOr (fNot (fT (fCall 1 F_is_step (fCons (fVar 2) fNil)))) (fAnd (fT (fBin dGt (fVar 1) (fC (.int 0)))) (fNot (fT (fCall 2 F_does_rise (fCons (fBin dIx (fVar 0) (fBin dSub (fVar 1) (fC (.int 1)))) (fCons (fVar 2) fNil))))))) (sRaise "InvalidSteps" ["position"] (fCons (fVar 1) fNil)) sSkip)
def b_want_steps : DenS := (sSeq (sIf (fNot (fT (fCall 1 F_is_list (fCons (fVar 0) fNil)))) (sRaise "InvalidSteps" ["position"] (fCons (fC .non) fNil)) sSkip) (sFor (fEnum (fCons (fVar 0) fNil)) (gT 2 (gCons (gN 1) (gCons (gN 2) gNil))) b_want_steps_for))
def F_want_steps : FD := clean (fnD 3 b_want_steps)
theorem ok_want_steps {f : Addr} {fd : FuncData} (hd : Hd K mg) (G_is_list : FnG P w K mg base "is_list" ["value"] 1 F_is_list) (ER_InvalidSteps : ErG P w K mg base "InvalidSteps" ["position"] ["self", "position"] 1) (G_is_step : FnG P w K mg base "is_step" ["value"] 2 F_is_step) (G_does_rise : FnG P w K mg base "does_rise" ["before", "step"] 1 F_does_rise) (F : FnP K "want_steps" "want_steps" s_want_steps f fd) : FnOkG P w K mg base (L2N.CX P w) 3 f fd ["steps"] (spD K 1 F_want_steps) :=
  FnOkG.clean (fn_def F sc_want_steps fun cdv A outer s H E hr => (ds_cons (by exact (ds_if (dt_not (dt_val (de_callN G_is_list (hr.mono (by omega)) hx_of (da_cons (de_var 0) da_nil)))) (ds_one (ds_raise ER_InvalidSteps (hr.mono (by omega)) rfl (L2N.takes_of rfl rfl rfl rfl) (da_cons de_non da_nil))) ds_nil)) (by exact (ds_one (ds_for hp_of rfl (di_enum (da_cons (de_var 0) da_nil) hd.g_enumerate) (dg_t rfl (dgs_cons (dg_n 1 sc_want_steps.nd) (dgs_cons (dg_n 2 sc_want_steps.nd) dgs_nil))) (ds_one (ds_if (dt_w (dw_or (dt_not (dt_val (de_callN G_is_step (hr.mono (by omega)) hx_of (da_cons (de_var 2) da_nil)))) (dw_or1 (dt_w (dw_and (dt_gt (de_var 1) de_int) (dw_and1 (dt_not (dt_val (de_callN G_does_rise (hr.mono (by omega)) hx_of (da_cons (de_sq (de_var 0) (de_sub (de_var 1) de_int)) (da_cons (de_var 2) da_nil))))))))))) (ds_one (ds_raise ER_InvalidSteps (hr.mono (by omega)) rfl (L2N.takes_of rfl rfl rfl rfl) (da_cons (de_var 1) da_nil))) ds_nil)))))))
abbrev s_does_go_on : Stmt := top 19
theorem sc_does_go_on : FnScope ["step", "elder", "newer"] ["step", "elder", "newer"] (defScope s_does_go_on) := ⟨rfl, rfl, rfl, by decide +kernel, rfl, by decide +kernel, by decide +kernel⟩
-- slots: 0 step, 1 elder, 2 newer
def b_does_go_on : DenS := (sRet (fAndV (fBin dEq (fBin dAdd (fBin dIx (fVar 0) (fC (.int 0))) (fBin dIx (fVar 0) (fC (.int 2)))) (fVar 1)) (fBin dEq (fBin dAdd (fBin dIx (fVar 0) (fC (.int 1))) (fBin dIx (fVar 0) (fC (.int 2)))) (fVar 2))))
def F_does_go_on : FD := clean (fnD 3 b_does_go_on)
theorem ok_does_go_on {f : Addr} {fd : FuncData} (hd : Hd K mg) (F : FnP K "does_go_on" "does_go_on" s_does_go_on f fd) : FnOkG P w K mg base (L2N.CX P w) 1 f fd ["step", "elder", "newer"] (spD K 3 F_does_go_on) :=
  FnOkG.clean (fn_def F sc_does_go_on fun cdv A outer s H E hr => (ds_one (ds_ret (de_and (de_eq hr (de_add (de_sq (de_var 0) de_int) (de_sq (de_var 0) de_int)) (de_var 1)) (de_one (de_eq hr (de_add (de_sq (de_var 0) de_int) (de_sq (de_var 0) de_int)) (de_var 2)))))))
abbrev s_one_form : Stmt := top 18
theorem sc_one_form : FnScope ["steps", "found", "elder", "newer", "length"] ["steps"] (defScope s_one_form) := ⟨rfl, rfl, rfl, by decide +kernel, rfl, by decide +kernel, by decide +kernel⟩
-- slots: 0 steps, 1 found, 2 elder, 3 newer, 4 length
def b_one_form_for : DenS := (sIf (fAnd (fT (fBin dNe (fVar 1) (fLst fNil))) (fT (fCall 3 F_does_go_on (fCons (fBin dIx (fVar 1) (fUn dNeg (fC (.int 1)))) (fCons (fVar 2) (fCons (fVar 3) fNil)))))) (sSetIx (fVar 1) (fUn dNeg (fC (.int 1))) (fTup (fCons (fBin dIx (fBin dIx (fVar 1) (fUn dNeg (fC (.int 1)))) (fC (.int 0))) (fCons (fBin dIx (fBin dIx (fVar 1) (fUn dNeg (fC (.int 1)))) (fC (.int 1))) (fCons (fBin dAdd (fBin dIx (fBin dIx (fVar 1) (fUn dNeg (fC (.int 1)))) (fC (.int 2))) (fVar 4)) fNil))))) (sExp (fMt chkL mAppend (fVar 1) (fCons (fTup (fCons (fVar 2) (fCons (fVar 3) (fCons (fVar 4) fNil)))) fNil))))
def b_one_form : DenS := (sSeq (sSet 1 (fLstC fNil)) (sSeq (sFor (fSeq (fVar 0)) (gT 3 (gCons (gN 2) (gCons (gN 3) (gCons (gN 4) gNil)))) b_one_form_for) (sRet (fCB dTuple (fCons (fVar 1) fNil)))))
def F_one_form : FD := clean (fnD 5 b_one_form)
theorem ok_one_form {f : Addr} {fd : FuncData} (hd : Hd K mg) (G_does_go_on : FnG P w K mg base "does_go_on" ["step", "elder", "newer"] 1 F_does_go_on) (F : FnP K "one_form" "one_form" s_one_form f fd) : FnOkG P w K mg base (L2N.CX P w) 2 f fd ["steps"] (spD K 1 F_one_form) :=
  FnOkG.clean (fn_def F sc_one_form fun cdv A outer s H E hr => (ds_cons (by exact (ds_set 1 sc_one_form.nd (de_lstC da_nil))) (by exact (ds_cons (by exact (ds_for hp_of rfl (di_seq (de_var 0)) (dg_t rfl (dgs_cons (dg_n 2 sc_one_form.nd) (dgs_cons (dg_n 3 sc_one_form.nd) (dgs_cons (dg_n 4 sc_one_form.nd) dgs_nil)))) (ds_one (ds_if (dt_w (dw_and (dt_ne hr (de_var 1) (de_lst da_nil)) (dw_and1 (dt_val (de_callN G_does_go_on (hr.mono (by omega)) hx_of (da_cons (de_sq (de_var 1) (de_neg de_int)) (da_cons (de_var 2) (da_cons (de_var 3) da_nil)))))))) (ds_one (ds_setix (de_tup (da_cons (de_sq (de_sq (de_var 1) (de_neg de_int)) de_int) (da_cons (de_sq (de_sq (de_var 1) (de_neg de_int)) de_int) (da_cons (de_add (de_sq (de_sq (de_var 1) (de_neg de_int)) de_int) (de_var 4)) da_nil)))) (de_var 1) (de_neg de_int))) (ds_one (ds_exp (de_append (de_var 1) (da_cons (de_tup (da_cons (de_var 2) (da_cons (de_var 3) (da_cons (de_var 4) da_nil)))) da_nil)))))))) (by exact (ds_one (ds_ret (de_callTy call_tuple_of cd_tuple hd.g_tuple bt_tuple (da_cons (de_var 1) da_nil)))))))))
abbrev s_clipped : Stmt := top 20
theorem sc_clipped : FnScope ["step", "first", "end", "elder", "newer", "length", "low", "high"] ["step", "first", "end"] (defScope s_clipped) := ⟨rfl, rfl, rfl, by decide +kernel, rfl, by decide +kernel, by decide +kernel⟩
-- slots: 0 step, 1 first, 2 end, 3 elder, 4 newer, 5 length, 6 low, 7 high
def b_clipped : DenS := (sSeq (sAsg (fVar 0) (gT 3 (gCons (gN 3) (gCons (gN 4) (gCons (gN 5) gNil))))) (sSeq (sPar [6, 7] (fCons (fCB dMax (fCons (fVar 3) (fCons (fVar 1) fNil))) (fCons (fCB dMin (fCons (fBin dAdd (fVar 3) (fVar 5)) (fCons (fVar 2) fNil))) fNil))) (sRet (fIf (fT (fBin dLt (fVar 6) (fVar 7))) (fLst (fCons (fTup (fCons (fVar 6) (fCons (fBin dSub (fBin dAdd (fVar 4) (fVar 6)) (fVar 3)) (fCons (fBin dSub (fVar 7) (fVar 6)) fNil)))) fNil)) (fLst fNil)))))
def F_clipped : FD := clean (fnD 8 b_clipped)
theorem ok_clipped {f : Addr} {fd : FuncData} (hd : Hd K mg) (F : FnP K "clipped" "clipped" s_clipped f fd) : FnOkG P w K mg base (L2N.CX P w) 1 f fd ["step", "first", "end"] (spD K 3 F_clipped) :=
  FnOkG.clean (fn_def F sc_clipped fun cdv A outer s H E hr => (ds_cons (by exact (ds_asg (de_var 0) (dg_t rfl (dgs_cons (dg_n 3 sc_clipped.nd) (dgs_cons (dg_n 4 sc_clipped.nd) (dgs_cons (dg_n 5 sc_clipped.nd) dgs_nil)))))) (by exact (ds_cons (by exact (ds_par2 6 7 rfl sc_clipped.nd (da_cons (de_callB (call_max2 rfl) cd_max hd.g_max bt_max (da_cons (de_var 3) (da_cons (de_var 1) da_nil))) (da_cons (de_callB (call_min2 rfl) cd_min hd.g_min bt_min (da_cons (de_add (de_var 3) (de_var 5)) (da_cons (de_var 2) da_nil))) da_nil)))) (by exact (ds_one (ds_ret (de_if (dt_lt (de_var 6) (de_var 7)) (de_lst (da_cons (de_tup (da_cons (de_var 6) (da_cons (de_sub (de_add (de_var 4) (de_var 6)) (de_var 3)) (da_cons (de_sub (de_var 7) (de_var 6)) da_nil)))) da_nil)) (de_lst da_nil)))))))))
abbrev s_joined_ranges : Stmt := top 13
theorem sc_joined_ranges : FnScope ["ranges", "found", "first", "end"] ["ranges"] (defScope s_joined_ranges) := ⟨rfl, rfl, rfl, by decide +kernel, rfl, by decide +kernel, by decide +kernel⟩
-- slots: 0 ranges, 1 found, 2 first, 3 end
def b_joined_ranges_for : DenS := (sIf (fAnd (fT (fBin dNe (fVar 1) (fLst fNil))) (fT (fBin dLe (fVar 2) (fBin dIx (fBin dIx (fVar 1) (fUn dNeg (fC (.int 1)))) (fC (.int 1)))))) (sSetIx (fVar 1) (fUn dNeg (fC (.int 1))) (fTup (fCons (fBin dIx (fBin dIx (fVar 1) (fUn dNeg (fC (.int 1)))) (fC (.int 0))) (fCons (fCB dMax (fCons (fBin dIx (fBin dIx (fVar 1) (fUn dNeg (fC (.int 1)))) (fC (.int 1))) (fCons (fVar 3) fNil))) fNil)))) (sExp (fMt chkL mAppend (fVar 1) (fCons (fTup (fCons (fVar 2) (fCons (fVar 3) fNil))) fNil))))
def b_joined_ranges : DenS := (sSeq (sSet 1 (fLstC fNil)) (sSeq (sFor (fSeq (fCB dSortP (fCons (fVar 0) fNil))) (gT 2 (gCons (gN 2) (gCons (gN 3) gNil))) b_joined_ranges_for) (sRet (fVar 1))))
def F_joined_ranges : FD := clean (fnD 4 b_joined_ranges)
theorem ok_joined_ranges {f : Addr} {fd : FuncData} (hd : Hd K mg) (F : FnP K "joined_ranges" "joined_ranges" s_joined_ranges f fd) : FnOkG P w K mg base (L2N.CX P w) 1 f fd ["ranges"] (spD K 1 F_joined_ranges) :=
  FnOkG.clean (fn_def F sc_joined_ranges fun cdv A outer s H E hr => (ds_cons (by exact (ds_set 1 sc_joined_ranges.nd (de_lstC da_nil))) (by exact (ds_cons (by exact (ds_for hp_of rfl (di_seq (de_callB cr_sortedPO cd_sortP hd.g_sorted bt_sorted (da_cons (de_var 0) da_nil))) (dg_t rfl (dgs_cons (dg_n 2 sc_joined_ranges.nd) (dgs_cons (dg_n 3 sc_joined_ranges.nd) dgs_nil))) (ds_one (ds_if (dt_w (dw_and (dt_ne hr (de_var 1) (de_lst da_nil)) (dw_and1 (dt_le (de_var 2) (de_sq (de_sq (de_var 1) (de_neg de_int)) de_int))))) (ds_one (ds_setix (de_tup (da_cons (de_sq (de_sq (de_var 1) (de_neg de_int)) de_int) (da_cons (de_callB (call_max2 rfl) cd_max hd.g_max bt_max (da_cons (de_sq (de_sq (de_var 1) (de_neg de_int)) de_int) (da_cons (de_var 3) da_nil))) da_nil))) (de_var 1) (de_neg de_int))) (ds_one (ds_exp (de_append (de_var 1) (da_cons (de_tup (da_cons (de_var 2) (da_cons (de_var 3) da_nil))) da_nil)))))))) (by exact (ds_one (ds_ret (de_var 1))))))))
abbrev s_RightStepsD_initD : Stmt := inClass (top 21) 0
theorem sc_RightStepsD_initD : FnScope ["self", "steps"] ["self", "steps"] (defScope s_RightStepsD_initD) := ⟨rfl, rfl, rfl, by decide +kernel, rfl, by decide +kernel, by decide +kernel⟩
-- slots: 0 self, 1 steps
def b_RightStepsD_initD : DenS := (sFldSet "RightSteps" "told_steps" (fVar 0) (fCall 1 F_one_form (fCons (fVar 1) fNil)))
def F_RightStepsD_initD : FD := clean (fnD 2 b_RightStepsD_initD)
theorem ok_RightStepsD_initD {f : Addr} {fd : FuncData} (hd : Hd K mg) (G_one_form : FnG P w K mg base "one_form" ["steps"] 2 F_one_form) (F : FnP K "__init__" "RightSteps.__init__" s_RightStepsD_initD f fd) : FnOkG P w K mg base (L2N.CX P w) 3 f fd ["self", "steps"] (spD K 2 F_RightStepsD_initD) :=
  FnOkG.clean (fn_def F sc_RightStepsD_initD fun cdv A outer s H E hr => (ds_one (ds_fld hd.c_RightSteps hd.n_RightSteps_told_steps (de_var 0) (de_callN G_one_form (hr.mono (by omega)) hx_of (da_cons (de_var 1) da_nil)))))
abbrev s_StairD_initD : Stmt := inClass (top 24) 1
theorem sc_StairD_initD : FnScope ["self", "steps"] ["self", "steps"] (defScope s_StairD_initD) := ⟨rfl, rfl, rfl, by decide +kernel, rfl, by decide +kernel, by decide +kernel⟩
-- slots: 0 self, 1 steps
def b_StairD_initD : DenS := (sIf (fT (fIs (isC CL "RightSteps") (fVar 1))) (sFldSet "Stair" "own_steps" (fVar 0) (fUn (dFld "RightSteps" "told_steps") (fVar 1))) (sSeq (sExp (fCall 1 F_want_steps (fCons (fVar 1) fNil))) (sSeq (sIf (fT (fBin dGt (fCB dLen (fCons (fVar 1) fNil)) (fC (.int 60)))) (sRaise "TooMany" ["what", "limit"] (fCons (fC (.str "steps")) (fCons (fC (.int 60)) fNil))) sSkip) (sFldSet "Stair" "own_steps" (fVar 0) (fCall 1 F_one_form (fCons (fVar 1) fNil))))))
def F_StairD_initD : FD := clean (fnD 2 b_StairD_initD)
theorem ok_StairD_initD {f : Addr} {fd : FuncData} (hd : Hd K mg) (G_want_steps : FnG P w K mg base "want_steps" ["steps"] 3 F_want_steps) (ER_TooMany : ErG P w K mg base "TooMany" ["what", "limit"] ["self", "what", "limit"] 1) (G_one_form : FnG P w K mg base "one_form" ["steps"] 2 F_one_form) (F : FnP K "__init__" "Stair.__init__" s_StairD_initD f fd) : FnOkG P w K mg base (L2N.CX P w) 4 f fd ["self", "steps"] (spD K 2 F_StairD_initD) :=
  FnOkG.clean (fn_def F sc_StairD_initD fun cdv A outer s H E hr => (ds_one (ds_if (dt_val (de_isC hd.isa (de_var 1) hd.g_isinstance hd.m_RightSteps (by decide))) (ds_one (ds_fld hd.c_Stair hd.n_Stair_own_steps (de_var 0) (de_fld hd.c_RightSteps hd.n_RightSteps_told_steps (de_var 1)))) (ds_cons (by exact (ds_exp (de_callN G_want_steps (hr.mono (by omega)) hx_of (da_cons (de_var 1) da_nil)))) (by exact (ds_cons (by exact (ds_if (dt_gt (de_callB call_len cd_len hd.g_len bt_len (da_cons (de_var 1) da_nil)) (de_cvalE hd.cv_Stair_MOST_STEPS hd.m_Stair)) (ds_one (ds_raise ER_TooMany (hr.mono (by omega)) rfl (L2N.takes_of rfl rfl rfl rfl) (da_cons de_str (da_cons (de_cvalE hd.cv_Stair_MOST_STEPS hd.m_Stair) da_nil)))) ds_nil)) (by exact (ds_one (ds_fld hd.c_Stair hd.n_Stair_own_steps (de_var 0) (de_callN G_one_form (hr.mono (by omega)) hx_of (da_cons (de_var 1) da_nil)))))))))))
abbrev s_stair_of : Stmt := top 22
theorem sc_stair_of : FnScope ["steps"] ["steps"] (defScope s_stair_of) := ⟨rfl, rfl, rfl, by decide +kernel, rfl, by decide +kernel, by decide +kernel⟩
-- slots: 0 steps
def b_stair_of : DenS := (sRet (fMake "Stair" 2 F_StairD_initD (fCons (fMake "RightSteps" 2 F_RightStepsD_initD (fCons (fVar 0) fNil)) fNil)))
def F_stair_of : FD := clean (fnD 1 b_stair_of)
theorem ok_stair_of {f : Addr} {fd : FuncData} (hd : Hd K mg) (K_RightSteps : MkG P w K mg base "RightSteps" ["self", "steps"] 3 F_RightStepsD_initD) (K_Stair : MkG P w K mg base "Stair" ["self", "steps"] 4 F_StairD_initD) (F : FnP K "stair_of" "stair_of" s_stair_of f fd) : FnOkG P w K mg base (L2N.CX P w) 6 f fd ["steps"] (spD K 1 F_stair_of) :=
  FnOkG.clean (fn_def F sc_stair_of fun cdv A outer s H E hr => (ds_one (ds_ret (de_makeN K_Stair (hr.mono (by omega)) hx_of (da_cons (de_makeN K_RightSteps (hr.mono (by omega)) hx_of (da_cons (de_var 0) da_nil)) da_nil)))))
abbrev s_Stair_stay : Stmt := inClass (top 24) 2
theorem sc_Stair_stay : FnScope ["cls", "first", "length"] ["cls", "first", "length"] (defScope s_Stair_stay) := ⟨rfl, rfl, rfl, by decide +kernel, rfl, by decide +kernel, by decide +kernel⟩
-- slots: 0 cls, 1 first, 2 length
def b_Stair_stay : DenS := (sSeq (sIf (fNot (fT (fCall 1 F_is_integer (fCons (fVar 1) fNil)))) (sRaise "InvalidMark" ["value"] (fCons (fVar 1) fNil)) sSkip) (sSeq (sIf (fOr (fNot (fT (fCall 1 F_is_integer (fCons (fVar 2) fNil)))) (fT (fBin dLt (fVar 2) (fC (.int 1))))) (sRaise "InvalidLength" ["value"] (fCons (fVar 2) fNil)) sSkip) (sRet (fMakeV 0 "Stair" 2 F_StairD_initD (fCons (fLst (fCons (fTup (fCons (fVar 1) (fCons (fVar 1) (fCons (fVar 2) fNil)))) fNil)) fNil)))))
def F_Stair_stay : FD := clean (fnD 3 b_Stair_stay)
theorem ok_Stair_stay {f : Addr} {fd : FuncData} (hd : Hd K mg) (G_is_integer : FnG P w K mg base "is_integer" ["value"] 1 F_is_integer) (ER_InvalidMark : ErG P w K mg base "InvalidMark" ["value"] ["self", "value"] 1) (ER_InvalidLength : ErG P w K mg base "InvalidLength" ["value"] ["self", "value"] 1) (K_Stair : MkG P w K mg base "Stair" ["self", "steps"] 4 F_StairD_initD) (F : FnP K "stay" "Stair.stay" s_Stair_stay f fd) : FnOkG P w K mg base (L2N.CX P w) 6 f fd ["cls", "first", "length"] (spD K 3 F_Stair_stay) :=
  FnOkG.clean (fn_def F sc_Stair_stay fun cdv A outer s H E hr => (ds_cons (by exact (ds_if (dt_not (dt_val (de_callN G_is_integer (hr.mono (by omega)) hx_of (da_cons (de_var 1) da_nil)))) (ds_one (ds_raise ER_InvalidMark (hr.mono (by omega)) rfl (L2N.takes_of rfl rfl rfl rfl) (da_cons (de_var 1) da_nil))) ds_nil)) (by exact (ds_cons (by exact (ds_if (dt_w (dw_or (dt_not (dt_val (de_callN G_is_integer (hr.mono (by omega)) hx_of (da_cons (de_var 2) da_nil)))) (dw_or1 (dt_lt (de_var 2) de_int)))) (ds_one (ds_raise ER_InvalidLength (hr.mono (by omega)) rfl (L2N.takes_of rfl rfl rfl rfl) (da_cons (de_var 2) da_nil))) ds_nil)) (by exact (ds_one (ds_ret (de_makeV 0 K_Stair (hr.mono (by omega)) hx_of (da_cons (de_lst (da_cons (de_tup (da_cons (de_var 1) (da_cons (de_var 1) (da_cons (de_var 2) da_nil)))) da_nil)) da_nil)))))))))
abbrev s_Stair_newer_of : Stmt := inClass (top 24) 6
theorem sc_Stair_newer_of : FnScope ["self", "mark", "elder", "newer", "length"] ["self", "mark"] (defScope s_Stair_newer_of) := ⟨rfl, rfl, rfl, by decide +kernel, rfl, by decide +kernel, by decide +kernel⟩
-- slots: 0 self, 1 mark, 2 elder, 3 newer, 4 length
def b_Stair_newer_of_for : DenS := (sIf (fT (fChain dLe dLt (fVar 2) (fVar 1) (fBin dAdd (fVar 2) (fVar 4)))) (sRet (fBin dSub (fBin dAdd (fVar 3) (fVar 1)) (fVar 2))) sSkip)
def b_Stair_newer_of : DenS := (sSeq (sFor (fSeq (fUn (dFld "Stair" "own_steps") (fVar 0))) (gT 3 (gCons (gN 2) (gCons (gN 3) (gCons (gN 4) gNil)))) b_Stair_newer_of_for) (sRet (fC .non)))
def F_Stair_newer_of : FD := clean (fnD 5 b_Stair_newer_of)
theorem ok_Stair_newer_of {f : Addr} {fd : FuncData} (hd : Hd K mg) (F : FnP K "newer_of" "Stair.newer_of" s_Stair_newer_of f fd) : FnOkG P w K mg base (L2N.CX P w) 1 f fd ["self", "mark"] (spD K 2 F_Stair_newer_of) :=
  FnOkG.clean (fn_def F sc_Stair_newer_of fun cdv A outer s H E hr => (ds_cons (by exact (ds_for hp_of rfl (di_seq (de_fld hd.c_Stair hd.n_Stair_own_steps (de_var 0))) (dg_t rfl (dgs_cons (dg_n 2 sc_Stair_newer_of.nd) (dgs_cons (dg_n 3 sc_Stair_newer_of.nd) (dgs_cons (dg_n 4 sc_Stair_newer_of.nd) dgs_nil)))) (ds_one (ds_if (dt_leLt (de_var 2) (de_var 1) (de_add (de_var 2) (de_var 4))) (ds_one (ds_ret (de_sub (de_add (de_var 3) (de_var 1)) (de_var 2)))) ds_nil)))) (by exact (ds_one (ds_ret de_non)))))
abbrev s_StairD_callD : Stmt := inClass (top 24) 7
theorem sc_StairD_callD : FnScope ["self", "mark"] ["self", "mark"] (defScope s_StairD_callD) := ⟨rfl, rfl, rfl, by decide +kernel, rfl, by decide +kernel, by decide +kernel⟩
-- slots: 0 self, 1 mark
def b_StairD_callD : DenS := (sSeq (sIf (fNot (fT (fCall 1 F_is_integer (fCons (fVar 1) fNil)))) (sRaise "InvalidMark" ["value"] (fCons (fVar 1) fNil)) sSkip) (sRet (fMeth "Stair" "newer_of" 2 F_Stair_newer_of (fVar 0) (fCons (fVar 1) fNil))))
def F_StairD_callD : FD := clean (fnD 2 b_StairD_callD)
theorem ok_StairD_callD {f : Addr} {fd : FuncData} (hd : Hd K mg) (G_is_integer : FnG P w K mg base "is_integer" ["value"] 1 F_is_integer) (ER_InvalidMark : ErG P w K mg base "InvalidMark" ["value"] ["self", "value"] 1) (M_Stair_newer_of : MtG P w K mg base "Stair" "newer_of" ["self", "mark"] 1 F_Stair_newer_of) (F : FnP K "__call__" "Stair.__call__" s_StairD_callD f fd) : FnOkG P w K mg base (L2N.CX P w) 3 f fd ["self", "mark"] (spD K 2 F_StairD_callD) :=
  FnOkG.clean (fn_def F sc_StairD_callD fun cdv A outer s H E hr => (ds_cons (by exact (ds_if (dt_not (dt_val (de_callN G_is_integer (hr.mono (by omega)) hx_of (da_cons (de_var 1) da_nil)))) (ds_one (ds_raise ER_InvalidMark (hr.mono (by omega)) rfl (L2N.takes_of rfl rfl rfl rfl) (da_cons (de_var 1) da_nil))) ds_nil)) (by exact (ds_one (ds_ret (de_methN hd.c_Stair M_Stair_newer_of (hr.mono (by omega)) hx_of (de_var 0) (da_cons (de_var 1) da_nil)))))))
abbrev s_Stair_limited : Stmt := inClass (top 24) 13
theorem sc_Stair_limited : FnScope ["self", "first", "end", "found", "step"] ["self", "first", "end"] (defScope s_Stair_limited) := ⟨rfl, rfl, rfl, by decide +kernel, rfl, by decide +kernel, by decide +kernel⟩
-- slots: 0 self, 1 first, 2 end, 3 found, 4 step
def b_Stair_limited_for : DenS := (sExp (fMt chkL mExtend (fVar 3) (fCons (fCall 3 F_clipped (fCons (fVar 4) (fCons (fVar 1) (fCons (fVar 2) fNil)))) fNil)))
def b_Stair_limited : DenS := (sSeq (sExp (fCall 2 F_want_range (fCons (fVar 1) (fCons (fVar 2) fNil)))) (sSeq (sSet 3 (fLstC fNil)) (sSeq (sFor (fSeq (fUn (dFld "Stair" "own_steps") (fVar 0))) (gN 4) b_Stair_limited_for) (sSeq (sThaw 3) (sRet (fCall 1 F_stair_of (fCons (fVar 3) fNil)))))))
def F_Stair_limited : FD := clean (fnD 5 b_Stair_limited)
theorem ok_Stair_limited {f : Addr} {fd : FuncData} (hd : Hd K mg) (G_want_range : FnG P w K mg base "want_range" ["first", "end"] 3 F_want_range) (G_clipped : FnG P w K mg base "clipped" ["step", "first", "end"] 1 F_clipped) (G_stair_of : FnG P w K mg base "stair_of" ["steps"] 6 F_stair_of) (F : FnP K "limited" "Stair.limited" s_Stair_limited f fd) : FnOkG P w K mg base (L2N.CX P w) 7 f fd ["self", "first", "end"] (spD K 3 F_Stair_limited) :=
  FnOkG.clean (fn_def F sc_Stair_limited fun cdv A outer s H E hr => (ds_cons (by exact (ds_exp (de_callN G_want_range (hr.mono (by omega)) hx_of (da_cons (de_var 1) (da_cons (de_var 2) da_nil))))) (by exact (ds_cons (by exact (ds_set 3 sc_Stair_limited.nd (de_lstC da_nil))) (by exact (ds_cons (by exact (ds_for hp_of rfl (di_seq (de_fld hd.c_Stair hd.n_Stair_own_steps (de_var 0))) (dg_n 4 sc_Stair_limited.nd) (ds_one (ds_exp (de_extend (de_var 3) (da_cons (de_callN G_clipped (hr.mono (by omega)) hx_of (da_cons (de_var 4) (da_cons (de_var 1) (da_cons (de_var 2) da_nil)))) da_nil)))))) (by exact (ds_one (ds_thaw 3 (ds_ret (de_callN G_stair_of (hr.mono (by omega)) hx_of (da_cons (de_var 3) da_nil))))))))))))
abbrev s_Stair_ranges : Stmt := inClass (top 24) 14
theorem sc_Stair_ranges : FnScope ["self", "first", "end", "some", "elder", "newer", "length"] ["self", "first", "end"] (defScope s_Stair_ranges) := ⟨rfl, rfl, rfl, by decide +kernel, rfl, by decide +kernel, by decide +kernel⟩
-- slots: 0 self, 1 first, 2 end, 3 some, 4 elder, 5 newer, 6 length
def b_Stair_ranges : DenS := (sSeq (sSet 3 (fMeth "Stair" "limited" 3 F_Stair_limited (fVar 0) (fCons (fVar 1) (fCons (fVar 2) fNil)))) (sRet (fCall 1 F_joined_ranges (fCons (fLc (fSeq (fUn (dFld "Stair" "own_steps") (fVar 3))) (.tp [4, 5, 6]) (fC true) (fTup (fCons (fVar 5) (fCons (fBin dAdd (fVar 5) (fVar 6)) fNil))) [4, 5, 6]) fNil))))
def F_Stair_ranges : FD := clean (fnD 7 b_Stair_ranges)
theorem ok_Stair_ranges {f : Addr} {fd : FuncData} (hd : Hd K mg) (M_Stair_limited : MtG P w K mg base "Stair" "limited" ["self", "first", "end"] 7 F_Stair_limited) (G_joined_ranges : FnG P w K mg base "joined_ranges" ["ranges"] 1 F_joined_ranges) (F : FnP K "ranges" "Stair.ranges" s_Stair_ranges f fd) : FnOkG P w K mg base (L2N.CX P w) 8 f fd ["self", "first", "end"] (spD K 3 F_Stair_ranges) :=
  FnOkG.clean (fn_def F sc_Stair_ranges fun cdv A outer s H E hr => (ds_cons (by exact (ds_set 3 sc_Stair_ranges.nd (de_methN hd.c_Stair M_Stair_limited (hr.mono (by omega)) hx_of (de_var 0) (da_cons (de_var 1) (da_cons (de_var 2) da_nil))))) (by exact (ds_one (ds_ret (de_callN G_joined_ranges (hr.mono (by omega)) hx_of (da_cons (de_lc (own := [("elder", 4), ("newer", 5), ("length", 6)]) (t := (.tp [4, 5, 6])) (ft := (fC true)) (fe := (fTup (fCons (fVar 5) (fCons (fBin dAdd (fVar 5) (fVar 6)) fNil)))) rfl sc_Stair_ranges.nd (di_seq (de_fld hd.c_Stair hd.n_Stair_own_steps (de_var 3))) (blkOk_by rfl) (by decide) (by exact fun _ _ _ _ _ => (pg_tp rfl (pgs_n1 4 sc_Stair_ranges.nd (pgs_n1 5 sc_Stair_ranges.nd (pgs_n1 6 sc_Stair_ranges.nd pgs_n0))))) (by exact fun _ _ _ _ _ => dts_nil) (by exact fun _ _ _ _ _ => (de_tup (da_cons (de_var 5) (da_cons (de_add (de_var 5) (de_var 6)) da_nil))))) da_nil)))))))
abbrev s_Stair_cut_in : Stmt := inClass (top 24) 15
theorem sc_Stair_cut_in : FnScope ["self", "first", "end", "found", "here", "elder", "newer", "length"] ["self", "first", "end"] (defScope s_Stair_cut_in) := ⟨rfl, rfl, rfl, by decide +kernel, rfl, by decide +kernel, by decide +kernel⟩
-- slots: 0 self, 1 first, 2 end, 3 found, 4 here, 5 elder, 6 newer, 7 length
def b_Stair_cut_in_for : DenS := (sSeq (sIf (fT (fBin dLt (fVar 4) (fVar 5))) (sExp (fMt chkL mAppend (fVar 3) (fCons (fTup (fCons (fVar 4) (fCons (fVar 5) fNil))) fNil))) sSkip) (sSet 4 (fBin dAdd (fVar 5) (fVar 7))))
def b_Stair_cut_in : DenS := (sSeq (sPar [3, 4] (fCons (fLstC fNil) (fCons (fVar 1) fNil))) (sSeq (sFor (fSeq (fUn (dFld "Stair" "own_steps") (fMeth "Stair" "limited" 3 F_Stair_limited (fVar 0) (fCons (fVar 1) (fCons (fVar 2) fNil))))) (gT 3 (gCons (gN 5) (gCons (gN 6) (gCons (gN 7) gNil)))) b_Stair_cut_in_for) (sRet (fBin dAdd (fVar 3) (fIf (fT (fBin dLt (fVar 4) (fVar 2))) (fLst (fCons (fTup (fCons (fVar 4) (fCons (fVar 2) fNil))) fNil)) (fLst fNil))))))
def F_Stair_cut_in : FD := clean (fnD 8 b_Stair_cut_in)
theorem ok_Stair_cut_in {f : Addr} {fd : FuncData} (hd : Hd K mg) (M_Stair_limited : MtG P w K mg base "Stair" "limited" ["self", "first", "end"] 7 F_Stair_limited) (F : FnP K "cut_in" "Stair.cut_in" s_Stair_cut_in f fd) : FnOkG P w K mg base (L2N.CX P w) 8 f fd ["self", "first", "end"] (spD K 3 F_Stair_cut_in) :=
  FnOkG.clean (fn_def F sc_Stair_cut_in fun cdv A outer s H E hr => (ds_cons (by exact (ds_par2 3 4 rfl sc_Stair_cut_in.nd (da_cons (de_lstC da_nil) (da_cons (de_var 1) da_nil)))) (by exact (ds_cons (by exact (ds_for hp_of rfl (di_seq (de_fld hd.c_Stair hd.n_Stair_own_steps (de_methN hd.c_Stair M_Stair_limited (hr.mono (by omega)) hx_of (de_var 0) (da_cons (de_var 1) (da_cons (de_var 2) da_nil))))) (dg_t rfl (dgs_cons (dg_n 5 sc_Stair_cut_in.nd) (dgs_cons (dg_n 6 sc_Stair_cut_in.nd) (dgs_cons (dg_n 7 sc_Stair_cut_in.nd) dgs_nil)))) (ds_cons (by exact (ds_if (dt_lt (de_var 4) (de_var 5)) (ds_one (ds_exp (de_append (de_var 3) (da_cons (de_tup (da_cons (de_var 4) (da_cons (de_var 5) da_nil))) da_nil)))) ds_nil)) (by exact (ds_one (ds_set 4 sc_Stair_cut_in.nd (de_add (de_var 5) (de_var 7)))))))) (by exact (ds_one (ds_ret (de_add (de_var 3) (de_if (dt_lt (de_var 4) (de_var 2)) (de_lst (da_cons (de_tup (da_cons (de_var 4) (da_cons (de_var 2) da_nil))) da_nil)) (de_lst da_nil))))))))))
abbrev s_law_pot : Stmt := top 26
theorem sc_law_pot : FnScope ["_law_script", "_law_k", "_law_cell"] ["_law_script", "_law_k"] (defScope s_law_pot) := ⟨rfl, rfl, rfl, by decide +kernel, rfl, by decide +kernel, by decide +kernel⟩
-- slots: 0 _law_script, 1 _law_k, 2 _law_cell
def b_law_pot : DenS := (sSeq (sSet 2 (fBin dAdd (fBin dMul (fC (.int 71)) (fVar 1)) (fC (.int 37)))) (sSeq (sIf (fT (fBin dLt (fVar 1) (fCB dLen (fCons (fVar 0) fNil)))) (sSet 2 (fCB dAbs (fCons (fBin dIx (fVar 0) (fVar 1)) fNil))) sSkip) (sRet (fLstC (fCons (fCB dMax (fCons (fC (.int 0)) (fCons (fBin dSub (fVar 2) (fBin dPow (fC (.int 10)) (fC (.int 18)))) fNil))) (fCons (fBin dAdd (fBin dMod (fBin dMul (fCB dInt (fCons (fBin dAdd (fBin dMod (fCB dInt (fCons (fVar 2) fNil)) (fC (.int 2147483549))) (fC (.int 7))) fNil)) (fBin dPow (fBin dAdd (fBin dMul (fC (.int 2)) (fVar 1)) (fC (.int 3))) (fC (.int 3)))) (fC (.int 2147483477))) (fC (.int 1))) fNil))))))
def F_law_pot : FD := (fnD 3 b_law_pot)
theorem ok_law_pot {f : Addr} {fd : FuncData} (hd : Hd K mg) (F : FnP K "_law_pot" "_law_pot" s_law_pot f fd) : FnOkG P w K mg base (L2N.CX P w) 1 f fd ["_law_script", "_law_k"] (spD K 2 F_law_pot) :=
  (fn_def F sc_law_pot fun cdv A outer s H E hr => (ds_cons (by exact (ds_set 2 sc_law_pot.nd (de_add (de_mul de_int (de_var 1)) de_int))) (by exact (ds_cons (by exact (ds_if (dt_lt (de_var 1) (de_callB call_len cd_len hd.g_len bt_len (da_cons (de_var 0) da_nil))) (ds_one (ds_set 2 sc_law_pot.nd (de_callB call_abs cd_abs hd.g_abs bt_abs (da_cons (de_sq (de_var 0) (de_var 1)) da_nil)))) ds_nil)) (by exact (ds_one (ds_ret (de_lstC (da_cons (de_callB (call_max2 rfl) cd_max hd.g_max bt_max (da_cons de_int (da_cons (de_sub (de_var 2) (de_pow de_int de_int)) da_nil))) (da_cons (de_add (de_mod (de_mul (de_callTy call_int1 cd_int hd.g_int bt_int (da_cons (de_add (de_mod (de_callTy call_int1 cd_int hd.g_int bt_int (da_cons (de_var 2) da_nil)) de_int) de_int) da_nil)) (de_pow (de_add (de_mul de_int (de_var 1)) de_int) de_int)) de_int) de_int) da_nil))))))))))
abbrev s_law_draw : Stmt := top 27
theorem sc_law_draw : FnScope ["_law_pot_here", "_law_size", "_law_digit"] ["_law_pot_here", "_law_size"] (defScope s_law_draw) := ⟨rfl, rfl, rfl, by decide +kernel, rfl, by decide +kernel, by decide +kernel⟩
-- slots: 0 _law_pot_here, 1 _law_size, 2 _law_digit
def b_law_draw : DenS := (sSeq (sIf (fT (fBin dGt (fBin dIx (fVar 0) (fC (.int 0))) (fC (.int 0)))) (sSeq (sSetPair (fVar 0) (fC (.int 0)) 2 (fCB dDivmod (fCons (fBin dIx (fVar 0) (fC (.int 0))) (fCons (fVar 1) fNil)))) (sRet (fVar 2))) sSkip) (sSeq (sSetIx (fVar 0) (fC (.int 1)) (fBin dMod (fCB dInt (fCons (fBin dAdd (fBin dMul (fBin dIx (fVar 0) (fC (.int 1))) (fC (.int 48271))) (fC (.int 14009))) fNil)) (fC (.int 2147483587)))) (sRet (fBin dMod (fCB dInt (fCons (fBin dFdiv (fBin dMod (fCB dInt (fCons (fBin dMul (fBin dIx (fVar 0) (fC (.int 1))) (fBin dIx (fVar 0) (fC (.int 1)))) fNil)) (fC (.int 2147483549))) (fC (.int 13))) fNil)) (fVar 1)))))
def F_law_draw : FD := clean (fnD 3 b_law_draw)
theorem ok_law_draw {f : Addr} {fd : FuncData} (hd : Hd K mg) (F : FnP K "_law_draw" "_law_draw" s_law_draw f fd) : FnOkG P w K mg base (L2N.CX P w) 1 f fd ["_law_pot_here", "_law_size"] (spD K 2 F_law_draw) :=
  FnOkG.clean (fn_def F sc_law_draw fun cdv A outer s H E hr => (ds_cons (by exact (ds_if (dt_gt (de_sq (de_var 0) de_int) de_int) (ds_cons (by exact (ds_setpair 2 rfl sc_law_draw.nd (de_callB call_divmod cd_divmod hd.g_divmod bt_divmod (da_cons (de_sq (de_var 0) de_int) (da_cons (de_var 1) da_nil))) (de_var 0) de_int)) (by exact (ds_one (ds_ret (de_var 2))))) ds_nil)) (by exact (ds_cons (by exact (ds_setix (de_mod (de_callTy call_int1 cd_int hd.g_int bt_int (da_cons (de_add (de_mul (de_sq (de_var 0) de_int) de_int) de_int) da_nil)) de_int) (de_var 0) de_int)) (by exact (ds_one (ds_ret (de_mod (de_callTy call_int1 cd_int hd.g_int bt_int (da_cons (de_fdiv (de_mod (de_callTy call_int1 cd_int hd.g_int bt_int (da_cons (de_mul (de_sq (de_var 0) de_int) (de_sq (de_var 0) de_int)) da_nil)) de_int) de_int) da_nil)) (de_var 1)))))))))
abbrev s_law_pick : Stmt := top 28
theorem sc_law_pick : FnScope ["_law_pot_here", "_law_some"] ["_law_pot_here", "_law_some"] (defScope s_law_pick) := ⟨rfl, rfl, rfl, by decide +kernel, rfl, by decide +kernel, by decide +kernel⟩
-- slots: 0 _law_pot_here, 1 _law_some
def b_law_pick : DenS := (sRet (fBin dIx (fVar 1) (fCall 2 F_law_draw (fCons (fVar 0) (fCons (fCB dLen (fCons (fVar 1) fNil)) fNil)))))
def F_law_pick : FD := clean (fnD 2 b_law_pick)
theorem ok_law_pick {f : Addr} {fd : FuncData} (hd : Hd K mg) (G_law_draw : FnG P w K mg base "_law_draw" ["_law_pot_here", "_law_size"] 1 F_law_draw) (F : FnP K "_law_pick" "_law_pick" s_law_pick f fd) : FnOkG P w K mg base (L2N.CX P w) 2 f fd ["_law_pot_here", "_law_some"] (spD K 2 F_law_pick) :=
  FnOkG.clean (fn_def F sc_law_pick fun cdv A outer s H E hr => (ds_one (ds_ret (de_sq (de_var 1) (de_callN G_law_draw (hr.mono (by omega)) hx_of (da_cons (de_var 0) (da_cons (de_callB call_len cd_len hd.g_len bt_len (da_cons (de_var 1) da_nil)) da_nil)))))))
abbrev s_law_steps : Stmt := top 29
theorem sc_law_steps : FnScope ["_law_pot_here", "_law_most", "_law_elder", "_law_newer", "_law_found", "_law_turn", "_law_size"] ["_law_pot_here", "_law_most"] (defScope s_law_steps) := ⟨rfl, rfl, rfl, by decide +kernel, rfl, by decide +kernel, by decide +kernel⟩
-- slots: 0 _law_pot_here, 1 _law_most, 2 _law_elder, 3 _law_newer, 4 _law_found, 5 _law_turn, 6 _law_size
def b_law_steps_for : DenS := (sSeq (sSet 6 (fBin dAdd (fC (.int 1)) (fCall 2 F_law_draw (fCons (fVar 0) (fCons (fC (.int 4)) fNil))))) (sSeq (sExp (fMt chkL mAppend (fVar 4) (fCons (fTup (fCons (fVar 2) (fCons (fVar 3) (fCons (fVar 6) fNil)))) fNil))) (sSeq (sSet 2 (fBin dAdd (fBin dAdd (fVar 2) (fVar 6)) (fBin dIx (fLst (fCons (fC (.int 0)) (fCons (fC (.int 0)) (fCons (fC (.int 1)) (fCons (fC (.int 3)) fNil))))) (fCall 2 F_law_draw (fCons (fVar 0) (fCons (fC (.int 4)) fNil)))))) (sSet 3 (fBin dAdd (fBin dAdd (fVar 3) (fVar 6)) (fBin dIx (fLst (fCons (fC (.int 0)) (fCons (fC (.int 0)) (fCons (fC (.int 1)) (fCons (fC (.int 2)) fNil))))) (fCall 2 F_law_draw (fCons (fVar 0) (fCons (fC (.int 4)) fNil)))))))))
def b_law_steps : DenS := (sSeq (sPar [2, 3, 4] (fCons (fBin dSub (fCall 2 F_law_draw (fCons (fVar 0) (fCons (fC (.int 9)) fNil))) (fC (.int 4))) (fCons (fBin dSub (fCall 2 F_law_draw (fCons (fVar 0) (fCons (fC (.int 9)) fNil))) (fC (.int 4))) (fCons (fLstC fNil) fNil)))) (sSeq (sFor (fRange1 (fCons (fCall 2 F_law_draw (fCons (fVar 0) (fCons (fBin dAdd (fVar 1) (fC (.int 1))) fNil))) fNil)) (gN 5) b_law_steps_for) (sRet (fVar 4))))
def F_law_steps : FD := clean (fnD 7 b_law_steps)
theorem ok_law_steps {f : Addr} {fd : FuncData} (hd : Hd K mg) (G_law_draw : FnG P w K mg base "_law_draw" ["_law_pot_here", "_law_size"] 1 F_law_draw) (F : FnP K "_law_steps" "_law_steps" s_law_steps f fd) : FnOkG P w K mg base (L2N.CX P w) 2 f fd ["_law_pot_here", "_law_most"] (spD K 2 F_law_steps) :=
  FnOkG.clean (fn_def F sc_law_steps fun cdv A outer s H E hr => (ds_cons (by exact (ds_par3 2 3 4 rfl sc_law_steps.nd (da_cons (de_sub (de_callN G_law_draw (hr.mono (by omega)) hx_of (da_cons (de_var 0) (da_cons de_int da_nil))) de_int) (da_cons (de_sub (de_callN G_law_draw (hr.mono (by omega)) hx_of (da_cons (de_var 0) (da_cons de_int da_nil))) de_int) (da_cons (de_lstC da_nil) da_nil))))) (by exact (ds_cons (by exact (ds_for hp_of rfl (di_range1 (da_cons (de_callN G_law_draw (hr.mono (by omega)) hx_of (da_cons (de_var 0) (da_cons (de_add (de_var 1) de_int) da_nil))) da_nil) hd.g_range) (dg_n 5 sc_law_steps.nd) (ds_cons (by exact (ds_set 6 sc_law_steps.nd (de_add de_int (de_callN G_law_draw (hr.mono (by omega)) hx_of (da_cons (de_var 0) (da_cons de_int da_nil)))))) (by exact (ds_cons (by exact (ds_exp (de_append (de_var 4) (da_cons (de_tup (da_cons (de_var 2) (da_cons (de_var 3) (da_cons (de_var 6) da_nil)))) da_nil)))) (by exact (ds_cons (by exact (ds_set 2 sc_law_steps.nd (de_add (de_add (de_var 2) (de_var 6)) (de_sq (de_lst (da_cons de_int (da_cons de_int (da_cons de_int (da_cons de_int da_nil))))) (de_callN G_law_draw (hr.mono (by omega)) hx_of (da_cons (de_var 0) (da_cons de_int da_nil))))))) (by exact (ds_one (ds_set 3 sc_law_steps.nd (de_add (de_add (de_var 3) (de_var 6)) (de_sq (de_lst (da_cons de_int (da_cons de_int (da_cons de_int (da_cons de_int da_nil))))) (de_callN G_law_draw (hr.mono (by omega)) hx_of (da_cons (de_var 0) (da_cons de_int da_nil))))))))))))))) (by exact (ds_one (ds_ret (de_var 4))))))))
abbrev s_law_told : Stmt := top 30
theorem sc_law_told : FnScope ["_law_deed", "_law_heard", "e"] ["_law_deed"] (defScope s_law_told) := ⟨rfl, rfl, rfl, by decide +kernel, rfl, by decide +kernel, by decide +kernel⟩
-- slots: 0 _law_deed, 1 _law_heard, 2 e
def b_law_told (c : D) (th : Thk) : DenS := (sSeq (sSet 1 (fLst (fCons (fC (.str "told")) fNil))) (sSeq (sTryM 2 (sExp (fAct 0 c th)) (([("InvalidSteps", true), ("InvalidMark", false), ("InvalidLength", false), ("InvalidRange", false), ("TooMany", false)], (fun x => sSet 1 ((fun x => fLst (fCons ((fun _ => (fC (.str "steps"))) x) (fCons ((fun x => fCB dReprX (fCons ((fun x => fXf "InvalidSteps" "position" x) x) fNil)) x) (fCons ((fun x => fAndV ((fun x => fXis [("InvalidSteps", true)] x) x) ((fun x => fXis [("InvalidSteps", true)] x) x)) x) fNil)))) x))) :: (([("InvalidMark", true), ("InvalidLength", false), ("InvalidRange", false), ("TooMany", false)], (fun x => sSet 1 ((fun x => fLst (fCons ((fun _ => (fC (.str "mark"))) x) (fCons ((fun x => fCB dReprX (fCons ((fun x => fXf "InvalidMark" "value" x) x) fNil)) x) (fCons ((fun x => fXis [("InvalidMark", true)] x) x) fNil)))) x))) :: (([("InvalidLength", true), ("InvalidRange", false), ("TooMany", false)], (fun x => sSet 1 ((fun x => fLst (fCons ((fun _ => (fC (.str "length"))) x) (fCons ((fun x => fCB dReprX (fCons ((fun x => fXf "InvalidLength" "value" x) x) fNil)) x) (fCons ((fun x => fXis [("InvalidLength", true)] x) x) fNil)))) x))) :: (([("InvalidRange", true), ("TooMany", false)], (fun x => sSet 1 ((fun x => fLst (fCons ((fun _ => (fC (.str "range"))) x) (fCons ((fun x => fCB dReprX (fCons ((fun x => fXf "InvalidRange" "value" x) x) fNil)) x) (fCons ((fun x => fXis [("InvalidRange", true)] x) x) fNil)))) x))) :: (([("TooMany", true)], (fun x => sSet 1 ((fun x => fLst (fCons ((fun x => fXf "TooMany" "what" x) x) (fCons ((fun x => fCB dReprX (fCons ((fun x => fXf "TooMany" "limit" x) x) fNil)) x) (fCons ((fun x => fAndV ((fun x => fXis [("TooMany", true)] x) x) ((fun x => fXis [("TooMany", true)] x) x)) x) fNil)))) x))) :: [])))))) (sRet (fVar 1))))
def FH_law_told (c : D) (th : Thk) : Thk := clean (fnD 3 (b_law_told c th)) [c]
theorem ok_law_told (j : Nat) {f : Addr} {fd : FuncData} (hd : Hd K mg) (F : FnP K "_law_told" "_law_told" s_law_told f fd) (hm : mg "_law_told" = some (.ref f)) (hk : PySem.W.keepIn K (.ref f) = true) (hB : Binds K fd ["_law_deed"] []) : HearG P w K mg base "_law_told" j (j + 3) FH_law_told :=
  hear_def (k := j + 2) F sc_law_told hm hk hB fun c th cdv A outer s H E hr act => (ds_cons (by exact (ds_set 1 sc_law_told.nd (de_lst (da_cons de_str da_nil)))) (by exact (ds_cons (by exact (ds_tryM (i := 2) rfl rfl sc_law_told.nd rfl rfl (L2N.takes_of rfl rfl rfl rfl) (fun W pn xe tk _ => (ds_one (ds_exp (act _ _ _ _ _ _ _ _ _ _ (hr.mono (by omega)) (fun σ => L2N.passAt tk σ) rfl (.inl rfl) rfl rfl)))) (.cons ⟨rfl, by decide, .inl hd.m_InvalidSteps⟩ (fa_cons hd.xq_InvalidSteps_InvalidSteps (fa_cons hd.xq_InvalidMark_InvalidSteps (fa_cons hd.xq_InvalidLength_InvalidSteps (fa_cons hd.xq_InvalidRange_InvalidSteps (fa_cons hd.xq_TooMany_InvalidSteps fa_nil))))) (fun a oe cls d pn hz hf => dys_one (dy_set 1 sc_law_told.nd (by decide) (dey_lst (day_cons (dey_of de_str) (day_cons (dey_callB (call_reprSD hr hd.smf) cd_reprX hd.g_repr bt_repr (day_cons (dey_fld hd.xf_InvalidSteps hd.n_InvalidSteps_position hz hf rfl (.inl rfl) (by decide) (by decide) rfl) day_nil)) (day_cons (dey_and (dey_isa hd.g_isinstance hd.m_RoadError (fa_cons ⟨_, rfl, hd.xc_InvalidSteps, hd.xk_InvalidSteps_RoadError⟩ fa_nil) hz hf rfl (.inl rfl) (by decide) (by decide) rfl (by decide)) (dey_one (dey_isab hd.g_isinstance hd.g_ValueError rfl (by decide) (fa_cons ⟨_, rfl, hd.xc_InvalidSteps, hd.xt_InvalidSteps_ValueError⟩ fa_nil) hz hf rfl (.inl rfl) (by decide) (by decide) rfl (by decide)))) day_nil)))))) (.cons ⟨rfl, by decide, .inl hd.m_InvalidMark⟩ (fa_cons hd.xq_InvalidMark_InvalidMark (fa_cons hd.xq_InvalidLength_InvalidMark (fa_cons hd.xq_InvalidRange_InvalidMark (fa_cons hd.xq_TooMany_InvalidMark fa_nil)))) (fun a oe cls d pn hz hf => dys_one (dy_set 1 sc_law_told.nd (by decide) (dey_lst (day_cons (dey_of de_str) (day_cons (dey_callB (call_reprSD hr hd.smf) cd_reprX hd.g_repr bt_repr (day_cons (dey_fld hd.xf_InvalidMark hd.n_InvalidMark_value hz hf rfl (.inl rfl) (by decide) (by decide) rfl) day_nil)) (day_cons (dey_isa hd.g_isinstance hd.m_RoadError (fa_cons ⟨_, rfl, hd.xc_InvalidMark, hd.xk_InvalidMark_RoadError⟩ fa_nil) hz hf rfl (.inl rfl) (by decide) (by decide) rfl (by decide)) day_nil)))))) (.cons ⟨rfl, by decide, .inl hd.m_InvalidLength⟩ (fa_cons hd.xq_InvalidLength_InvalidLength (fa_cons hd.xq_InvalidRange_InvalidLength (fa_cons hd.xq_TooMany_InvalidLength fa_nil))) (fun a oe cls d pn hz hf => dys_one (dy_set 1 sc_law_told.nd (by decide) (dey_lst (day_cons (dey_of de_str) (day_cons (dey_callB (call_reprSD hr hd.smf) cd_reprX hd.g_repr bt_repr (day_cons (dey_fld hd.xf_InvalidLength hd.n_InvalidLength_value hz hf rfl (.inl rfl) (by decide) (by decide) rfl) day_nil)) (day_cons (dey_isa hd.g_isinstance hd.m_RoadError (fa_cons ⟨_, rfl, hd.xc_InvalidLength, hd.xk_InvalidLength_RoadError⟩ fa_nil) hz hf rfl (.inl rfl) (by decide) (by decide) rfl (by decide)) day_nil)))))) (.cons ⟨rfl, by decide, .inl hd.m_InvalidRange⟩ (fa_cons hd.xq_InvalidRange_InvalidRange (fa_cons hd.xq_TooMany_InvalidRange fa_nil)) (fun a oe cls d pn hz hf => dys_one (dy_set 1 sc_law_told.nd (by decide) (dey_lst (day_cons (dey_of de_str) (day_cons (dey_callB (call_reprSD hr hd.smf) cd_reprX hd.g_repr bt_repr (day_cons (dey_fld hd.xf_InvalidRange hd.n_InvalidRange_value hz hf rfl (.inl rfl) (by decide) (by decide) rfl) day_nil)) (day_cons (dey_isa hd.g_isinstance hd.m_RoadError (fa_cons ⟨_, rfl, hd.xc_InvalidRange, hd.xk_InvalidRange_RoadError⟩ fa_nil) hz hf rfl (.inl rfl) (by decide) (by decide) rfl (by decide)) day_nil)))))) (.cons ⟨rfl, by decide, .inl hd.m_TooMany⟩ (fa_cons hd.xq_TooMany_TooMany fa_nil) (fun a oe cls d pn hz hf => dys_one (dy_set 1 sc_law_told.nd (by decide) (dey_lst (day_cons (dey_fld hd.xf_TooMany hd.n_TooMany_what hz hf rfl (.inl rfl) (by decide) (by decide) rfl) (day_cons (dey_callB (call_reprSD hr hd.smf) cd_reprX hd.g_repr bt_repr (day_cons (dey_fld hd.xf_TooMany hd.n_TooMany_limit hz hf rfl (.inl rfl) (by decide) (by decide) rfl) day_nil)) (day_cons (dey_and (dey_isa hd.g_isinstance hd.m_LimitError (fa_cons ⟨_, rfl, hd.xc_TooMany, hd.xk_TooMany_LimitError⟩ fa_nil) hz hf rfl (.inl rfl) (by decide) (by decide) rfl (by decide)) (dey_one (dey_isab hd.g_isinstance hd.g_ArithmeticError rfl (by decide) (fa_cons ⟨_, rfl, hd.xc_TooMany, hd.xt_TooMany_ArithmeticError⟩ fa_nil) hz hf rfl (.inl rfl) (by decide) (by decide) rfl (by decide)))) day_nil)))))) .nil))))))) (by exact (ds_one (ds_ret (de_var 1)))))))
abbrev s_law_due : Stmt := top 31
theorem sc_law_due : FnScope ["_law_word", "_law_thing"] ["_law_word", "_law_thing"] (defScope s_law_due) := ⟨rfl, rfl, rfl, by decide +kernel, rfl, by decide +kernel, by decide +kernel⟩
-- slots: 0 _law_word, 1 _law_thing
def b_law_due : DenS := (sRet (fLst (fCons (fVar 0) (fCons (fCB dReprX (fCons (fVar 1) fNil)) (fCons (fC (.bl true)) fNil)))))
def F_law_due : FD := clean (fnD 2 b_law_due)
theorem ok_law_due {f : Addr} {fd : FuncData} (hd : Hd K mg) (F : FnP K "_law_due" "_law_due" s_law_due f fd) : FnOkG P w K mg base (L2N.CX P w) 1 f fd ["_law_word", "_law_thing"] (spD K 2 F_law_due) :=
  FnOkG.clean (fn_def F sc_law_due fun cdv A outer s H E hr => (ds_one (ds_ret (de_lst (da_cons (de_var 0) (da_cons (de_callB (call_reprX hr hd.smf) cd_reprX hd.g_repr bt_repr (da_cons (de_var 1) da_nil)) (da_cons de_bl da_nil)))))))
abbrev s_law_wrong : Stmt := top 32
theorem sc_law_wrong : FnScope ["_law_pot_here", "_law_rows", "_law_at", "_law_begin", "_law_end_now", "_law_behind", "_law_some"] ["_law_pot_here", "_law_rows"] (defScope s_law_wrong) := ⟨rfl, rfl, rfl, by decide +kernel, rfl, by decide +kernel, by decide +kernel⟩
-- slots: 0 _law_pot_here, 1 _law_rows, 2 _law_at, 3 _law_begin, 4 _law_end_now, 5 _law_behind, 6 _law_some
def b_law_wrong : DenS := (sSeq (sSet 2 (fCall 2 F_law_draw (fCons (fVar 0) (fCons (fBin dAdd (fCB dLen (fCons (fVar 1) fNil)) (fC (.int 1))) fNil)))) (sSeq (sPar [3, 4, 5] (fCons (fBin dIx (fBin dIx (fVar 1) (fC (.int 0))) (fC (.int 0))) (fCons (fBin dIx (fBin dIx (fVar 1) (fC (.int 0))) (fC (.int 1))) (fCons (fC (.int 0)) fNil)))) (sSeq (sIf (fT (fBin dGt (fVar 2) (fC (.int 0)))) (sSeq (sSet 3 (fBin dAdd (fBin dIx (fBin dIx (fVar 1) (fBin dSub (fVar 2) (fC (.int 1)))) (fC (.int 0))) (fBin dIx (fBin dIx (fVar 1) (fBin dSub (fVar 2) (fC (.int 1)))) (fC (.int 2))))) (sSet 4 (fBin dAdd (fBin dIx (fBin dIx (fVar 1) (fBin dSub (fVar 2) (fC (.int 1)))) (fC (.int 1))) (fBin dIx (fBin dIx (fVar 1) (fBin dSub (fVar 2) (fC (.int 1)))) (fC (.int 2)))))) sSkip) (sSeq (sSet 6 (fLst (fCons (fC .non) (fCons (fC (.int 5)) (fCons (fC (.str "abc")) (fCons (fLst fNil) (fCons (fTup fNil) (fCons (fTup (fCons (fVar 3) (fCons (fVar 4) fNil))) (fCons (fLst (fCons (fVar 3) (fCons (fVar 4) (fCons (fC (.int 1)) fNil)))) (fCons (fTup (fCons (fVar 3) (fCons (fVar 4) (fCons (fC (.int 0)) fNil)))) (fCons (fTup (fCons (fVar 3) (fCons (fVar 4) (fCons (fUn dNeg (fC (.int 1))) fNil)))) fNil))))))))))) (sSeq (sSet 6 (fBin dAdd (fVar 6) (fLst (fCons (fTup (fCons (fVar 3) (fCons (fVar 4) (fCons (fC (.bl true)) fNil)))) (fCons (fTup (fCons (fC (.bl true)) (fCons (fC (.int 1)) (fCons (fC (.int 1)) fNil)))) (fCons (fTup (fCons (fVar 3) (fCons (fC .non) (fCons (fC (.int 1)) fNil)))) (fCons (fTup (fCons (fVar 3) (fCons (fC (.str "1")) (fCons (fC (.int 1)) fNil)))) (fCons (fTup (fCons (fVar 3) (fCons (fVar 4) (fCons (fC (.int 1)) (fCons (fC (.int 1)) fNil))))) fNil)))))))) (sSeq (sSet 6 (fBin dAdd (fVar 6) (fLst (fCons (fTup (fCons (fVar 3) (fCons (fC (.bl true)) (fCons (fC (.int 1)) fNil)))) (fCons (fTup (fCons (fC (.bl true)) (fCons (fC (.bl true)) (fCons (fC (.int 1)) fNil)))) fNil))))) (sSeq (sIf (fT (fBin dGt (fVar 2) (fC (.int 0)))) (sSet 6 (fBin dAdd (fVar 6) (fBin dRepL (fLst (fCons (fTup (fCons (fBin dSub (fVar 3) (fC (.int 1))) (fCons (fVar 4) (fCons (fC (.int 1)) fNil)))) (fCons (fTup (fCons (fVar 3) (fCons (fBin dSub (fVar 4) (fC (.int 1))) (fCons (fC (.int 1)) fNil)))) (fCons (fTup (fCons (fBin dIx (fBin dIx (fVar 1) (fBin dSub (fVar 2) (fC (.int 1)))) (fC (.int 0))) (fCons (fBin dAdd (fVar 4) (fC (.int 5))) (fCons (fC (.int 9)) fNil)))) fNil)))) (fC (.int 3))))) sSkip) (sRet (fTup (fCons (fBin dAdd (fBin dAdd (fSl (fVar 1) fNo (fPt (fVar 2))) (fLst (fCons (fCall 2 F_law_pick (fCons (fVar 0) (fCons (fVar 6) fNil))) fNil))) (fSl (fVar 1) (fPt (fVar 2)) fNo)) (fCons (fVar 2) fNil)))))))))))
def F_law_wrong : FD := clean (fnD 7 b_law_wrong)
theorem ok_law_wrong {f : Addr} {fd : FuncData} (hd : Hd K mg) (G_law_draw : FnG P w K mg base "_law_draw" ["_law_pot_here", "_law_size"] 1 F_law_draw) (G_law_pick : FnG P w K mg base "_law_pick" ["_law_pot_here", "_law_some"] 2 F_law_pick) (F : FnP K "_law_wrong" "_law_wrong" s_law_wrong f fd) : FnOkG P w K mg base (L2N.CX P w) 3 f fd ["_law_pot_here", "_law_rows"] (spD K 2 F_law_wrong) :=
  FnOkG.clean (fn_def F sc_law_wrong fun cdv A outer s H E hr => (ds_cons (by exact (ds_set 2 sc_law_wrong.nd (de_callN G_law_draw (hr.mono (by omega)) hx_of (da_cons (de_var 0) (da_cons (de_add (de_callB call_len cd_len hd.g_len bt_len (da_cons (de_var 1) da_nil)) de_int) da_nil))))) (by exact (ds_cons (by exact (ds_par3 3 4 5 rfl sc_law_wrong.nd (da_cons (de_sq (de_sq (de_var 1) de_int) de_int) (da_cons (de_sq (de_sq (de_var 1) de_int) de_int) (da_cons de_int da_nil))))) (by exact (ds_cons (by exact (ds_if (dt_gt (de_var 2) de_int) (ds_cons (by exact (ds_set 3 sc_law_wrong.nd (de_add (de_sq (de_sq (de_var 1) (de_sub (de_var 2) de_int)) de_int) (de_sq (de_sq (de_var 1) (de_sub (de_var 2) de_int)) de_int)))) (by exact (ds_one (ds_set 4 sc_law_wrong.nd (de_add (de_sq (de_sq (de_var 1) (de_sub (de_var 2) de_int)) de_int) (de_sq (de_sq (de_var 1) (de_sub (de_var 2) de_int)) de_int)))))) ds_nil)) (by exact (ds_cons (by exact (ds_set 6 sc_law_wrong.nd (de_lst (da_cons de_non (da_cons de_int (da_cons de_str (da_cons (de_lst da_nil) (da_cons (de_tup da_nil) (da_cons (de_tup (da_cons (de_var 3) (da_cons (de_var 4) da_nil))) (da_cons (de_lst (da_cons (de_var 3) (da_cons (de_var 4) (da_cons de_int da_nil)))) (da_cons (de_tup (da_cons (de_var 3) (da_cons (de_var 4) (da_cons de_int da_nil)))) (da_cons (de_tup (da_cons (de_var 3) (da_cons (de_var 4) (da_cons (de_neg de_int) da_nil)))) da_nil)))))))))))) (by exact (ds_cons (by exact (ds_set 6 sc_law_wrong.nd (de_add (de_var 6) (de_lst (da_cons (de_tup (da_cons (de_var 3) (da_cons (de_var 4) (da_cons de_bl da_nil)))) (da_cons (de_tup (da_cons de_bl (da_cons de_int (da_cons de_int da_nil)))) (da_cons (de_tup (da_cons (de_var 3) (da_cons de_non (da_cons de_int da_nil)))) (da_cons (de_tup (da_cons (de_var 3) (da_cons de_str (da_cons de_int da_nil)))) (da_cons (de_tup (da_cons (de_var 3) (da_cons (de_var 4) (da_cons de_int (da_cons de_int da_nil))))) da_nil))))))))) (by exact (ds_cons (by exact (ds_set 6 sc_law_wrong.nd (de_add (de_var 6) (de_lst (da_cons (de_tup (da_cons (de_var 3) (da_cons de_bl (da_cons de_int da_nil)))) (da_cons (de_tup (da_cons de_bl (da_cons de_bl (da_cons de_int da_nil)))) da_nil)))))) (by exact (ds_cons (by exact (ds_if (dt_gt (de_var 2) de_int) (ds_one (ds_set 6 sc_law_wrong.nd (de_add (de_var 6) (de_repL (de_lst (da_cons (de_tup (da_cons (de_sub (de_var 3) de_int) (da_cons (de_var 4) (da_cons de_int da_nil)))) (da_cons (de_tup (da_cons (de_var 3) (da_cons (de_sub (de_var 4) de_int) (da_cons de_int da_nil)))) (da_cons (de_tup (da_cons (de_sq (de_sq (de_var 1) (de_sub (de_var 2) de_int)) de_int) (da_cons (de_add (de_var 4) de_int) (da_cons de_int da_nil)))) da_nil)))) de_int)))) ds_nil)) (by exact (ds_one (ds_ret (de_tup (da_cons (de_add (de_add (de_slice (de_var 1) do_no (do_pt (de_var 2))) (de_lst (da_cons (de_callN G_law_pick (hr.mono (by omega)) hx_of (da_cons (de_var 0) (da_cons (de_var 6) da_nil))) da_nil))) (de_slice (de_var 1) (do_pt (de_var 2)) do_no)) (da_cons (de_var 2) da_nil))))))))))))))))))))
abbrev s_law_steps_right : Stmt := top 33
theorem sc_law_steps_right : FnScope ["_law_pot_here", "_law_rows", "_law_bad", "_law_at", "_law_worse", "_law_odd", "_law_heard"] ["_law_pot_here"] (defScope s_law_steps_right) := ⟨rfl, rfl, rfl, by decide +kernel, rfl, by decide +kernel, by decide +kernel⟩
-- slots: 0 _law_pot_here, 1 _law_rows, 2 _law_bad, 3 _law_at, 4 _law_worse, 5 _law_odd, 6 _law_heard
def b_law_steps_right : DenS := (sSeq (sSet 1 (fBin dAdd (fCall 2 F_law_steps (fCons (fVar 0) (fCons (fC (.int 5)) fNil))) (fLst (fCons (fTup (fCons (fC (.int 90)) (fCons (fC (.int 80)) (fCons (fBin dAdd (fC (.int 1)) (fCall 2 F_law_draw (fCons (fVar 0) (fCons (fC (.int 3)) fNil)))) fNil)))) fNil)))) (sSeq (sAsg (fCall 2 F_law_wrong (fCons (fVar 0) (fCons (fVar 1) fNil))) (gT 2 (gCons (gN 2) (gCons (gN 3) gNil)))) (sSeq (sSet 4 (fBin dAdd (fVar 2) (fLst (fCons (fCall 2 F_law_pick (fCons (fVar 0) (fCons (fLst (fCons (fC .non) (fCons (fTup fNil) (fCons (fTup (fCons (fC (.int 0)) (fCons (fC (.int 0)) (fCons (fC (.int 0)) fNil)))) (fCons (fC (.str "x")) fNil))))) fNil))) fNil)))) (sSeq (sSet 5 (fCall 2 F_law_pick (fCons (fVar 0) (fCons (fLst (fCons (fC .non) (fCons (fC (.int 0)) (fCons (fC (.int 7)) (fCons (fC (.bl true)) (fCons (fC (.str "")) (fCons (fC (.str "abc")) (fCons (fC (.dct [])) (fCons (fDispT (fTup (fCons (fC (.int 0)) (fCons (fC (.int 0)) (fCons (fC (.int 1)) fNil)))) (fC (.int 1))) (fCons (fMake "Stair" 2 F_StairD_initD (fCons (fVar 1) fNil)) (fCons (fMake "Stair" 2 F_StairD_initD (fCons (fLst fNil) fNil)) fNil))))))))))) fNil)))) (sSeq (sSet 6 (fLstC (fCons (fHear FH_law_told (fMake "Stair" 2 F_StairD_initD (fCons (fVar 2) fNil))) fNil))) (sSeq (sExp (fMt chkL mAppend (fVar 6) (fCons (fHear FH_law_told (fMakeK "Stair" 2 1 [0] F_StairD_initD (fCons (fCB dTuple (fCons (fVar 4) fNil)) fNil))) fNil))) (sSeq (sExp (fMt chkL mAppend (fVar 6) (fCons (fHear FH_law_told (fMake "Stair" 2 F_StairD_initD (fCons (fVar 5) fNil))) fNil))) (sSeq (sExp (fMt chkL mAppend (fVar 6) (fCons (fHear FH_law_told (fMake "Stair" 2 F_StairD_initD (fCons (fVar 1) fNil))) fNil))) (sRet (fBin dEq (fVar 6) (fBin dAdd (fBin dRepL (fLst (fCons (fCall 2 F_law_due (fCons (fC (.str "steps")) (fCons (fVar 3) fNil))) fNil)) (fC (.int 2))) (fLst (fCons (fCall 2 F_law_due (fCons (fC (.str "steps")) (fCons (fC .non) fNil))) (fCons (fLst (fCons (fC (.str "told")) fNil)) fNil))))))))))))))
def F_law_steps_right : FD := clean (fnD 7 b_law_steps_right)
theorem ok_law_steps_right {f : Addr} {fd : FuncData} (hd : Hd K mg) (G_law_steps : FnG P w K mg base "_law_steps" ["_law_pot_here", "_law_most"] 2 F_law_steps) (G_law_draw : FnG P w K mg base "_law_draw" ["_law_pot_here", "_law_size"] 1 F_law_draw) (G_law_wrong : FnG P w K mg base "_law_wrong" ["_law_pot_here", "_law_rows"] 3 F_law_wrong) (G_law_pick : FnG P w K mg base "_law_pick" ["_law_pot_here", "_law_some"] 2 F_law_pick) (K_Stair : MkG P w K mg base "Stair" ["self", "steps"] 4 F_StairD_initD) (H_law_told : ∀ j, HearG P w K mg base "_law_told" j (j + 3) FH_law_told) (TL_law_steps_right : ∀ cd, fd.code = cd → LamG base K mg "_law_steps_right" cd) (KK_Stair_steps : MkK P w K mg base "Stair" ["self", "steps"] ["steps"] [0] 4 F_StairD_initD) (G_law_due : FnG P w K mg base "_law_due" ["_law_word", "_law_thing"] 1 F_law_due) (F : FnP K "_law_steps_right" "_law_steps_right" s_law_steps_right f fd) : FnOkG P w K mg base (L2N.CX P w) 10 f fd ["_law_pot_here"] (spD K 1 F_law_steps_right) :=
  FnOkG.clean (fn_defL F sc_law_steps_right fun cdv A outer s H E hc hr => (ds_cons (by exact (ds_set 1 sc_law_steps_right.nd (de_add (de_callN G_law_steps (hr.mono (by omega)) hx_of (da_cons (de_var 0) (da_cons de_int da_nil))) (de_lst (da_cons (de_tup (da_cons de_int (da_cons de_int (da_cons (de_add de_int (de_callN G_law_draw (hr.mono (by omega)) hx_of (da_cons (de_var 0) (da_cons de_int da_nil)))) da_nil)))) da_nil))))) (by exact (ds_cons (by exact (ds_asg (de_callN G_law_wrong (hr.mono (by omega)) hx_of (da_cons (de_var 0) (da_cons (de_var 1) da_nil))) (dg_t rfl (dgs_cons (dg_n 2 sc_law_steps_right.nd) (dgs_cons (dg_n 3 sc_law_steps_right.nd) dgs_nil))))) (by exact (ds_cons (by exact (ds_set 4 sc_law_steps_right.nd (de_add (de_var 2) (de_lst (da_cons (de_callN G_law_pick (hr.mono (by omega)) hx_of (da_cons (de_var 0) (da_cons (de_lst (da_cons de_non (da_cons (de_tup da_nil) (da_cons (de_tup (da_cons de_int (da_cons de_int (da_cons de_int da_nil)))) (da_cons de_str da_nil))))) da_nil))) da_nil))))) (by exact (ds_cons (by exact (ds_set 5 sc_law_steps_right.nd (de_callN G_law_pick (hr.mono (by omega)) hx_of (da_cons (de_var 0) (da_cons (de_lst (da_cons de_non (da_cons de_int (da_cons de_int (da_cons de_bl (da_cons de_str (da_cons de_str (da_cons de_dlit (da_cons (de_dispT hr (de_tup (da_cons de_int (da_cons de_int (da_cons de_int da_nil)))) de_int) (da_cons (de_makeN K_Stair (hr.mono (by omega)) hx_of (da_cons (de_var 1) da_nil)) (da_cons (de_makeN K_Stair (hr.mono (by omega)) hx_of (da_cons (de_lst da_nil) da_nil)) da_nil))))))))))) da_nil))))) (by exact (ds_cons (by exact (ds_set 6 sc_law_steps_right.nd (de_lstC (da_cons (de_hear (H_law_told 5) (TL_law_steps_right _ hc) rfl (hr.mono (by omega)) hx_of (LamX.lamS_by (show LamX.lamSB (defScope s_law_steps_right) _ = true by decide +kernel)) rfl (fun _ _ _ _ _ => rfl) (fun A1 out1 s1 H1 E1 f1 c1 hr => (de_makeN K_Stair (hr.mono (by omega)) lamN_pass (da_cons (de_var 2) da_nil)))) da_nil)))) (by exact (ds_cons (by exact (ds_exp (de_append (de_var 6) (da_cons (de_hear (H_law_told 5) (TL_law_steps_right _ hc) rfl (hr.mono (by omega)) hx_of (LamX.lamS_by (show LamX.lamSB (defScope s_law_steps_right) _ = true by decide +kernel)) rfl (fun _ _ _ _ _ => rfl) (fun A1 out1 s1 H1 E1 f1 c1 hr => (de_makeK KK_Stair_steps (hr.mono (by omega)) lamN_pass (dk_cons (de_callTy call_tuple_of cd_tuple hd.g_tuple bt_tuple (da_cons (de_var 4) da_nil)) dk_nil)))) da_nil)))) (by exact (ds_cons (by exact (ds_exp (de_append (de_var 6) (da_cons (de_hear (H_law_told 5) (TL_law_steps_right _ hc) rfl (hr.mono (by omega)) hx_of (LamX.lamS_by (show LamX.lamSB (defScope s_law_steps_right) _ = true by decide +kernel)) rfl (fun _ _ _ _ _ => rfl) (fun A1 out1 s1 H1 E1 f1 c1 hr => (de_makeN K_Stair (hr.mono (by omega)) lamN_pass (da_cons (de_var 5) da_nil)))) da_nil)))) (by exact (ds_cons (by exact (ds_exp (de_append (de_var 6) (da_cons (de_hear (H_law_told 5) (TL_law_steps_right _ hc) rfl (hr.mono (by omega)) hx_of (LamX.lamS_by (show LamX.lamSB (defScope s_law_steps_right) _ = true by decide +kernel)) rfl (fun _ _ _ _ _ => rfl) (fun A1 out1 s1 H1 E1 f1 c1 hr => (de_makeN K_Stair (hr.mono (by omega)) lamN_pass (da_cons (de_var 1) da_nil)))) da_nil)))) (by exact (ds_one (ds_ret (de_eq hr (de_var 6) (de_add (de_repL (de_lst (da_cons (de_callN G_law_due (hr.mono (by omega)) hx_of (da_cons de_str (da_cons (de_var 3) da_nil))) da_nil)) de_int) (de_lst (da_cons (de_callN G_law_due (hr.mono (by omega)) hx_of (da_cons de_str (da_cons de_non da_nil))) (da_cons (de_lst (da_cons de_str da_nil)) da_nil))))))))))))))))))))))))
abbrev s_law_many_right : Stmt := top 34
theorem sc_law_many_right : FnScope ["_law_pot_here", "_law_gap", "_law_rows", "_law_more", "_law_heard", "_law_k"] ["_law_pot_here"] (defScope s_law_many_right) := ⟨rfl, rfl, rfl, by decide +kernel, rfl, by decide +kernel, by decide +kernel⟩
-- slots: 0 _law_pot_here, 1 _law_gap, 2 _law_rows, 3 _law_more, 4 _law_heard, 5 _law_k
def b_law_many_right : DenS := (sSeq (sSet 1 (fCall 2 F_law_draw (fCons (fVar 0) (fCons (fC (.int 2)) fNil)))) (sSeq (sSet 2 (fLc (fRange1 (fCons (fC (.int 60)) fNil)) (.nm 5) (fC true) (fTup (fCons (fBin dMul (fBin dAdd (fC (.int 1)) (fVar 1)) (fVar 5)) (fCons (fVar 5) (fCons (fC (.int 1)) fNil)))) [5])) (sSeq (sSet 3 (fBin dAdd (fVar 2) (fLst (fCons (fTup (fCons (fBin dMul (fBin dAdd (fC (.int 1)) (fVar 1)) (fC (.int 60))) (fCons (fC (.int 60)) (fCons (fC (.int 1)) fNil)))) fNil)))) (sSeq (sSet 4 (fLstC (fCons (fHear FH_law_told (fMake "Stair" 2 F_StairD_initD (fCons (fVar 2) fNil))) fNil))) (sSeq (sExp (fMt chkL mAppend (fVar 4) (fCons (fHear FH_law_told (fMake "Stair" 2 F_StairD_initD (fCons (fVar 3) fNil))) fNil))) (sSeq (sExp (fMt chkL mAppend (fVar 4) (fCons (fHear FH_law_told (fMake "Stair" 2 F_StairD_initD (fCons (fBin dAdd (fVar 3) (fLst (fCons (fTup (fCons (fC (.int 0)) (fCons (fC (.int 0)) (fCons (fC (.int 1)) fNil)))) fNil))) fNil))) fNil))) (sRet (fBin dEq (fVar 4) (fLst (fCons (fLst (fCons (fC (.str "told")) fNil)) (fCons (fLst (fCons (fC (.str "steps")) (fCons (fC (.str "60")) (fCons (fC (.bl true)) fNil)))) (fCons (fLst (fCons (fC (.str "steps")) (fCons (fC (.str "61")) (fCons (fC (.bl true)) fNil)))) fNil))))))))))))
def F_law_many_right : FD := clean (fnD 6 b_law_many_right)
theorem ok_law_many_right {f : Addr} {fd : FuncData} (hd : Hd K mg) (G_law_draw : FnG P w K mg base "_law_draw" ["_law_pot_here", "_law_size"] 1 F_law_draw) (K_Stair : MkG P w K mg base "Stair" ["self", "steps"] 4 F_StairD_initD) (H_law_told : ∀ j, HearG P w K mg base "_law_told" j (j + 3) FH_law_told) (TL_law_many_right : ∀ cd, fd.code = cd → LamG base K mg "_law_many_right" cd) (F : FnP K "_law_many_right" "_law_many_right" s_law_many_right f fd) : FnOkG P w K mg base (L2N.CX P w) 10 f fd ["_law_pot_here"] (spD K 1 F_law_many_right) :=
  FnOkG.clean (fn_defL F sc_law_many_right fun cdv A outer s H E hc hr => (ds_cons (by exact (ds_set 1 sc_law_many_right.nd (de_callN G_law_draw (hr.mono (by omega)) hx_of (da_cons (de_var 0) (da_cons de_int da_nil))))) (by exact (ds_cons (by exact (ds_set 2 sc_law_many_right.nd (de_lc (own := [("_law_k", 5)]) (t := (.nm 5)) (ft := (fC true)) (fe := (fTup (fCons (fBin dMul (fBin dAdd (fC (.int 1)) (fVar 1)) (fVar 5)) (fCons (fVar 5) (fCons (fC (.int 1)) fNil))))) rfl sc_law_many_right.nd (di_range1 (da_cons de_int da_nil) hd.g_range) (blkOk_by rfl) (by decide) (by exact fun _ _ _ _ _ => (pg_nm 5 sc_law_many_right.nd)) (by exact fun _ _ _ _ _ => dts_nil) (by exact fun _ _ _ _ _ => (de_tup (da_cons (de_mul (de_add de_int (de_var 1)) (de_var 5)) (da_cons (de_var 5) (da_cons de_int da_nil)))))))) (by exact (ds_cons (by exact (ds_set 3 sc_law_many_right.nd (de_add (de_var 2) (de_lst (da_cons (de_tup (da_cons (de_mul (de_add de_int (de_var 1)) de_int) (da_cons de_int (da_cons de_int da_nil)))) da_nil))))) (by exact (ds_cons (by exact (ds_set 4 sc_law_many_right.nd (de_lstC (da_cons (de_hear (H_law_told 5) (TL_law_many_right _ hc) rfl (hr.mono (by omega)) hx_of (LamX.lamS_by (show LamX.lamSB (defScope s_law_many_right) _ = true by decide +kernel)) rfl (fun _ _ _ _ _ => rfl) (fun A1 out1 s1 H1 E1 f1 c1 hr => (de_makeN K_Stair (hr.mono (by omega)) lamN_pass (da_cons (de_var 2) da_nil)))) da_nil)))) (by exact (ds_cons (by exact (ds_exp (de_append (de_var 4) (da_cons (de_hear (H_law_told 5) (TL_law_many_right _ hc) rfl (hr.mono (by omega)) hx_of (LamX.lamS_by (show LamX.lamSB (defScope s_law_many_right) _ = true by decide +kernel)) rfl (fun _ _ _ _ _ => rfl) (fun A1 out1 s1 H1 E1 f1 c1 hr => (de_makeN K_Stair (hr.mono (by omega)) lamN_pass (da_cons (de_var 3) da_nil)))) da_nil)))) (by exact (ds_cons (by exact (ds_exp (de_append (de_var 4) (da_cons (de_hear (H_law_told 5) (TL_law_many_right _ hc) rfl (hr.mono (by omega)) hx_of (LamX.lamS_by (show LamX.lamSB (defScope s_law_many_right) _ = true by decide +kernel)) rfl (fun _ _ _ _ _ => rfl) (fun A1 out1 s1 H1 E1 f1 c1 hr => (de_makeN K_Stair (hr.mono (by omega)) lamN_pass (da_cons (de_add (de_var 3) (de_lst (da_cons (de_tup (da_cons de_int (da_cons de_int (da_cons de_int da_nil)))) da_nil))) da_nil)))) da_nil)))) (by exact (ds_one (ds_ret (de_eq hr (de_var 4) (de_lst (da_cons (de_lst (da_cons de_str da_nil)) (da_cons (de_lst (da_cons de_str (da_cons de_str (da_cons de_bl da_nil)))) (da_cons (de_lst (da_cons de_str (da_cons de_str (da_cons de_bl da_nil)))) da_nil))))))))))))))))))))
abbrev s_law_marks_right : Stmt := top 35
theorem sc_law_marks_right : FnScope ["_law_pot_here", "_law_made", "_law_wrong_here", "_law_length_now", "_law_low", "_law_high", "_law_heard", "_law_due_here", "_law_pairs", "_law_begin", "_law_behind", "_law_is_bad"] ["_law_pot_here", "_law_made"] (defScope s_law_marks_right) := ⟨rfl, rfl, rfl, by decide +kernel, rfl, by decide +kernel, by decide +kernel⟩
-- slots: 0 _law_pot_here, 1 _law_made, 2 _law_wrong_here, 3 _law_length_now, 4 _law_low, 5 _law_high, 6 _law_heard, 7 _law_due_here, 8 _law_pairs, 9 _law_begin, 10 _law_behind, 11 _law_is_bad
def b_law_marks_right_for : DenS := (sSeq (sExp (fMt chkL mAppend (fVar 6) (fCons (fHear FH_law_told (fMeth "Stair" "limited" 3 F_Stair_limited (fVar 1) (fCons (fVar 9) (fCons (fVar 10) fNil)))) fNil))) (sSeq (sExp (fMt chkL mAppend (fVar 6) (fCons (fHear FH_law_told (fMethK "Stair" "ranges" 3 2 [0, 2, 1] F_Stair_ranges (fVar 1) (fCons (fVar 10) (fCons (fVar 9) fNil)))) fNil))) (sSeq (sExp (fMt chkL mAppend (fVar 6) (fCons (fHear FH_law_told (fMeth "Stair" "cut_in" 3 F_Stair_cut_in (fVar 1) (fCons (fVar 9) (fCons (fVar 10) fNil)))) fNil))) (sSet 7 (fBin dAdd (fVar 7) (fBin dRepL (fLst (fCons (fIf (fT (fBin dGt (fVar 11) (fC (.int 0)))) (fCall 2 F_law_due (fCons (fC (.str "range")) (fCons (fTup (fCons (fVar 9) (fCons (fVar 10) fNil))) fNil))) (fLst (fCons (fC (.str "told")) fNil))) fNil)) (fC (.int 3))))))))
def b_law_marks_right : DenS := (sSeq (sSet 2 (fCall 2 F_law_pick (fCons (fVar 0) (fCons (fLst (fCons (fC .non) (fCons (fC (.bl true)) (fCons (fC (.bl false)) (fCons (fC (.str "1")) (fCons (fC (.str "")) (fCons (fTup (fCons (fC (.int 1)) fNil)) (fCons (fLst (fCons (fC (.int 1)) fNil)) (fCons (fC (.dct [])) fNil))))))))) fNil)))) (sSeq (sSet 3 (fCall 2 F_law_pick (fCons (fVar 0) (fCons (fLst (fCons (fC (.int 0)) (fCons (fUn dNeg (fC (.int 1))) (fCons (fC (.bl true)) (fCons (fC .non) (fCons (fC (.str "3")) (fCons (fTup (fCons (fC (.int 2)) fNil)) (fCons (fUn dNeg (fBin dPow (fC (.int 10)) (fC (.int 20)))) fNil)))))))) fNil)))) (sSeq (sAsg (fTup (fCons (fBin dSub (fCall 2 F_law_draw (fCons (fVar 0) (fCons (fC (.int 40)) fNil))) (fC (.int 9))) (fCons (fBin dSub (fCall 2 F_law_draw (fCons (fVar 0) (fCons (fC (.int 40)) fNil))) (fC (.int 9))) fNil))) (gT 2 (gCons (gN 4) (gCons (gN 5) gNil)))) (sSeq (sSet 6 (fLstC (fCons (fHear FH_law_told (fCallOX "Stair" 2 F_StairD_callD (fVar 1) (fCons (fVar 2) fNil))) fNil))) (sSeq (sExp (fMt chkL mAppend (fVar 6) (fCons (fHear FH_law_told (fCMeth "Stair" 3 F_Stair_stay (fCons (fVar 2) (fCons (fVar 3) fNil)))) fNil))) (sSeq (sExp (fMt chkL mAppend (fVar 6) (fCons (fHear FH_law_told (fCMeth "Stair" 3 F_Stair_stay (fCons (fC (.int 3)) (fCons (fVar 3) fNil)))) fNil))) (sSeq (sExp (fMt chkL mAppend (fVar 6) (fCons (fHear FH_law_told (fCMethK "Stair" 3 2 [0, 2, 1] F_Stair_stay (fCons (fC (.int 1)) (fCons (fVar 4) fNil)))) fNil))) (sSeq (sSet 7 (fBin dAdd (fBin dRepL (fLst (fCons (fCall 2 F_law_due (fCons (fC (.str "mark")) (fCons (fVar 2) fNil))) fNil)) (fC (.int 2))) (fLst (fCons (fCall 2 F_law_due (fCons (fC (.str "length")) (fCons (fVar 3) fNil))) (fCons (fLst (fCons (fC (.str "told")) fNil)) fNil))))) (sSeq (sSet 8 (fLst (fCons (fTup (fCons (fVar 4) (fCons (fVar 2) (fCons (fC (.int 1)) fNil)))) (fCons (fTup (fCons (fVar 2) (fCons (fVar 5) (fCons (fC (.int 1)) fNil)))) (fCons (fTup (fCons (fVar 4) (fCons (fVar 4) (fCons (fC (.int 1)) fNil)))) (fCons (fTup (fCons (fCB dMax (fCons (fVar 4) (fCons (fVar 5) fNil))) (fCons (fCB dMin (fCons (fVar 4) (fCons (fVar 5) fNil))) (fCons (fC (.int 1)) fNil)))) (fCons (fTup (fCons (fVar 4) (fCons (fC (.bl true)) (fCons (fC (.int 1)) fNil)))) fNil))))))) (sSeq (sFor (fSeq (fBin dAdd (fVar 8) (fLst (fCons (fTup (fCons (fVar 4) (fCons (fBin dAdd (fVar 4) (fC (.int 1))) (fCons (fC (.int 0)) fNil)))) fNil)))) (gT 3 (gCons (gN 9) (gCons (gN 10) (gCons (gN 11) gNil)))) b_law_marks_right_for) (sRet (fBin dEq (fVar 6) (fVar 7)))))))))))))
def F_law_marks_right : FD := clean (fnD 12 b_law_marks_right)
theorem ok_law_marks_right {f : Addr} {fd : FuncData} (hd : Hd K mg) (G_law_pick : FnG P w K mg base "_law_pick" ["_law_pot_here", "_law_some"] 2 F_law_pick) (G_law_draw : FnG P w K mg base "_law_draw" ["_law_pot_here", "_law_size"] 1 F_law_draw) (C_StairD_callD : ClG P w K mg base "Stair" ["self", "mark"] 3 F_StairD_callD) (H_law_told : ∀ j, HearG P w K mg base "_law_told" j (j + 3) FH_law_told) (TL_law_marks_right : ∀ cd, fd.code = cd → LamG base K mg "_law_marks_right" cd) (CM_Stair_stay : CmG P w K mg base "Stair" "stay" ["cls", "first", "length"] 6 F_Stair_stay) (CK_Stair_stay_length_first : CmK P w K mg base "Stair" "stay" ["cls", "first", "length"] ["length", "first"] [0, 2, 1] 6 F_Stair_stay) (G_law_due : FnG P w K mg base "_law_due" ["_law_word", "_law_thing"] 1 F_law_due) (M_Stair_limited : MtG P w K mg base "Stair" "limited" ["self", "first", "end"] 7 F_Stair_limited) (W_Stair_ranges_end_first : MtK P w K mg base "Stair" "ranges" ["self", "first", "end"] ["end", "first"] [0, 2, 1] 8 F_Stair_ranges) (M_Stair_cut_in : MtG P w K mg base "Stair" "cut_in" ["self", "first", "end"] 8 F_Stair_cut_in) (F : FnP K "_law_marks_right" "_law_marks_right" s_law_marks_right f fd) : FnOkG P w K mg base (L2N.CX P w) 13 f fd ["_law_pot_here", "_law_made"] (spD K 2 F_law_marks_right) :=
  FnOkG.clean (fn_defL F sc_law_marks_right fun cdv A outer s H E hc hr => (ds_cons (by exact (ds_set 2 sc_law_marks_right.nd (de_callN G_law_pick (hr.mono (by omega)) hx_of (da_cons (de_var 0) (da_cons (de_lst (da_cons de_non (da_cons de_bl (da_cons de_bl (da_cons de_str (da_cons de_str (da_cons (de_tup (da_cons de_int da_nil)) (da_cons (de_lst (da_cons de_int da_nil)) (da_cons de_dlit da_nil))))))))) da_nil))))) (by exact (ds_cons (by exact (ds_set 3 sc_law_marks_right.nd (de_callN G_law_pick (hr.mono (by omega)) hx_of (da_cons (de_var 0) (da_cons (de_lst (da_cons de_int (da_cons (de_neg de_int) (da_cons de_bl (da_cons de_non (da_cons de_str (da_cons (de_tup (da_cons de_int da_nil)) (da_cons (de_neg (de_pow de_int de_int)) da_nil)))))))) da_nil))))) (by exact (ds_cons (by exact (ds_asg (de_tup (da_cons (de_sub (de_callN G_law_draw (hr.mono (by omega)) hx_of (da_cons (de_var 0) (da_cons de_int da_nil))) de_int) (da_cons (de_sub (de_callN G_law_draw (hr.mono (by omega)) hx_of (da_cons (de_var 0) (da_cons de_int da_nil))) de_int) da_nil))) (dg_t rfl (dgs_cons (dg_n 4 sc_law_marks_right.nd) (dgs_cons (dg_n 5 sc_law_marks_right.nd) dgs_nil))))) (by exact (ds_cons (by exact (ds_set 6 sc_law_marks_right.nd (de_lstC (da_cons (de_hear (H_law_told 3) (TL_law_marks_right _ hc) rfl (hr.mono (by omega)) hx_of (LamX.lamS_by (show LamX.lamSB (defScope s_law_marks_right) _ = true by decide +kernel)) rfl (fun _ _ _ _ _ => rfl) (fun A1 out1 s1 H1 E1 f1 c1 hr => (de_callOX lamN_pass C_StairD_callD (hr.mono (by omega)) (de_var 1) (da_cons (de_var 2) da_nil)))) da_nil)))) (by exact (ds_cons (by exact (ds_exp (de_append (de_var 6) (da_cons (de_hear (H_law_told 6) (TL_law_marks_right _ hc) rfl (hr.mono (by omega)) hx_of (LamX.lamS_by (show LamX.lamSB (defScope s_law_marks_right) _ = true by decide +kernel)) rfl (fun _ _ _ _ _ => rfl) (fun A1 out1 s1 H1 E1 f1 c1 hr => (de_cmeth hd.m_Stair CM_Stair_stay (hr.mono (by omega)) lamN_pass (da_cons (de_var 2) (da_cons (de_var 3) da_nil))))) da_nil)))) (by exact (ds_cons (by exact (ds_exp (de_append (de_var 6) (da_cons (de_hear (H_law_told 6) (TL_law_marks_right _ hc) rfl (hr.mono (by omega)) hx_of (LamX.lamS_by (show LamX.lamSB (defScope s_law_marks_right) _ = true by decide +kernel)) rfl (fun _ _ _ _ _ => rfl) (fun A1 out1 s1 H1 E1 f1 c1 hr => (de_cmeth hd.m_Stair CM_Stair_stay (hr.mono (by omega)) lamN_pass (da_cons de_int (da_cons (de_var 3) da_nil))))) da_nil)))) (by exact (ds_cons (by exact (ds_exp (de_append (de_var 6) (da_cons (de_hear (H_law_told 6) (TL_law_marks_right _ hc) rfl (hr.mono (by omega)) hx_of (LamX.lamS_by (show LamX.lamSB (defScope s_law_marks_right) _ = true by decide +kernel)) rfl (fun _ _ _ _ _ => rfl) (fun A1 out1 s1 H1 E1 f1 c1 hr => (de_cmethK hd.m_Stair CK_Stair_stay_length_first (hr.mono (by omega)) lamN_pass (dk_cons de_int (dk_cons (de_var 4) dk_nil))))) da_nil)))) (by exact (ds_cons (by exact (ds_set 7 sc_law_marks_right.nd (de_add (de_repL (de_lst (da_cons (de_callN G_law_due (hr.mono (by omega)) hx_of (da_cons de_str (da_cons (de_var 2) da_nil))) da_nil)) de_int) (de_lst (da_cons (de_callN G_law_due (hr.mono (by omega)) hx_of (da_cons de_str (da_cons (de_var 3) da_nil))) (da_cons (de_lst (da_cons de_str da_nil)) da_nil)))))) (by exact (ds_cons (by exact (ds_set 8 sc_law_marks_right.nd (de_lst (da_cons (de_tup (da_cons (de_var 4) (da_cons (de_var 2) (da_cons de_int da_nil)))) (da_cons (de_tup (da_cons (de_var 2) (da_cons (de_var 5) (da_cons de_int da_nil)))) (da_cons (de_tup (da_cons (de_var 4) (da_cons (de_var 4) (da_cons de_int da_nil)))) (da_cons (de_tup (da_cons (de_callB (call_max2 rfl) cd_max hd.g_max bt_max (da_cons (de_var 4) (da_cons (de_var 5) da_nil))) (da_cons (de_callB (call_min2 rfl) cd_min hd.g_min bt_min (da_cons (de_var 4) (da_cons (de_var 5) da_nil))) (da_cons de_int da_nil)))) (da_cons (de_tup (da_cons (de_var 4) (da_cons de_bl (da_cons de_int da_nil)))) da_nil)))))))) (by exact (ds_cons (by exact (ds_for hp_of rfl (di_seq (de_add (de_var 8) (de_lst (da_cons (de_tup (da_cons (de_var 4) (da_cons (de_add (de_var 4) de_int) (da_cons de_int da_nil)))) da_nil)))) (dg_t rfl (dgs_cons (dg_n 9 sc_law_marks_right.nd) (dgs_cons (dg_n 10 sc_law_marks_right.nd) (dgs_cons (dg_n 11 sc_law_marks_right.nd) dgs_nil)))) (ds_cons (by exact (ds_exp (de_append (de_var 6) (da_cons (de_hear (H_law_told 7) (TL_law_marks_right _ hc) rfl (hr.mono (by omega)) hx_of (LamX.lamS_by (show LamX.lamSB (defScope s_law_marks_right) _ = true by decide +kernel)) rfl (fun _ _ _ _ _ => rfl) (fun A1 out1 s1 H1 E1 f1 c1 hr => (de_methN hd.c_Stair M_Stair_limited (hr.mono (by omega)) lamN_pass (de_var 1) (da_cons (de_var 9) (da_cons (de_var 10) da_nil))))) da_nil)))) (by exact (ds_cons (by exact (ds_exp (de_append (de_var 6) (da_cons (de_hear (H_law_told 8) (TL_law_marks_right _ hc) rfl (hr.mono (by omega)) hx_of (LamX.lamS_by (show LamX.lamSB (defScope s_law_marks_right) _ = true by decide +kernel)) rfl (fun _ _ _ _ _ => rfl) (fun A1 out1 s1 H1 E1 f1 c1 hr => (de_methKN hd.c_Stair W_Stair_ranges_end_first (hr.mono (by omega)) lamN_pass (de_var 1) (dk_cons (de_var 10) (dk_cons (de_var 9) dk_nil))))) da_nil)))) (by exact (ds_cons (by exact (ds_exp (de_append (de_var 6) (da_cons (de_hear (H_law_told 8) (TL_law_marks_right _ hc) rfl (hr.mono (by omega)) hx_of (LamX.lamS_by (show LamX.lamSB (defScope s_law_marks_right) _ = true by decide +kernel)) rfl (fun _ _ _ _ _ => rfl) (fun A1 out1 s1 H1 E1 f1 c1 hr => (de_methN hd.c_Stair M_Stair_cut_in (hr.mono (by omega)) lamN_pass (de_var 1) (da_cons (de_var 9) (da_cons (de_var 10) da_nil))))) da_nil)))) (by exact (ds_one (ds_set 7 sc_law_marks_right.nd (de_add (de_var 7) (de_repL (de_lst (da_cons (de_if (dt_gt (de_var 11) de_int) (de_callN G_law_due (hr.mono (by omega)) hx_of (da_cons de_str (da_cons (de_tup (da_cons (de_var 9) (da_cons (de_var 10) da_nil))) da_nil))) (de_lst (da_cons de_str da_nil))) da_nil)) de_int)))))))))))) (by exact (ds_one (ds_ret (de_eq hr (de_var 6) (de_var 7)))))))))))))))))))))))))
abbrev s_law_right : Stmt := top 36
theorem sc_law_right : FnScope ["_law_pot_here", "_law_made", "_law_shown", "_law_turn"] ["_law_pot_here"] (defScope s_law_right) := ⟨rfl, rfl, rfl, by decide +kernel, rfl, by decide +kernel, by decide +kernel⟩
-- slots: 0 _law_pot_here, 1 _law_made, 2 _law_shown, 3 _law_turn
def b_law_right_for : DenS := (sIf (fOr (fNot (fT (fCall 1 F_law_steps_right (fCons (fVar 0) fNil)))) (fNot (fT (fCall 2 F_law_marks_right (fCons (fVar 0) (fCons (fVar 1) fNil)))))) (sRet (fC (.bl false))) sSkip)
def b_law_right : DenS := (sSeq (sSet 1 (fMake "Stair" 2 F_StairD_initD (fCons (fCall 2 F_law_steps (fCons (fVar 0) (fCons (fC (.int 5)) fNil))) fNil))) (sSeq (sSet 2 (fCB (dRepr1 "Stair" "own_steps" "Stair(" ")") (fCons (fVar 1) fNil))) (sSeq (sFor (fRange1 (fCons (fC (.int 6)) fNil)) (gN 3) b_law_right_for) (sRet (fAndV (fCall 1 F_law_many_right (fCons (fVar 0) fNil)) (fBin dEqS (fCB (dRepr1 "Stair" "own_steps" "Stair(" ")") (fCons (fVar 1) fNil)) (fVar 2)))))))
def F_law_right : FD := clean (fnD 4 b_law_right)
theorem ok_law_right {f : Addr} {fd : FuncData} (hd : Hd K mg) (G_law_steps : FnG P w K mg base "_law_steps" ["_law_pot_here", "_law_most"] 2 F_law_steps) (K_Stair : MkG P w K mg base "Stair" ["self", "steps"] 4 F_StairD_initD) (RP_Stair : RpG P w K mg base "Stair" "own_steps" "Stair(" ")" 1) (G_law_steps_right : FnG P w K mg base "_law_steps_right" ["_law_pot_here"] 10 F_law_steps_right) (G_law_marks_right : FnG P w K mg base "_law_marks_right" ["_law_pot_here", "_law_made"] 13 F_law_marks_right) (G_law_many_right : FnG P w K mg base "_law_many_right" ["_law_pot_here"] 10 F_law_many_right) (F : FnP K "_law_right" "_law_right" s_law_right f fd) : FnOkG P w K mg base (L2N.CX P w) 14 f fd ["_law_pot_here"] (spD K 1 F_law_right) :=
  FnOkG.clean (fn_def F sc_law_right fun cdv A outer s H E hr => (ds_cons (by exact (ds_set 1 sc_law_right.nd (de_makeN K_Stair (hr.mono (by omega)) hx_of (da_cons (de_callN G_law_steps (hr.mono (by omega)) hx_of (da_cons (de_var 0) (da_cons de_int da_nil))) da_nil)))) (by exact (ds_cons (by exact (ds_set 2 sc_law_right.nd (de_repr1 RP_Stair (hr.mono (by omega)) hd.g_repr (da_cons (de_var 1) da_nil)))) (by exact (ds_cons (by exact (ds_for hp_of rfl (di_range1 (da_cons de_int da_nil) hd.g_range) (dg_n 3 sc_law_right.nd) (ds_one (ds_if (dt_w (dw_or (dt_not (dt_val (de_callN G_law_steps_right (hr.mono (by omega)) hx_of (da_cons (de_var 0) da_nil)))) (dw_or1 (dt_not (dt_val (de_callN G_law_marks_right (hr.mono (by omega)) hx_of (da_cons (de_var 0) (da_cons (de_var 1) da_nil)))))))) (ds_one (ds_ret de_bl)) ds_nil)))) (by exact (ds_one (ds_ret (de_and (de_callN G_law_many_right (hr.mono (by omega)) hx_of (da_cons (de_var 0) da_nil)) (de_one (de_eqS (de_repr1 RP_Stair (hr.mono (by omega)) hd.g_repr (da_cons (de_var 1) da_nil)) (de_var 2)))))))))))))
abbrev s_law : Stmt := top 37
theorem sc_law : FnScope ["_law_script", "_law_k"] ["_law_script"] (defScope s_law) := ⟨rfl, rfl, rfl, by decide +kernel, rfl, by decide +kernel, by decide +kernel⟩
-- slots: 0 _law_script, 1 _law_k
def b_law : DenS := (sRet (fCB dAll (fCons (fLc (fRange1 (fCons (fCB dMax (fCons (fC (.int 1)) (fCons (fCB dMin (fCons (fCB dLen (fCons (fVar 0) fNil)) (fCons (fC (.int 4)) fNil))) fNil))) fNil)) (.nm 1) (fC true) (fCall 1 F_law_right (fCons (fCall 2 F_law_pot (fCons (fVar 0) (fCons (fVar 1) fNil))) fNil)) [1]) fNil)))
def F_law : FD := clean (fnD 2 b_law)
theorem ok_law {f : Addr} {fd : FuncData} (hd : Hd K mg) (G_law_pot : FnG P w K mg base "_law_pot" ["_law_script", "_law_k"] 1 F_law_pot) (G_law_right : FnG P w K mg base "_law_right" ["_law_pot_here"] 14 F_law_right) (F : FnP K "law" "law" s_law f fd) : FnOkG P w K mg base (L2N.CX P w) 15 f fd ["_law_script"] (spD K 1 F_law) :=
  FnOkG.clean (fn_def F sc_law fun cdv A outer s H E hr => (ds_one (ds_ret (de_callB (cr_all rfl) cd_all hd.g_all bt_all (da_cons (de_lc (own := [("_law_k", 1)]) (t := (.nm 1)) (ft := (fC true)) (fe := (fCall 1 F_law_right (fCons (fCall 2 F_law_pot (fCons (fVar 0) (fCons (fVar 1) fNil))) fNil))) rfl sc_law.nd (di_range1 (da_cons (de_callB (call_max2 rfl) cd_max hd.g_max bt_max (da_cons de_int (da_cons (de_callB (call_min2 rfl) cd_min hd.g_min bt_min (da_cons (de_callB call_len cd_len hd.g_len bt_len (da_cons (de_var 0) da_nil)) (da_cons de_int da_nil))) da_nil))) da_nil) hd.g_range) (blkOk_by rfl) (by decide) (by exact fun _ _ _ _ _ => (pg_nm 1 sc_law.nd)) (by exact fun _ _ _ _ _ => dts_nil) (by exact fun _ _ _ _ _ => (de_callN G_law_right (hr.mono (by omega)) pass00 (da_cons (de_callN G_law_pot (hr.mono (by omega)) pass00 (da_cons (de_var 0) (da_cons (de_var 1) da_nil))) da_nil)))) da_nil)))))
end
end K10


set_option Elab.async false
set_option linter.all false
set_option maxRecDepth 100000
set_option maxHeartbeats 4000000
set_option maxHeartbeats 0
namespace K10
open PySem PySem.Spec PyProof.Rows L2 Dn
def d_is_integer : He.DefD := ⟨("is_integer", none), "is_integer", "is_integer", defArgs s_is_integer, defBody s_is_integer, defScope s_is_integer, [], []⟩
def d_is_list : He.DefD := ⟨("is_list", none), "is_list", "is_list", defArgs s_is_list, defBody s_is_list, defScope s_is_list, [], []⟩
def d_want_range : He.DefD := ⟨("want_range", none), "want_range", "want_range", defArgs s_want_range, defBody s_want_range, defScope s_want_range, [], []⟩
def d_is_step : He.DefD := ⟨("is_step", none), "is_step", "is_step", defArgs s_is_step, defBody s_is_step, defScope s_is_step, [], []⟩
def d_does_rise : He.DefD := ⟨("does_rise", none), "does_rise", "does_rise", defArgs s_does_rise, defBody s_does_rise, defScope s_does_rise, [], []⟩
def d_want_steps : He.DefD := ⟨("want_steps", none), "want_steps", "want_steps", defArgs s_want_steps, defBody s_want_steps, defScope s_want_steps, [], []⟩
def d_does_go_on : He.DefD := ⟨("does_go_on", none), "does_go_on", "does_go_on", defArgs s_does_go_on, defBody s_does_go_on, defScope s_does_go_on, [], []⟩
def d_one_form : He.DefD := ⟨("one_form", none), "one_form", "one_form", defArgs s_one_form, defBody s_one_form, defScope s_one_form, [], []⟩
def d_clipped : He.DefD := ⟨("clipped", none), "clipped", "clipped", defArgs s_clipped, defBody s_clipped, defScope s_clipped, [], []⟩
def d_joined_ranges : He.DefD := ⟨("joined_ranges", none), "joined_ranges", "joined_ranges", defArgs s_joined_ranges, defBody s_joined_ranges, defScope s_joined_ranges, [], []⟩
def d_RightStepsD_initD : He.DefD := ⟨("RightSteps", some "__init__"), "__init__", "RightSteps.__init__", defArgs s_RightStepsD_initD, defBody s_RightStepsD_initD, defScope s_RightStepsD_initD, [], []⟩
def d_StairD_initD : He.DefD := ⟨("Stair", some "__init__"), "__init__", "Stair.__init__", defArgs s_StairD_initD, defBody s_StairD_initD, defScope s_StairD_initD, [], []⟩
def d_stair_of : He.DefD := ⟨("stair_of", none), "stair_of", "stair_of", defArgs s_stair_of, defBody s_stair_of, defScope s_stair_of, [], []⟩
def d_Stair_newer_of : He.DefD := ⟨("Stair", some "newer_of"), "newer_of", "Stair.newer_of", defArgs s_Stair_newer_of, defBody s_Stair_newer_of, defScope s_Stair_newer_of, [], []⟩
def d_StairD_callD : He.DefD := ⟨("Stair", some "__call__"), "__call__", "Stair.__call__", defArgs s_StairD_callD, defBody s_StairD_callD, defScope s_StairD_callD, [], []⟩
def d_Stair_limited : He.DefD := ⟨("Stair", some "limited"), "limited", "Stair.limited", defArgs s_Stair_limited, defBody s_Stair_limited, defScope s_Stair_limited, [], []⟩
def d_Stair_ranges : He.DefD := ⟨("Stair", some "ranges"), "ranges", "Stair.ranges", defArgs s_Stair_ranges, defBody s_Stair_ranges, defScope s_Stair_ranges, [], []⟩
def d_Stair_cut_in : He.DefD := ⟨("Stair", some "cut_in"), "cut_in", "Stair.cut_in", defArgs s_Stair_cut_in, defBody s_Stair_cut_in, defScope s_Stair_cut_in, [], []⟩
def d_law_pot : He.DefD := ⟨("_law_pot", none), "_law_pot", "_law_pot", defArgs s_law_pot, defBody s_law_pot, defScope s_law_pot, [], []⟩
def d_law_draw : He.DefD := ⟨("_law_draw", none), "_law_draw", "_law_draw", defArgs s_law_draw, defBody s_law_draw, defScope s_law_draw, [], []⟩
def d_law_pick : He.DefD := ⟨("_law_pick", none), "_law_pick", "_law_pick", defArgs s_law_pick, defBody s_law_pick, defScope s_law_pick, [], []⟩
def d_law_steps : He.DefD := ⟨("_law_steps", none), "_law_steps", "_law_steps", defArgs s_law_steps, defBody s_law_steps, defScope s_law_steps, [], []⟩
def d_law_told : He.DefD := ⟨("_law_told", none), "_law_told", "_law_told", defArgs s_law_told, defBody s_law_told, defScope s_law_told, [], []⟩
def d_law_due : He.DefD := ⟨("_law_due", none), "_law_due", "_law_due", defArgs s_law_due, defBody s_law_due, defScope s_law_due, [], []⟩
def d_law_wrong : He.DefD := ⟨("_law_wrong", none), "_law_wrong", "_law_wrong", defArgs s_law_wrong, defBody s_law_wrong, defScope s_law_wrong, [], []⟩
def d_law_steps_right : He.DefD := ⟨("_law_steps_right", none), "_law_steps_right", "_law_steps_right", defArgs s_law_steps_right, defBody s_law_steps_right, defScope s_law_steps_right, [], []⟩
def d_law_many_right : He.DefD := ⟨("_law_many_right", none), "_law_many_right", "_law_many_right", defArgs s_law_many_right, defBody s_law_many_right, defScope s_law_many_right, [], []⟩
def d_law_marks_right : He.DefD := ⟨("_law_marks_right", none), "_law_marks_right", "_law_marks_right", defArgs s_law_marks_right, defBody s_law_marks_right, defScope s_law_marks_right, [], []⟩
def d_law_right : He.DefD := ⟨("_law_right", none), "_law_right", "_law_right", defArgs s_law_right, defBody s_law_right, defScope s_law_right, [], []⟩
def d_law : He.DefD := ⟨("law", none), "law", "law", defArgs s_law, defBody s_law, defScope s_law, [], []⟩
abbrev s_InvalidStepsD_initD : Stmt := inClass (top 3) 0
theorem sc_InvalidStepsD_initD : FnScope ["self", "position"] ["self", "position"] (defScope s_InvalidStepsD_initD) := ⟨rfl, rfl, rfl, by decide +kernel, rfl, by decide +kernel, by decide +kernel⟩
def d_InvalidStepsD_initD : He.DefD := ⟨("InvalidSteps", some "__init__"), "__init__", "InvalidSteps.__init__", defArgs s_InvalidStepsD_initD, defBody s_InvalidStepsD_initD, defScope s_InvalidStepsD_initD, [], []⟩
abbrev s_InvalidMarkD_initD : Stmt := inClass (top 4) 0
theorem sc_InvalidMarkD_initD : FnScope ["self", "value"] ["self", "value"] (defScope s_InvalidMarkD_initD) := ⟨rfl, rfl, rfl, by decide +kernel, rfl, by decide +kernel, by decide +kernel⟩
def d_InvalidMarkD_initD : He.DefD := ⟨("InvalidMark", some "__init__"), "__init__", "InvalidMark.__init__", defArgs s_InvalidMarkD_initD, defBody s_InvalidMarkD_initD, defScope s_InvalidMarkD_initD, [], []⟩
abbrev s_InvalidLengthD_initD : Stmt := inClass (top 6) 0
theorem sc_InvalidLengthD_initD : FnScope ["self", "value"] ["self", "value"] (defScope s_InvalidLengthD_initD) := ⟨rfl, rfl, rfl, by decide +kernel, rfl, by decide +kernel, by decide +kernel⟩
def d_InvalidLengthD_initD : He.DefD := ⟨("InvalidLength", some "__init__"), "__init__", "InvalidLength.__init__", defArgs s_InvalidLengthD_initD, defBody s_InvalidLengthD_initD, defScope s_InvalidLengthD_initD, [], []⟩
abbrev s_InvalidRangeD_initD : Stmt := inClass (top 5) 0
theorem sc_InvalidRangeD_initD : FnScope ["self", "value"] ["self", "value"] (defScope s_InvalidRangeD_initD) := ⟨rfl, rfl, rfl, by decide +kernel, rfl, by decide +kernel, by decide +kernel⟩
def d_InvalidRangeD_initD : He.DefD := ⟨("InvalidRange", some "__init__"), "__init__", "InvalidRange.__init__", defArgs s_InvalidRangeD_initD, defBody s_InvalidRangeD_initD, defScope s_InvalidRangeD_initD, [], []⟩
abbrev s_TooManyD_initD : Stmt := inClass (top 8) 0
theorem sc_TooManyD_initD : FnScope ["self", "what", "limit"] ["self", "what", "limit"] (defScope s_TooManyD_initD) := ⟨rfl, rfl, rfl, by decide +kernel, rfl, by decide +kernel, by decide +kernel⟩
def d_TooManyD_initD : He.DefD := ⟨("TooMany", some "__init__"), "__init__", "TooMany.__init__", defArgs s_TooManyD_initD, defBody s_TooManyD_initD, defScope s_TooManyD_initD, [], []⟩
def d_Stair_stay : He5.DefA := ⟨fun K => He5.wf K (cad K "Stair") "classmethod" "stay", "stay", "Stair.stay", defArgs s_Stair_stay, defBody s_Stair_stay, defScope s_Stair_stay, [], []⟩
abbrev s_StairD_reprD : Stmt := inClass (top 24) 18
theorem sc_StairD_reprD : FnScope ["self"] ["self"] (defScope s_StairD_reprD) := ⟨rfl, rfl, rfl, by decide +kernel, rfl, by decide +kernel, by decide +kernel⟩
def d_StairD_reprD : He.DefD := ⟨("Stair", some "__repr__"), "__repr__", "Stair.__repr__", defArgs s_StairD_reprD, defBody s_StairD_reprD, defScope s_StairD_reprD, [], []⟩
def fn : List He.DefD := [d_is_integer, d_is_list, d_want_range, d_is_step, d_does_rise, d_want_steps, d_does_go_on, d_one_form, d_clipped, d_joined_ranges, d_RightStepsD_initD, d_StairD_initD, d_stair_of, d_Stair_newer_of, d_StairD_callD, d_Stair_limited, d_Stair_ranges, d_Stair_cut_in, d_law_pot, d_law_draw, d_law_pick, d_law_steps, d_law_told, d_law_due, d_law_wrong, d_law_steps_right, d_law_many_right, d_law_marks_right, d_law_right, d_law, d_InvalidStepsD_initD, d_InvalidMarkD_initD, d_InvalidLengthD_initD, d_InvalidRangeD_initD, d_TooManyD_initD, d_StairD_reprD]
def fw : List He5.DefA := [d_Stair_stay]
def fa : List He.Fa := [.free "isinstance", .free "int", .free "bool", .free "list", .free "tuple", .free "len", .free "all", .free "enumerate", .free "max", .free "min", .free "sorted", .cls "RightSteps", .noat "RightSteps" "told_steps", .glo "RightSteps", .glo "Stair", .cls "Stair", .noat "Stair" "own_steps", .free "abs", .free "divmod", .free "range", .free "ValueError", .glo "RoadError", .free "repr", .noat "InvalidSteps" "position", .noat "InvalidMark" "value", .noat "InvalidLength" "value", .noat "InvalidRange" "value", .free "ArithmeticError", .glo "LimitError", .noat "TooMany" "limit", .noat "TooMany" "what", .glo "TooMany", .glo "InvalidRange", .glo "InvalidLength", .glo "InvalidMark", .glo "InvalidSteps", .meth "Stair" "__repr__", .glo "is_integer", .glo "is_list", .glo "want_range", .glo "is_step", .glo "does_rise", .glo "want_steps", .glo "does_go_on", .glo "one_form", .glo "clipped", .glo "joined_ranges", .mkr "RightSteps", .mkr "Stair", .glo "stair_of", .meth "Stair" "newer_of", .meth "Stair" "__call__", .meth "Stair" "limited", .meth "Stair" "ranges", .meth "Stair" "cut_in", .glo "_law_pot", .glo "_law_draw", .glo "_law_pick", .glo "_law_steps", .glo "_law_told", .glo "_law_due", .glo "_law_wrong", .glo "_law_steps_right", .glo "_law_many_right", .glo "_law_marks_right", .glo "_law_right", .glo "law"]
def ex (K : PySem.W.Frag) : Bool := isaB CL K && (cvB "Stair" "MOST_STEPS" 60 K && (exmB "InvalidSteps" "InvalidSteps" true K && (exmB "InvalidMark" "InvalidSteps" false K && (exmB "InvalidLength" "InvalidSteps" false K && (exmB "InvalidRange" "InvalidSteps" false K && (exmB "TooMany" "InvalidSteps" false K && (kitTB "InvalidSteps" "ValueError" true K && (excB "InvalidSteps" K && (kitB "InvalidSteps" "RoadError" true K && (xfOkB "InvalidSteps" K && (smB K && (exmB "InvalidSteps" "InvalidMark" false K && (exmB "InvalidMark" "InvalidMark" true K && (exmB "InvalidLength" "InvalidMark" false K && (exmB "InvalidRange" "InvalidMark" false K && (exmB "TooMany" "InvalidMark" false K && (kitB "InvalidMark" "RoadError" true K && (excB "InvalidMark" K && (xfOkB "InvalidMark" K && (exmB "InvalidSteps" "InvalidLength" false K && (exmB "InvalidMark" "InvalidLength" false K && (exmB "InvalidLength" "InvalidLength" true K && (exmB "InvalidRange" "InvalidLength" false K && (exmB "TooMany" "InvalidLength" false K && (kitB "InvalidLength" "RoadError" true K && (excB "InvalidLength" K && (xfOkB "InvalidLength" K && (exmB "InvalidSteps" "InvalidRange" false K && (exmB "InvalidMark" "InvalidRange" false K && (exmB "InvalidLength" "InvalidRange" false K && (exmB "InvalidRange" "InvalidRange" true K && (exmB "TooMany" "InvalidRange" false K && (kitB "InvalidRange" "RoadError" true K && (excB "InvalidRange" K && (xfOkB "InvalidRange" K && (exmB "InvalidSteps" "TooMany" false K && (exmB "InvalidMark" "TooMany" false K && (exmB "InvalidLength" "TooMany" false K && (exmB "InvalidRange" "TooMany" false K && (exmB "TooMany" "TooMany" true K && (kitTB "TooMany" "ArithmeticError" true K && (excB "TooMany" K && (kitB "TooMany" "LimitError" true K && (xfOkB "TooMany" K && (erB "InvalidSteps" ["position"] veT "ValueError.__new__" K && (erB "InvalidMark" ["value"] veT "ValueError.__new__" K && (erB "InvalidLength" ["value"] veT "ValueError.__new__" K && (erB "InvalidRange" ["value"] veT "ValueError.__new__" K && (erB "TooMany" ["what", "limit"] aeT "ArithmeticError.__new__" K && (cmB "Stair" "stay" K && (PySem.W.fnIn K (He.ma K (cad K "Stair") "__call__") && (lamB ("_law_steps_right", none) 436 K && (lamB ("_law_many_right", none) 443 K && (lamB ("_law_marks_right", none) 448 K && (true)))))))))))))))))))))))))))))))))))))))))))))))))))))))
def Tb : List (Addr × Str) := [(436, "_law_steps_right.<locals>.<lambda>"), (443, "_law_many_right.<locals>.<lambda>"), (448, "_law_marks_right.<locals>.<lambda>")]
def ts : List (Str × List Str) := []
def loose : List Str := (["_wall", "RoadError", "InvalidSteps", "InvalidMark", "InvalidRange", "InvalidLength", "LimitError", "TooMany", "is_integer", "is_list", "want_range", "joined_ranges", "is_step", "does_rise", "want_steps", "one_form", "does_go_on", "clipped", "RightSteps", "stair_of"] : List Str) ++ (["back_of_stair", "Stair", "_law_pot", "_law_draw", "_law_pick", "_law_steps", "_law_told", "_law_due", "_law_wrong", "_law_steps_right", "_law_many_right", "_law_marks_right", "_law_right"] : List Str)
abbrev R : PySem.W.OpenRow := PySem.W.OpenLaw.row PySem.Challenge.rw_roadstairs_k10_stairs_refused
abbrev hk : PySem.W.Hook := hookL 520 Tb fa fn fw ex ts
def ob (s : PySem.W.SharedT) : AlL := obsL 520 Tb fa fn fw ex ts (HandSHeadRun.getT s)
theorem ob_eq (s : PySem.W.SharedT) : ob s = hk.obs s.abs := obsL_eq (HandSHeadRun.getT_eq s)
section
open PySem.W PySem.Calls HandSHeadRun
theorem run1 (w : World) (os : OsState) : (endF (stepQ (denQ tabQ) R.prog w) 12000 R.prog w os).map (fun s => (looksF R.prog (boot_heap w.params) s.abs, seenQ (PySem.W.view R.prog [37]) loose (importedModules R.prog.main.body) (fun s => xlAt (PySem.W.view R.prog [37]) [] s && recOk R.toRowW.records s) s.abs)) = some (true, openGood (PySem.W.view R.prog [37]) loose) := by kernel_rfl
theorem run2 (w : World) (os : OsState) : (endF (stepQ (denQ tabQ) R.prog w) 12000 R.prog w os).map (fun s => ob s) = some (hk.val w) := by kernel_rfl
theorem run (w : World) : RunEq R (PySem.W.view R.prog [37]) hk ob 12000 loose w := fun os => look2 (run1 w os) (run2 w os)
end
theorem facts {P : Program} {w : World} {K : PySem.W.Frag} {h : Heap} {mg : Str → Option Value} {f : Addr} (X : K.In h) (G : h.Ns mainGlobals mg) (hfa : mg ("law" : Str) = some (.ref f)) (c : SaysL Tb fa fn fw ex ts w K h) :
    (∀ p ∈ Tb, ∃ c, PySem.W.CodeHd h c p.1) ∧ ∃ fd : FuncData, (∀ (s : Shared) (v : Value), BindsTo s fd ⟨[v], []⟩ [("_law_script", v)]) ∧ ∀ base : Heap, K.In base → base.Ns mainGlobals mg → TbB base mg Tb → FnOkG P w K mg base (L2N.CX P w) 15 f fd ["_law_script"] (spD K 1 F_law) := by
  have ctb := c.tb
  have cw := c.toSaysW
  have c := cw.c
  obtain ⟨fd_is_integer, F_is_integer'⟩ := c.d.def_ 0 (d := d_is_integer) rfl
  obtain ⟨fd_is_list, F_is_list'⟩ := c.d.def_ 1 (d := d_is_list) rfl
  obtain ⟨fd_want_range, F_want_range'⟩ := c.d.def_ 2 (d := d_want_range) rfl
  obtain ⟨fd_is_step, F_is_step'⟩ := c.d.def_ 3 (d := d_is_step) rfl
  obtain ⟨fd_does_rise, F_does_rise'⟩ := c.d.def_ 4 (d := d_does_rise) rfl
  obtain ⟨fd_want_steps, F_want_steps'⟩ := c.d.def_ 5 (d := d_want_steps) rfl
  obtain ⟨fd_does_go_on, F_does_go_on'⟩ := c.d.def_ 6 (d := d_does_go_on) rfl
  obtain ⟨fd_one_form, F_one_form'⟩ := c.d.def_ 7 (d := d_one_form) rfl
  obtain ⟨fd_clipped, F_clipped'⟩ := c.d.def_ 8 (d := d_clipped) rfl
  obtain ⟨fd_joined_ranges, F_joined_ranges'⟩ := c.d.def_ 9 (d := d_joined_ranges) rfl
  obtain ⟨fd_RightStepsD_initD, F_RightStepsD_initD'⟩ := c.d.def_ 10 (d := d_RightStepsD_initD) rfl
  obtain ⟨fd_StairD_initD, F_StairD_initD'⟩ := c.d.def_ 11 (d := d_StairD_initD) rfl
  obtain ⟨fd_stair_of, F_stair_of'⟩ := c.d.def_ 12 (d := d_stair_of) rfl
  obtain ⟨fd_Stair_newer_of, F_Stair_newer_of'⟩ := c.d.def_ 13 (d := d_Stair_newer_of) rfl
  obtain ⟨fd_StairD_callD, F_StairD_callD'⟩ := c.d.def_ 14 (d := d_StairD_callD) rfl
  obtain ⟨fd_Stair_limited, F_Stair_limited'⟩ := c.d.def_ 15 (d := d_Stair_limited) rfl
  obtain ⟨fd_Stair_ranges, F_Stair_ranges'⟩ := c.d.def_ 16 (d := d_Stair_ranges) rfl
  obtain ⟨fd_Stair_cut_in, F_Stair_cut_in'⟩ := c.d.def_ 17 (d := d_Stair_cut_in) rfl
  obtain ⟨fd_law_pot, F_law_pot'⟩ := c.d.def_ 18 (d := d_law_pot) rfl
  obtain ⟨fd_law_draw, F_law_draw'⟩ := c.d.def_ 19 (d := d_law_draw) rfl
  obtain ⟨fd_law_pick, F_law_pick'⟩ := c.d.def_ 20 (d := d_law_pick) rfl
  obtain ⟨fd_law_steps, F_law_steps'⟩ := c.d.def_ 21 (d := d_law_steps) rfl
  obtain ⟨fd_law_told, F_law_told'⟩ := c.d.def_ 22 (d := d_law_told) rfl
  obtain ⟨fd_law_due, F_law_due'⟩ := c.d.def_ 23 (d := d_law_due) rfl
  obtain ⟨fd_law_wrong, F_law_wrong'⟩ := c.d.def_ 24 (d := d_law_wrong) rfl
  obtain ⟨fd_law_steps_right, F_law_steps_right'⟩ := c.d.def_ 25 (d := d_law_steps_right) rfl
  obtain ⟨fd_law_many_right, F_law_many_right'⟩ := c.d.def_ 26 (d := d_law_many_right) rfl
  obtain ⟨fd_law_marks_right, F_law_marks_right'⟩ := c.d.def_ 27 (d := d_law_marks_right) rfl
  obtain ⟨fd_law_right, F_law_right'⟩ := c.d.def_ 28 (d := d_law_right) rfl
  obtain ⟨fd_law, F_law'⟩ := c.d.def_ 29 (d := d_law) rfl
  obtain ⟨fd_Stair_stay, F_Stair_stay'⟩ := c.w.def_ 0 (d := d_Stair_stay) rfl
  have EX := c.more
  unfold ex at EX
  obtain ⟨EX0, EX⟩ := He.ba EX
  obtain ⟨EX1, EX⟩ := He.ba EX
  obtain ⟨EX2, EX⟩ := He.ba EX
  obtain ⟨EX3, EX⟩ := He.ba EX
  obtain ⟨EX4, EX⟩ := He.ba EX
  obtain ⟨EX5, EX⟩ := He.ba EX
  obtain ⟨EX6, EX⟩ := He.ba EX
  obtain ⟨EX7, EX⟩ := He.ba EX
  obtain ⟨EX8, EX⟩ := He.ba EX
  obtain ⟨EX9, EX⟩ := He.ba EX
  obtain ⟨EX10, EX⟩ := He.ba EX
  obtain ⟨EX11, EX⟩ := He.ba EX
  obtain ⟨EX12, EX⟩ := He.ba EX
  obtain ⟨EX13, EX⟩ := He.ba EX
  obtain ⟨EX14, EX⟩ := He.ba EX
  obtain ⟨EX15, EX⟩ := He.ba EX
  obtain ⟨EX16, EX⟩ := He.ba EX
  obtain ⟨EX17, EX⟩ := He.ba EX
  obtain ⟨EX18, EX⟩ := He.ba EX
  obtain ⟨EX19, EX⟩ := He.ba EX
  obtain ⟨EX20, EX⟩ := He.ba EX
  obtain ⟨EX21, EX⟩ := He.ba EX
  obtain ⟨EX22, EX⟩ := He.ba EX
  obtain ⟨EX23, EX⟩ := He.ba EX
  obtain ⟨EX24, EX⟩ := He.ba EX
  obtain ⟨EX25, EX⟩ := He.ba EX
  obtain ⟨EX26, EX⟩ := He.ba EX
  obtain ⟨EX27, EX⟩ := He.ba EX
  obtain ⟨EX28, EX⟩ := He.ba EX
  obtain ⟨EX29, EX⟩ := He.ba EX
  obtain ⟨EX30, EX⟩ := He.ba EX
  obtain ⟨EX31, EX⟩ := He.ba EX
  obtain ⟨EX32, EX⟩ := He.ba EX
  obtain ⟨EX33, EX⟩ := He.ba EX
  obtain ⟨EX34, EX⟩ := He.ba EX
  obtain ⟨EX35, EX⟩ := He.ba EX
  obtain ⟨EX36, EX⟩ := He.ba EX
  obtain ⟨EX37, EX⟩ := He.ba EX
  obtain ⟨EX38, EX⟩ := He.ba EX
  obtain ⟨EX39, EX⟩ := He.ba EX
  obtain ⟨EX40, EX⟩ := He.ba EX
  obtain ⟨EX41, EX⟩ := He.ba EX
  obtain ⟨EX42, EX⟩ := He.ba EX
  obtain ⟨EX43, EX⟩ := He.ba EX
  obtain ⟨EX44, EX⟩ := He.ba EX
  obtain ⟨EX45, EX⟩ := He.ba EX
  obtain ⟨EX46, EX⟩ := He.ba EX
  obtain ⟨EX47, EX⟩ := He.ba EX
  obtain ⟨EX48, EX⟩ := He.ba EX
  obtain ⟨EX49, EX⟩ := He.ba EX
  obtain ⟨EX50, EX⟩ := He.ba EX
  obtain ⟨EX51, EX⟩ := He.ba EX
  obtain ⟨EX52, EX⟩ := He.ba EX
  obtain ⟨EX53, EX⟩ := He.ba EX
  obtain ⟨EX54, EX⟩ := He.ba EX
  have hd : Hd K mg := ⟨He.free_ok X G (c.d.fact 0 (f := .free "isinstance") rfl), isaB_ok EX0, He.free_ok X G (c.d.fact 1 (f := .free "int") rfl), He.free_ok X G (c.d.fact 2 (f := .free "bool") rfl), He.free_ok X G (c.d.fact 3 (f := .free "list") rfl), He.free_ok X G (c.d.fact 4 (f := .free "tuple") rfl), He.free_ok X G (c.d.fact 5 (f := .free "len") rfl), He.free_ok X G (c.d.fact 6 (f := .free "all") rfl), He.free_ok X G (c.d.fact 7 (f := .free "enumerate") rfl), He.free_ok X G (c.d.fact 8 (f := .free "max") rfl), He.free_ok X G (c.d.fact 9 (f := .free "min") rfl), He.free_ok X G (c.d.fact 10 (f := .free "sorted") rfl), He.cls_ok (c.d.fact 11 (f := .cls "RightSteps") rfl), He.noat_ok (c.d.fact 12 (f := .noat "RightSteps" "told_steps") rfl), He.glo_ok X G (c.d.fact 13 (f := .glo "RightSteps") rfl), cvB_ok EX1, He.glo_ok X G (c.d.fact 14 (f := .glo "Stair") rfl), He.cls_ok (c.d.fact 15 (f := .cls "Stair") rfl), He.noat_ok (c.d.fact 16 (f := .noat "Stair" "own_steps") rfl), He.free_ok X G (c.d.fact 17 (f := .free "abs") rfl), He.free_ok X G (c.d.fact 18 (f := .free "divmod") rfl), He.free_ok X G (c.d.fact 19 (f := .free "range") rfl), exmB_ok EX2, exmB_ok EX3, exmB_ok EX4, exmB_ok EX5, exmB_ok EX6, kitTB_ok EX7, excB_ok EX8, He.free_ok X G (c.d.fact 20 (f := .free "ValueError") rfl), kitB_ok EX9, He.glo_ok X G (c.d.fact 21 (f := .glo "RoadError") rfl), He.free_ok X G (c.d.fact 22 (f := .free "repr") rfl), xfOk EX10, He.noat_ok (c.d.fact 23 (f := .noat "InvalidSteps" "position") rfl), sm_ok EX11, exmB_ok EX12, exmB_ok EX13, exmB_ok EX14, exmB_ok EX15, exmB_ok EX16, kitB_ok EX17, excB_ok EX18, xfOk EX19, He.noat_ok (c.d.fact 24 (f := .noat "InvalidMark" "value") rfl), exmB_ok EX20, exmB_ok EX21, exmB_ok EX22, exmB_ok EX23, exmB_ok EX24, kitB_ok EX25, excB_ok EX26, xfOk EX27, He.noat_ok (c.d.fact 25 (f := .noat "InvalidLength" "value") rfl), exmB_ok EX28, exmB_ok EX29, exmB_ok EX30, exmB_ok EX31, exmB_ok EX32, kitB_ok EX33, excB_ok EX34, xfOk EX35, He.noat_ok (c.d.fact 26 (f := .noat "InvalidRange" "value") rfl), exmB_ok EX36, exmB_ok EX37, exmB_ok EX38, exmB_ok EX39, exmB_ok EX40, kitTB_ok EX41, excB_ok EX42, He.free_ok X G (c.d.fact 27 (f := .free "ArithmeticError") rfl), kitB_ok EX43, He.glo_ok X G (c.d.fact 28 (f := .glo "LimitError") rfl), xfOk EX44, He.noat_ok (c.d.fact 29 (f := .noat "TooMany" "limit") rfl), He.noat_ok (c.d.fact 30 (f := .noat "TooMany" "what") rfl), He.glo_ok X G (c.d.fact 31 (f := .glo "TooMany") rfl), He.glo_ok X G (c.d.fact 32 (f := .glo "InvalidRange") rfl), He.glo_ok X G (c.d.fact 33 (f := .glo "InvalidLength") rfl), He.glo_ok X G (c.d.fact 34 (f := .glo "InvalidMark") rfl), He.glo_ok X G (c.d.fact 35 (f := .glo "InvalidSteps") rfl)⟩
  have e := hfa.symm.trans (He.glo_ok X G (c.d.fact 66 (f := .glo "law") rfl))
  cases e
  have b := FunD.bindsA (ps := ["_law_script"]) F_law' fun _ _ _ _ _ _ us hl => match us, hl with | [_], _ => rfl
  refine ⟨(fa_cons (lamB_code X EX52) (fa_cons (lamB_code X EX53) (fa_cons (lamB_code X EX54) fa_nil))), fd_law, fun s v => b s [v] rfl, fun base KB NB tB => ?_⟩
  obtain ⟨fd_InvalidStepsD_initD, F_InvalidStepsD_initD'⟩ := c.d.def_ 30 (d := d_InvalidStepsD_initD) rfl
  have ER_InvalidSteps : ErG P w K mg base "InvalidSteps" ["position"] ["self", "position"] 1 := ⟨"ValueError", "ValueError.__new__", "ValueError.__init__", veT, _, fd_InvalidStepsD_initD, PySem.F.excBase_ValueError, (erB_ok EX45).er ve_mok, (erB_ok EX45).no, (erB_ok EX45).ini, (erB_ok EX45).ty, fn_err1 (P := P) (w := w) (mg := mg) (base := base) (T := L2N.CX P w) (k := 0) (bmB := veT) (newId := "ValueError.__new__") (f1 := "position") F_InvalidStepsD_initD' sc_InvalidStepsD_initD (.inl rfl) (.inl rfl) (by decide) (by decide) (fun _ => rfl), (F_InvalidStepsD_initD'.bindsN fun _ _ _ _ _ _ us hl => match us, hl with | [_, _], _ => rfl), by decide, He.glo_ok X G (c.d.fact 35 (f := .glo "InvalidSteps") rfl)⟩
  obtain ⟨fd_InvalidMarkD_initD, F_InvalidMarkD_initD'⟩ := c.d.def_ 31 (d := d_InvalidMarkD_initD) rfl
  have ER_InvalidMark : ErG P w K mg base "InvalidMark" ["value"] ["self", "value"] 1 := ⟨"ValueError", "ValueError.__new__", "ValueError.__init__", veT, _, fd_InvalidMarkD_initD, PySem.F.excBase_ValueError, (erB_ok EX46).er ve_mok, (erB_ok EX46).no, (erB_ok EX46).ini, (erB_ok EX46).ty, fn_err1 (P := P) (w := w) (mg := mg) (base := base) (T := L2N.CX P w) (k := 0) (bmB := veT) (newId := "ValueError.__new__") (f1 := "value") F_InvalidMarkD_initD' sc_InvalidMarkD_initD (.inl rfl) (.inl rfl) (by decide) (by decide) (fun _ => rfl), (F_InvalidMarkD_initD'.bindsN fun _ _ _ _ _ _ us hl => match us, hl with | [_, _], _ => rfl), by decide, He.glo_ok X G (c.d.fact 34 (f := .glo "InvalidMark") rfl)⟩
  obtain ⟨fd_InvalidLengthD_initD, F_InvalidLengthD_initD'⟩ := c.d.def_ 32 (d := d_InvalidLengthD_initD) rfl
  have ER_InvalidLength : ErG P w K mg base "InvalidLength" ["value"] ["self", "value"] 1 := ⟨"ValueError", "ValueError.__new__", "ValueError.__init__", veT, _, fd_InvalidLengthD_initD, PySem.F.excBase_ValueError, (erB_ok EX47).er ve_mok, (erB_ok EX47).no, (erB_ok EX47).ini, (erB_ok EX47).ty, fn_err1 (P := P) (w := w) (mg := mg) (base := base) (T := L2N.CX P w) (k := 0) (bmB := veT) (newId := "ValueError.__new__") (f1 := "value") F_InvalidLengthD_initD' sc_InvalidLengthD_initD (.inl rfl) (.inl rfl) (by decide) (by decide) (fun _ => rfl), (F_InvalidLengthD_initD'.bindsN fun _ _ _ _ _ _ us hl => match us, hl with | [_, _], _ => rfl), by decide, He.glo_ok X G (c.d.fact 33 (f := .glo "InvalidLength") rfl)⟩
  obtain ⟨fd_InvalidRangeD_initD, F_InvalidRangeD_initD'⟩ := c.d.def_ 33 (d := d_InvalidRangeD_initD) rfl
  have ER_InvalidRange : ErG P w K mg base "InvalidRange" ["value"] ["self", "value"] 1 := ⟨"ValueError", "ValueError.__new__", "ValueError.__init__", veT, _, fd_InvalidRangeD_initD, PySem.F.excBase_ValueError, (erB_ok EX48).er ve_mok, (erB_ok EX48).no, (erB_ok EX48).ini, (erB_ok EX48).ty, fn_err1 (P := P) (w := w) (mg := mg) (base := base) (T := L2N.CX P w) (k := 0) (bmB := veT) (newId := "ValueError.__new__") (f1 := "value") F_InvalidRangeD_initD' sc_InvalidRangeD_initD (.inl rfl) (.inl rfl) (by decide) (by decide) (fun _ => rfl), (F_InvalidRangeD_initD'.bindsN fun _ _ _ _ _ _ us hl => match us, hl with | [_, _], _ => rfl), by decide, He.glo_ok X G (c.d.fact 32 (f := .glo "InvalidRange") rfl)⟩
  obtain ⟨fd_TooManyD_initD, F_TooManyD_initD'⟩ := c.d.def_ 34 (d := d_TooManyD_initD) rfl
  have ER_TooMany : ErG P w K mg base "TooMany" ["what", "limit"] ["self", "what", "limit"] 1 := ⟨"ArithmeticError", "ArithmeticError.__new__", "ArithmeticError.__init__", aeT, _, fd_TooManyD_initD, PySem.F.excBase_ArithmeticError, (erB_ok EX49).er ae_mok, (erB_ok EX49).no, (erB_ok EX49).ini, (erB_ok EX49).ty, fn_err2 (P := P) (w := w) (mg := mg) (base := base) (T := L2N.CX P w) (k := 0) (bmB := aeT) (newId := "ArithmeticError.__new__") (f1 := "what") (f2 := "limit") F_TooManyD_initD' sc_TooManyD_initD (.inl rfl) (.inl rfl) (.inl rfl) (by decide) (by decide) (by decide) (by decide) (fun _ => rfl) (fun _ => rfl), (F_TooManyD_initD'.bindsN fun _ _ _ _ _ _ us hl => match us, hl with | [_, _, _], _ => rfl), by decide, He.glo_ok X G (c.d.fact 31 (f := .glo "TooMany") rfl)⟩
  obtain ⟨fd_StairD_reprD, F_StairD_reprD'⟩ := c.d.def_ 35 (d := d_StairD_reprD) rfl
  have RP_Stair : RpG P w K mg base "Stair" "own_steps" "Stair(" ")" 1 := ⟨_, _, (He.meth_ok (c.d.fact 36 (f := .meth "Stair" "__repr__") rfl)).at_, (He.meth_ok (c.d.fact 36 (f := .meth "Stair" "__repr__") rfl)).fn, fn_repr F_StairD_reprD' sc_StairD_reprD (fun cdv A out s H E => pe_lsf hd.c_Stair hd.n_Stair_own_steps hd.g_list), (F_StairD_reprD'.bindsN fun _ _ _ _ _ _ us hl => match us, hl with | [_], _ => rfl)⟩
  have o_is_integer := ok_is_integer (P := P) (w := w) (base := base) hd  F_is_integer'
  have G_is_integer : FnG P w K mg base "is_integer" ["value"] 1 F_is_integer := ⟨_, _, He.glo_ok X G (c.d.fact 37 (f := .glo "is_integer") rfl), o_is_integer, F_is_integer'.kp, (F_is_integer'.bindsN fun _ _ _ _ _ _ us hl => match us, hl with | [_], _ => rfl)⟩
  have o_is_list := ok_is_list (P := P) (w := w) (base := base) hd  F_is_list'
  have G_is_list : FnG P w K mg base "is_list" ["value"] 1 F_is_list := ⟨_, _, He.glo_ok X G (c.d.fact 38 (f := .glo "is_list") rfl), o_is_list, F_is_list'.kp, (F_is_list'.bindsN fun _ _ _ _ _ _ us hl => match us, hl with | [_], _ => rfl)⟩
  have o_want_range := ok_want_range (P := P) (w := w) (base := base) hd G_is_integer ER_InvalidRange F_want_range'
  have G_want_range : FnG P w K mg base "want_range" ["first", "end"] 3 F_want_range := ⟨_, _, He.glo_ok X G (c.d.fact 39 (f := .glo "want_range") rfl), o_want_range, F_want_range'.kp, (F_want_range'.bindsN fun _ _ _ _ _ _ us hl => match us, hl with | [_, _], _ => rfl)⟩
  have o_is_step := ok_is_step (P := P) (w := w) (base := base) hd G_is_integer F_is_step'
  have G_is_step : FnG P w K mg base "is_step" ["value"] 2 F_is_step := ⟨_, _, He.glo_ok X G (c.d.fact 40 (f := .glo "is_step") rfl), o_is_step, F_is_step'.kp, (F_is_step'.bindsN fun _ _ _ _ _ _ us hl => match us, hl with | [_], _ => rfl)⟩
  have o_does_rise := ok_does_rise (P := P) (w := w) (base := base) hd  F_does_rise'
  have G_does_rise : FnG P w K mg base "does_rise" ["before", "step"] 1 F_does_rise := ⟨_, _, He.glo_ok X G (c.d.fact 41 (f := .glo "does_rise") rfl), o_does_rise, F_does_rise'.kp, (F_does_rise'.bindsN fun _ _ _ _ _ _ us hl => match us, hl with | [_, _], _ => rfl)⟩
  have o_want_steps := ok_want_steps (P := P) (w := w) (base := base) hd G_is_list ER_InvalidSteps G_is_step G_does_rise F_want_steps'
  have G_want_steps : FnG P w K mg base "want_steps" ["steps"] 3 F_want_steps := ⟨_, _, He.glo_ok X G (c.d.fact 42 (f := .glo "want_steps") rfl), o_want_steps, F_want_steps'.kp, (F_want_steps'.bindsN fun _ _ _ _ _ _ us hl => match us, hl with | [_], _ => rfl)⟩
  have o_does_go_on := ok_does_go_on (P := P) (w := w) (base := base) hd  F_does_go_on'
  have G_does_go_on : FnG P w K mg base "does_go_on" ["step", "elder", "newer"] 1 F_does_go_on := ⟨_, _, He.glo_ok X G (c.d.fact 43 (f := .glo "does_go_on") rfl), o_does_go_on, F_does_go_on'.kp, (F_does_go_on'.bindsN fun _ _ _ _ _ _ us hl => match us, hl with | [_, _, _], _ => rfl)⟩
  have o_one_form := ok_one_form (P := P) (w := w) (base := base) hd G_does_go_on F_one_form'
  have G_one_form : FnG P w K mg base "one_form" ["steps"] 2 F_one_form := ⟨_, _, He.glo_ok X G (c.d.fact 44 (f := .glo "one_form") rfl), o_one_form, F_one_form'.kp, (F_one_form'.bindsN fun _ _ _ _ _ _ us hl => match us, hl with | [_], _ => rfl)⟩
  have o_clipped := ok_clipped (P := P) (w := w) (base := base) hd  F_clipped'
  have G_clipped : FnG P w K mg base "clipped" ["step", "first", "end"] 1 F_clipped := ⟨_, _, He.glo_ok X G (c.d.fact 45 (f := .glo "clipped") rfl), o_clipped, F_clipped'.kp, (F_clipped'.bindsN fun _ _ _ _ _ _ us hl => match us, hl with | [_, _, _], _ => rfl)⟩
  have o_joined_ranges := ok_joined_ranges (P := P) (w := w) (base := base) hd  F_joined_ranges'
  have G_joined_ranges : FnG P w K mg base "joined_ranges" ["ranges"] 1 F_joined_ranges := ⟨_, _, He.glo_ok X G (c.d.fact 46 (f := .glo "joined_ranges") rfl), o_joined_ranges, F_joined_ranges'.kp, (F_joined_ranges'.bindsN fun _ _ _ _ _ _ us hl => match us, hl with | [_], _ => rfl)⟩
  have o_RightStepsD_initD := ok_RightStepsD_initD (P := P) (w := w) (base := base) hd G_one_form F_RightStepsD_initD'
  have K_RightSteps : MkG P w K mg base "RightSteps" ["self", "steps"] 3 F_RightStepsD_initD := ⟨_, _, He.mkr_ok (c.d.fact 47 (f := .mkr "RightSteps") rfl), He.glo_ok X G (c.d.fact 13 (f := .glo "RightSteps") rfl), o_RightStepsD_initD, (F_RightStepsD_initD'.bindsN fun _ _ _ _ _ _ us hl => match us, hl with | [_, _], _ => rfl)⟩
  have o_StairD_initD := ok_StairD_initD (P := P) (w := w) (base := base) hd G_want_steps ER_TooMany G_one_form F_StairD_initD'
  have K_Stair : MkG P w K mg base "Stair" ["self", "steps"] 4 F_StairD_initD := ⟨_, _, He.mkr_ok (c.d.fact 48 (f := .mkr "Stair") rfl), He.glo_ok X G (c.d.fact 14 (f := .glo "Stair") rfl), o_StairD_initD, (F_StairD_initD'.bindsN fun _ _ _ _ _ _ us hl => match us, hl with | [_, _], _ => rfl)⟩
  have KK_Stair_steps : MkK P w K mg base "Stair" ["self", "steps"] ["steps"] [0] 4 F_StairD_initD := ⟨_, _, He.mkr_ok (c.d.fact 48 (f := .mkr "Stair") rfl), He.glo_ok X G (c.d.fact 14 (f := .glo "Stair") rfl), o_StairD_initD, kwB_of F_StairD_initD' fun _ _ _ _ _ _ us ws h1 h2 => match us, ws, h1, h2 with | [_], [_], _, _ => rfl⟩
  have o_stair_of := ok_stair_of (P := P) (w := w) (base := base) hd K_RightSteps K_Stair F_stair_of'
  have G_stair_of : FnG P w K mg base "stair_of" ["steps"] 6 F_stair_of := ⟨_, _, He.glo_ok X G (c.d.fact 49 (f := .glo "stair_of") rfl), o_stair_of, F_stair_of'.kp, (F_stair_of'.bindsN fun _ _ _ _ _ _ us hl => match us, hl with | [_], _ => rfl)⟩
  have o_Stair_stay := ok_Stair_stay (P := P) (w := w) (base := base) hd G_is_integer ER_InvalidMark ER_InvalidLength K_Stair F_Stair_stay'
  have CM_Stair_stay : CmG P w K mg base "Stair" "stay" ["cls", "first", "length"] 6 F_Stair_stay := ⟨_, _, _, _, (cmB_ok EX50).1, (cmB_ok EX50).2, o_Stair_stay, (F_Stair_stay'.bindsN fun _ _ _ _ _ _ us hl => match us, hl with | [_, _, _], _ => rfl)⟩
  have CK_Stair_stay_length_first : CmK P w K mg base "Stair" "stay" ["cls", "first", "length"] ["length", "first"] [0, 2, 1] 6 F_Stair_stay := ⟨_, _, _, _, (cmB_ok EX50).1, (cmB_ok EX50).2, o_Stair_stay, kwB_of F_Stair_stay' fun _ _ _ _ _ _ us ws h1 h2 => match us, ws, h1, h2 with | [_], [_, _], _, _ => rfl⟩
  have o_Stair_newer_of := ok_Stair_newer_of (P := P) (w := w) (base := base) hd  F_Stair_newer_of'
  have M_Stair_newer_of : MtG P w K mg base "Stair" "newer_of" ["self", "mark"] 1 F_Stair_newer_of := ⟨_, _, He.meth_ok (c.d.fact 50 (f := .meth "Stair" "newer_of") rfl), o_Stair_newer_of, (F_Stair_newer_of'.bindsN fun _ _ _ _ _ _ us hl => match us, hl with | [_, _], _ => rfl)⟩
  have o_StairD_callD := ok_StairD_callD (P := P) (w := w) (base := base) hd G_is_integer ER_InvalidMark M_Stair_newer_of F_StairD_callD'
  have C_StairD_callD : ClG P w K mg base "Stair" ["self", "mark"] 3 F_StairD_callD := ⟨_, _, ⟨(He.meth_ok (c.d.fact 51 (f := .meth "Stair" "__call__") rfl)).at_, (He.meth_ok (c.d.fact 51 (f := .meth "Stair" "__call__") rfl)).fn, EX51⟩, o_StairD_callD, (F_StairD_callD'.bindsN fun _ _ _ _ _ _ us hl => match us, hl with | [_, _], _ => rfl)⟩
  have o_Stair_limited := ok_Stair_limited (P := P) (w := w) (base := base) hd G_want_range G_clipped G_stair_of F_Stair_limited'
  have M_Stair_limited : MtG P w K mg base "Stair" "limited" ["self", "first", "end"] 7 F_Stair_limited := ⟨_, _, He.meth_ok (c.d.fact 52 (f := .meth "Stair" "limited") rfl), o_Stair_limited, (F_Stair_limited'.bindsN fun _ _ _ _ _ _ us hl => match us, hl with | [_, _, _], _ => rfl)⟩
  have o_Stair_ranges := ok_Stair_ranges (P := P) (w := w) (base := base) hd M_Stair_limited G_joined_ranges F_Stair_ranges'
  have W_Stair_ranges_end_first : MtK P w K mg base "Stair" "ranges" ["self", "first", "end"] ["end", "first"] [0, 2, 1] 8 F_Stair_ranges := ⟨_, _, He.meth_ok (c.d.fact 53 (f := .meth "Stair" "ranges") rfl), o_Stair_ranges, kwB_of F_Stair_ranges' fun _ _ _ _ _ _ us ws h1 h2 => match us, ws, h1, h2 with | [_], [_, _], _, _ => rfl⟩
  have o_Stair_cut_in := ok_Stair_cut_in (P := P) (w := w) (base := base) hd M_Stair_limited F_Stair_cut_in'
  have M_Stair_cut_in : MtG P w K mg base "Stair" "cut_in" ["self", "first", "end"] 8 F_Stair_cut_in := ⟨_, _, He.meth_ok (c.d.fact 54 (f := .meth "Stair" "cut_in") rfl), o_Stair_cut_in, (F_Stair_cut_in'.bindsN fun _ _ _ _ _ _ us hl => match us, hl with | [_, _, _], _ => rfl)⟩
  have o_law_pot := ok_law_pot (P := P) (w := w) (base := base) hd  F_law_pot'
  have G_law_pot : FnG P w K mg base "_law_pot" ["_law_script", "_law_k"] 1 F_law_pot := ⟨_, _, He.glo_ok X G (c.d.fact 55 (f := .glo "_law_pot") rfl), o_law_pot, F_law_pot'.kp, (F_law_pot'.bindsN fun _ _ _ _ _ _ us hl => match us, hl with | [_, _], _ => rfl)⟩
  have o_law_draw := ok_law_draw (P := P) (w := w) (base := base) hd  F_law_draw'
  have G_law_draw : FnG P w K mg base "_law_draw" ["_law_pot_here", "_law_size"] 1 F_law_draw := ⟨_, _, He.glo_ok X G (c.d.fact 56 (f := .glo "_law_draw") rfl), o_law_draw, F_law_draw'.kp, (F_law_draw'.bindsN fun _ _ _ _ _ _ us hl => match us, hl with | [_, _], _ => rfl)⟩
  have o_law_pick := ok_law_pick (P := P) (w := w) (base := base) hd G_law_draw F_law_pick'
  have G_law_pick : FnG P w K mg base "_law_pick" ["_law_pot_here", "_law_some"] 2 F_law_pick := ⟨_, _, He.glo_ok X G (c.d.fact 57 (f := .glo "_law_pick") rfl), o_law_pick, F_law_pick'.kp, (F_law_pick'.bindsN fun _ _ _ _ _ _ us hl => match us, hl with | [_, _], _ => rfl)⟩
  have o_law_steps := ok_law_steps (P := P) (w := w) (base := base) hd G_law_draw F_law_steps'
  have G_law_steps : FnG P w K mg base "_law_steps" ["_law_pot_here", "_law_most"] 2 F_law_steps := ⟨_, _, He.glo_ok X G (c.d.fact 58 (f := .glo "_law_steps") rfl), o_law_steps, F_law_steps'.kp, (F_law_steps'.bindsN fun _ _ _ _ _ _ us hl => match us, hl with | [_, _], _ => rfl)⟩
  have H_law_told : ∀ j, HearG P w K mg base "_law_told" j (j + 3) FH_law_told := fun j => ok_law_told (P := P) (w := w) (base := base) j hd  F_law_told' (He.glo_ok X G (c.d.fact 59 (f := .glo "_law_told") rfl)) F_law_told'.kp (F_law_told'.bindsN fun _ _ _ _ _ _ us hl => match us, hl with | [_], _ => rfl)
  have o_law_due := ok_law_due (P := P) (w := w) (base := base) hd  F_law_due'
  have G_law_due : FnG P w K mg base "_law_due" ["_law_word", "_law_thing"] 1 F_law_due := ⟨_, _, He.glo_ok X G (c.d.fact 60 (f := .glo "_law_due") rfl), o_law_due, F_law_due'.kp, (F_law_due'.bindsN fun _ _ _ _ _ _ us hl => match us, hl with | [_, _], _ => rfl)⟩
  have o_law_wrong := ok_law_wrong (P := P) (w := w) (base := base) hd G_law_draw G_law_pick F_law_wrong'
  have G_law_wrong : FnG P w K mg base "_law_wrong" ["_law_pot_here", "_law_rows"] 3 F_law_wrong := ⟨_, _, He.glo_ok X G (c.d.fact 61 (f := .glo "_law_wrong") rfl), o_law_wrong, F_law_wrong'.kp, (F_law_wrong'.bindsN fun _ _ _ _ _ _ us hl => match us, hl with | [_, _], _ => rfl)⟩
  have TL_law_steps_right : ∀ cd, fd_law_steps_right.code = cd → LamG base K mg "_law_steps_right" cd := fun cd ec => ec ▸ lamG_of (T := Tb) KB tB ctb F_law_steps_right' EX52 (by decide) (by decide)
  have o_law_steps_right := ok_law_steps_right (P := P) (w := w) (base := base) hd G_law_steps G_law_draw G_law_wrong G_law_pick K_Stair H_law_told TL_law_steps_right KK_Stair_steps G_law_due F_law_steps_right'
  have G_law_steps_right : FnG P w K mg base "_law_steps_right" ["_law_pot_here"] 10 F_law_steps_right := ⟨_, _, He.glo_ok X G (c.d.fact 62 (f := .glo "_law_steps_right") rfl), o_law_steps_right, F_law_steps_right'.kp, (F_law_steps_right'.bindsN fun _ _ _ _ _ _ us hl => match us, hl with | [_], _ => rfl)⟩
  have TL_law_many_right : ∀ cd, fd_law_many_right.code = cd → LamG base K mg "_law_many_right" cd := fun cd ec => ec ▸ lamG_of (T := Tb) KB tB ctb F_law_many_right' EX53 (by decide) (by decide)
  have o_law_many_right := ok_law_many_right (P := P) (w := w) (base := base) hd G_law_draw K_Stair H_law_told TL_law_many_right F_law_many_right'
  have G_law_many_right : FnG P w K mg base "_law_many_right" ["_law_pot_here"] 10 F_law_many_right := ⟨_, _, He.glo_ok X G (c.d.fact 63 (f := .glo "_law_many_right") rfl), o_law_many_right, F_law_many_right'.kp, (F_law_many_right'.bindsN fun _ _ _ _ _ _ us hl => match us, hl with | [_], _ => rfl)⟩
  have TL_law_marks_right : ∀ cd, fd_law_marks_right.code = cd → LamG base K mg "_law_marks_right" cd := fun cd ec => ec ▸ lamG_of (T := Tb) KB tB ctb F_law_marks_right' EX54 (by decide) (by decide)
  have o_law_marks_right := ok_law_marks_right (P := P) (w := w) (base := base) hd G_law_pick G_law_draw C_StairD_callD H_law_told TL_law_marks_right CM_Stair_stay CK_Stair_stay_length_first G_law_due M_Stair_limited W_Stair_ranges_end_first M_Stair_cut_in F_law_marks_right'
  have G_law_marks_right : FnG P w K mg base "_law_marks_right" ["_law_pot_here", "_law_made"] 13 F_law_marks_right := ⟨_, _, He.glo_ok X G (c.d.fact 64 (f := .glo "_law_marks_right") rfl), o_law_marks_right, F_law_marks_right'.kp, (F_law_marks_right'.bindsN fun _ _ _ _ _ _ us hl => match us, hl with | [_, _], _ => rfl)⟩
  have o_law_right := ok_law_right (P := P) (w := w) (base := base) hd G_law_steps K_Stair RP_Stair G_law_steps_right G_law_marks_right G_law_many_right F_law_right'
  have G_law_right : FnG P w K mg base "_law_right" ["_law_pot_here"] 14 F_law_right := ⟨_, _, He.glo_ok X G (c.d.fact 65 (f := .glo "_law_right") rfl), o_law_right, F_law_right'.kp, (F_law_right'.bindsN fun _ _ _ _ _ _ us hl => match us, hl with | [_], _ => rfl)⟩
  have o_law := ok_law (P := P) (w := w) (base := base) hd G_law_pot G_law_right F_law'
  exact o_law
end K10


set_option Elab.async false
set_option linter.all false
set_option maxRecDepth 100000
/-! TnBase: typed values of denotations. A frame's slots and own cells by a pattern; what a denotation comes to. -/
namespace Tn
open PySem L2 Dn

/-- a slot: unknown, a value, a cell of its own -/
inductive Sl where
  | un | pl (d : D) | ow (c : Cell)
structure Rw (A : Om) (P : List Sl) (Γ : Gm) (Ω : Om) : Prop where
  len : P.length = Γ.length
  base : ∃ W, Ω = A ++ W
  pl : ∀ (i : Nat) d, P[i]? = some (.pl d) → Γ[i]? = some (some d)
  ow : ∀ (i : Nat) c, P[i]? = some (.ow c) → ∃ n, Γ[i]? = some (some (.ref n)) ∧ A.length ≤ n ∧ Ω[n]? = some c
  dis : ∀ (i j : Nat) c c' n, P[i]? = some (.ow c) → P[j]? = some (.ow c') → Γ[i]? = some (some (.ref n)) → Γ[j]? = some (some (.ref n)) → i = j
  pure : PureA A Ω
/-- the outer cells come to A', the frame's own stay -/
structure Ext (A' : Om) (Ω Ω' : Om) : Prop where
  base : ∃ W, Ω' = A' ++ W
  pure : PureA A' Ω'
  keep : ∀ n : Nat, A'.length ≤ n → n < Ω.length → Ω'[n]? = Ω[n]?
theorem Rw.pu {A : Om} {P : List Sl} {Γ : Gm} {Ω : Om} (w : Rw A P Γ Ω) : PureΩ Ω := w.pure.all w.base
theorem Ext.pu {A' Ω Ω' : Om} (x : Ext A' Ω Ω') : PureΩ Ω' := x.pure.all x.base
theorem Rw.refl {A : Om} {P : List Sl} {Γ : Gm} {Ω : Om} (w : Rw A P Γ Ω) : Ext A Ω Ω := ⟨w.base, w.pure, fun _ _ _ => rfl⟩
theorem Rw.ext {A A' : Om} {P : List Sl} {Γ : Gm} {Ω Ω' : Om} (w : Rw A P Γ Ω) (x : Ext A' Ω Ω') (hl : A'.length = A.length) : Rw A' P Γ Ω' :=
  ⟨w.len, x.base, w.pl, fun i c h => by
    obtain ⟨n, z1, z2, z3⟩ := w.ow i c h
    refine ⟨n, z1, by rw [hl]; exact z2, ?_⟩
    rw [x.keep n (by rw [hl]; exact z2) (List.getElem?_eq_some_iff.mp z3).1]
    exact z3, w.dis, x.pure⟩
theorem Ext.trans {A1 A2 Ω Ω1 Ω2 : Om} (x : Ext A1 Ω Ω1) (y : Ext A2 Ω1 Ω2) (hl : A2.length = A1.length) : Ext A2 Ω Ω2 :=
  ⟨y.base, y.pure, fun n h1 h2 => by
    have e := x.keep n (by rw [← hl]; exact h1) h2
    have h3 : n < Ω1.length := by
      rw [List.getElem?_eq_getElem h2] at e
      exact (List.getElem?_eq_some_iff.mp e).1
    rw [y.keep n h1 h3, e]⟩
/-- f comes to a -/
def TE {α : Type} (A : Om) (P : List Sl) (f : Den α) (a : α) (A' : Om) : Prop := A'.length = A.length ∧ ∀ Γ Ω, Rw A P Γ Ω → ∃ Ω', f Γ Ω = some (.ok a, Ω') ∧ Ext A' Ω Ω'
inductive Fo where
  | nx (P : List Sl) | rt (d : D) | rc (c : Cell)
def TBo (A : Om) (b : DenS) (Γ : Gm) (Ω : Om) (A' : Om) : Fo → Prop
  | .nx P' => ∃ Γ' Ω', b Γ Ω = some (.nx, Γ', Ω') ∧ Rw A' P' Γ' Ω'
  | .rt d => ∃ Γ' Ω', b Γ Ω = some (.rt d, Γ', Ω') ∧ (∃ W, Ω' = A' ++ W) ∧ PureA A' Ω'
  | .rc c => ∃ Γ' Ω' n, b Γ Ω = some (.rt (.ref n), Γ', Ω') ∧ (∃ W, Ω' = A' ++ W) ∧ PureA A' Ω' ∧ A.length ≤ n ∧ Ω'[n]? = some c
def TB (A : Om) (P : List Sl) (b : DenS) (o : Fo) (A' : Om) : Prop := A'.length = A.length ∧ ∀ Γ Ω, Rw A P Γ Ω → TBo A b Γ Ω A' o

/-! ### patterns -/
inductive Pw : List Sl → List Sl → Prop where
  | nil : Pw [] []
  | same {s : Sl} {P Q : List Sl} : Pw P Q → Pw (s :: P) (s :: Q)
  | un {s : Sl} {P Q : List Sl} : Pw P Q → Pw (s :: P) (.un :: Q)
theorem Pw.rfl : ∀ {P : List Sl}, Pw P P
  | [] => .nil
  | _ :: _ => .same Pw.rfl
theorem Pw.len : ∀ {P Q : List Sl}, Pw P Q → Q.length = P.length
  | _, _, .nil => Eq.refl _
  | _, _, .same h => by simp [h.len]
  | _, _, .un h => by simp [h.len]
theorem Pw.at : ∀ {P Q : List Sl} (_ : Pw P Q) (i : Nat) (s : Sl), Q[i]? = some s → s = .un ∨ P[i]? = some s
  | _, _, .nil, i, s, e => by simp at e
  | _, _, .same h, 0, s, e => .inr e
  | _, _, .same h, i + 1, s, e => by
    have := h.at i s (by simpa using e)
    simpa using this
  | _, _, .un h, 0, s, e => by simp at e; exact .inl e.symm
  | _, _, .un h, i + 1, s, e => by
    have := h.at i s (by simpa using e)
    simpa using this
section
variable {A A1 A2 A' : Om} {P P1 Q : List Sl} {Γ : Gm} {Ω : Om}
theorem Rw.weak (r : Rw A P Γ Ω) (w : Pw P Q) : Rw A Q Γ Ω := by
  refine ⟨w.len.trans r.len, r.base, fun i d h => ?_, fun i c h => ?_, fun i j c c' n h1 h2 => ?_, r.pure⟩
  · rcases w.at i _ h with z | z
    · cases z
    · exact r.pl i d z
  · rcases w.at i _ h with z | z
    · cases z
    · exact r.ow i c z
  · rcases w.at i _ h1 with z | z
    · cases z
    · rcases w.at j _ h2 with y | y
      · cases y
      · exact r.dis i j c c' n z y
theorem getElem?_set_cases {α : Type} {l : List α} {i j : Nat} {a b : α} (h : (l.set i a)[j]? = some b) : (j = i ∧ b = a ∧ i < l.length) ∨ (j ≠ i ∧ l[j]? = some b) := by
  by_cases e : j = i
  · subst e
    have hl : j < l.length := by
      have := (List.getElem?_eq_some_iff.mp h).1
      rwa [List.length_set] at this
    rw [List.getElem?_set_self hl] at h
    exact .inl ⟨rfl, (Option.some.inj h).symm, hl⟩
  · rw [List.getElem?_set_ne (Ne.symm e)] at h
    exact .inr ⟨e, h⟩
theorem Rw.set (r : Rw A P Γ Ω) (i : Nat) (d : D) : Rw A (P.set i (.pl d)) (Γ.set i (some d)) Ω := by
  refine ⟨by rw [List.length_set, List.length_set, r.len], r.base, fun j e h => ?_, fun j c h => ?_, fun j k c c' n h1 h2 h3 h4 => ?_, r.pure⟩
  · rcases getElem?_set_cases h with ⟨rfl, e1, hl⟩ | ⟨hj, h⟩
    · cases e1
      rw [List.getElem?_set_self (by rw [← r.len]; exact hl)]
    · rw [List.getElem?_set_ne (Ne.symm hj)]
      exact r.pl j e h
  · rcases getElem?_set_cases h with ⟨rfl, e1, hl⟩ | ⟨hj, h⟩
    · cases e1
    · rw [List.getElem?_set_ne (Ne.symm hj)]
      exact r.ow j c h
  · rcases getElem?_set_cases h1 with ⟨rfl, e1, hl⟩ | ⟨hj, h1⟩
    · cases e1
    · rcases getElem?_set_cases h2 with ⟨rfl, e1, hl⟩ | ⟨hk, h2⟩
      · cases e1
      · rw [List.getElem?_set_ne (Ne.symm hj)] at h3
        rw [List.getElem?_set_ne (Ne.symm hk)] at h4
        exact r.dis j k c c' n h1 h2 h3 h4
/-- a new cell of one's own -/
theorem Rw.new (r : Rw A P Γ Ω) (i : Nat) (c : Cell) (hc : cellBelow 0 c = true) : Rw A (P.set i (.ow c)) (Γ.set i (some (.ref Ω.length))) (Ω ++ [c]) := by
  have hb : A.length ≤ Ω.length := by obtain ⟨W, e⟩ := r.base; rw [e]; simp
  refine ⟨by rw [List.length_set, List.length_set, r.len], ?_, fun j e h => ?_, fun j c' h => ?_, fun j k c1 c2 n h1 h2 h3 h4 => ?_, r.pure.add hc⟩
  · obtain ⟨W, e⟩ := r.base
    exact ⟨W ++ [c], by rw [e, List.append_assoc]⟩
  · rcases getElem?_set_cases h with ⟨rfl, e1, hl⟩ | ⟨hj, h⟩
    · cases e1
    · rw [List.getElem?_set_ne (Ne.symm hj)]
      exact r.pl j e h
  · rcases getElem?_set_cases h with ⟨rfl, e1, hl⟩ | ⟨hj, h⟩
    · cases e1
      exact ⟨Ω.length, by rw [List.getElem?_set_self (by rw [← r.len]; exact hl)], hb, by simp⟩
    · obtain ⟨n, z1, z2, z3⟩ := r.ow j c' h
      refine ⟨n, by rw [List.getElem?_set_ne (Ne.symm hj)]; exact z1, z2, ?_⟩
      rw [List.getElem?_append_left (List.getElem?_eq_some_iff.mp z3).1]
      exact z3
  · rcases getElem?_set_cases h1 with ⟨rfl, e1, hl⟩ | ⟨hj, h1⟩
    · rcases getElem?_set_cases h2 with ⟨rfl, e2, hk⟩ | ⟨hk, h2⟩
      · rfl
      · rw [List.getElem?_set_self (by rw [← r.len]; exact hl)] at h3
        cases h3
        rw [List.getElem?_set_ne (Ne.symm hk)] at h4
        obtain ⟨n, z1, z2, z3⟩ := r.ow k c2 h2
        rw [z1] at h4
        cases h4
        have := (List.getElem?_eq_some_iff.mp z3).1
        omega
    · have h1' := h1
      rcases getElem?_set_cases h2 with ⟨ek, e2, hk⟩ | ⟨hk, h2⟩
      · rw [ek, List.getElem?_set_self (by rw [← r.len]; exact hk)] at h4
        cases h4
        rw [List.getElem?_set_ne (Ne.symm hj)] at h3
        obtain ⟨n, z1, z2, z3⟩ := r.ow j c1 h1'
        rw [z1] at h3
        cases h3
        have := (List.getElem?_eq_some_iff.mp z3).1
        omega
      · rw [List.getElem?_set_ne (Ne.symm hj)] at h3
        rw [List.getElem?_set_ne (Ne.symm hk)] at h4
        exact r.dis j k c1 c2 n h1 h2 h3 h4
/-- a cell of one's own is changed -/
theorem Rw.chg (r : Rw A P Γ Ω) {i n : Nat} {c c' : Cell} (hi : P[i]? = some (.ow c)) (hn : Γ[i]? = some (some (.ref n))) (hc : cellBelow 0 c' = true) : Rw A (P.set i (.ow c')) Γ (Ω.set n c') := by
  obtain ⟨n', z1, z2, z3⟩ := r.ow i c hi
  rw [hn] at z1
  cases z1
  refine ⟨by rw [List.length_set, r.len], ?_, fun j e h => ?_, fun j c1 h => ?_, fun j k c1 c2 m h1 h2 h3 h4 => ?_, r.pure.set hc⟩
  · obtain ⟨W, e⟩ := r.base
    exact ⟨W.set (n - A.length) c', by rw [e, List.set_append_right _ _ z2]⟩
  · rcases getElem?_set_cases h with ⟨rfl, e1, hl⟩ | ⟨hj, h⟩
    · cases e1
    · exact r.pl j e h
  · rcases getElem?_set_cases h with ⟨rfl, e1, hl⟩ | ⟨hj, h⟩
    · cases e1
      exact ⟨n, hn, z2, by rw [List.getElem?_set_self (List.getElem?_eq_some_iff.mp z3).1]⟩
    · obtain ⟨m, y1, y2, y3⟩ := r.ow j c1 h
      refine ⟨m, y1, y2, ?_⟩
      have hm : n ≠ m := fun e => by
        subst e
        exact hj (r.dis j i c1 c n h hi y1 hn)
      rw [List.getElem?_set_ne hm]
      exact y3
  · rcases getElem?_set_cases h1 with ⟨rfl, e1, hl⟩ | ⟨hj, h1⟩
    · rcases getElem?_set_cases h2 with ⟨rfl, e2, hk⟩ | ⟨hk, h2⟩
      · rfl
      · exact r.dis j k _ c2 m hi h2 h3 h4
    · rcases getElem?_set_cases h2 with ⟨ek, e2, hk⟩ | ⟨hk, h2⟩
      · exact r.dis j k c1 _ m h1 (by rw [ek]; exact hi) h3 h4
      · exact r.dis j k c1 c2 m h1 h2 h3 h4
/-- the cells ahead of the frame's are changed -/
theorem Rw.outer (r : Rw A P Γ Ω) {n : Nat} {c : Cell} (hn : n < A.length) (hc : cellBelow 0 c = true) : Rw (A.set n c) P Γ (Ω.set n c) := by
  refine ⟨r.len, ?_, r.pl, fun i c' h => ?_, r.dis, r.pure.setO hn (cellBelow_up hc)⟩
  · obtain ⟨W, e⟩ := r.base
    exact ⟨W, by rw [e, List.set_append_left _ _ hn]⟩
  · obtain ⟨m, y1, y2, y3⟩ := r.ow i c' h
    refine ⟨m, y1, by rw [List.length_set]; exact y2, ?_⟩
    rw [List.getElem?_set_ne (by omega)]
    exact y3
end
/-! ### expressions -/
section
variable {α β : Type} {A A1 A2 A' : Om} {P P1 Q : List Sl} {f g : Den D} {d x y : D} {ds : List D} {r : Den (List D)}
theorem te_bnd {f : Den α} {k : α → Den β} {a : α} {b : β} (h1 : TE A P f a A1) (h2 : TE A1 P (k a) b A2) : TE A P (bnd f k) b A2 := by
  refine ⟨h2.1.trans h1.1, fun Γ Ω w => ?_⟩
  obtain ⟨Ω1, e1, w1⟩ := h1.2 Γ Ω w
  obtain ⟨Ω2, e2, w2⟩ := h2.2 Γ Ω1 (w.ext w1 h1.1)
  exact ⟨Ω2, by unfold bnd; rw [e1, bR_ok]; exact e2, w1.trans w2 h2.1⟩
theorem te_now {f : Den α} {a : α} (h : ∀ Γ Ω, f Γ Ω = some (.ok a, Ω)) : TE A P f a A := ⟨rfl, fun Γ Ω w => ⟨Ω, h Γ Ω, w.refl⟩⟩
theorem te_c {a : α} : TE A P (fC a) a A := te_now fun _ _ => rfl
theorem te_var {i : Nat} (h : P[i]? = some (.pl d) := by rfl) : TE A P (fVar i) d A := ⟨rfl, fun Γ Ω w => ⟨Ω, by unfold fVar; rw [w.pl i d h], w.refl⟩⟩
theorem te_bin {op : Op2} {z : D} (h1 : TE A P f x A1) (h2 : TE A1 P g y A2) (ho : ∀ Ω, op x y Ω = some (.ok z, Ω) := by intro _; rfl) : TE A P (fBin op f g) z A2 := te_bnd h1 (te_bnd h2 (te_now fun _ Ω => ho Ω))
theorem te_un {op : Op1} {z : D} (h1 : TE A P f x A1) (ho : ∀ Ω, op x Ω = some (.ok z, Ω) := by intro _; rfl) : TE A P (fUn op f) z A1 := te_bnd h1 (te_now fun _ Ω => ho Ω)
theorem te_nil : TE A P fNil [] A := te_c
theorem te_cons (h1 : TE A P f d A1) (h2 : TE A1 P r ds A2) : TE A P (fCons f r) (d :: ds) A2 := te_bnd h1 (te_bnd h2 te_c)
theorem te_tup (h : TE A P r ds A1) (hl : ds.length ≤ 100000 := by exact Nat.le_of_ble_eq_true rfl) : TE A P (fTup r) (.tup ds) A1 := te_bnd h (te_now fun _ Ω => if_pos hl)
theorem te_lst (h : TE A P r ds A1) (hl : ds.length ≤ 100000 := by exact Nat.le_of_ble_eq_true rfl) : TE A P (fLst r) (.lst ds) A1 := te_bnd h (te_now fun _ Ω => if_pos hl)
theorem te_cb {op : OpA} {z : D} (h : TE A P r ds A1) (ho : ∀ Ω, op ds Ω = some (.ok z, Ω) := by intro _; rfl) : TE A P (fCB op r) z A1 := te_bnd h (te_now fun _ Ω => ho Ω)
theorem te_is {g : Om → D → Option Bool} {b : Bool} (h : TE A P f d A1) (ho : ∀ Ω, g Ω d = some b := by intro _; rfl) : TE A P (fIs g f) (.bl b) A1 := te_bnd h (te_now fun _ Ω => by show (match g Ω d with | some b => _ | none => none) = _; rw [ho])
/-! tests -/
variable {p q : Den Bool} {b b' : Bool}
theorem tt_val (h : TE A P f (.bl b) A1) : TE A P (fT f) b A1 := te_bnd h (te_now fun _ _ => rfl)
theorem tt_not (h : TE A P p b A1) : TE A P (fNot p) (!b) A1 := te_bnd h te_c
theorem tt_and (h1 : TE A P p b A1) (h2 : b = true → TE A1 P q b' A1) : TE A P (fAnd p q) (b && b') A1 := te_bnd h1 (by
  cases b with
  | true => exact h2 rfl
  | false => exact te_c)
theorem tt_or (h1 : TE A P p b A1) (h2 : b = false → TE A1 P q b' A1) : TE A P (fOr p q) (b || b') A1 := te_bnd h1 (by
  cases b with
  | true => exact te_c
  | false => exact h2 rfl)
/-- the later part may fail -/
def andO (b : Bool) (t : Option Bool) : Option Bool := match b with
  | true => t
  | false => some false
def orO (b : Bool) (t : Option Bool) : Option Bool := match b with
  | true => some true
  | false => t
def ifO {α : Type} (b : Bool) (t u : Option α) : Option α := match b with
  | true => t
  | false => u
theorem tt_andO {t : Option Bool} {c : Bool} (h1 : TE A P p b A1) (hc : andO b t = some c) (h2 : ∀ v, t = some v → TE A1 P q v A1) : TE A P (fAnd p q) c A1 := te_bnd h1 (by
  cases b with
  | true => exact h2 c hc
  | false => cases hc; exact te_c)
theorem tt_orO {t : Option Bool} {c : Bool} (h1 : TE A P p b A1) (hc : orO b t = some c) (h2 : ∀ v, t = some v → TE A1 P q v A1) : TE A P (fOr p q) c A1 := te_bnd h1 (by
  cases b with
  | true => cases hc; exact te_c
  | false => exact h2 c hc)
theorem te_and (h1 : TE A P f (.bl b) A1) (h2 : b = true → TE A1 P g (.bl b') A1) : TE A P (fAndV f g) (.bl (b && b')) A1 := te_bnd (tt_val h1) (by
  cases b with
  | true => exact h2 rfl
  | false => exact te_c)
theorem te_andO {t : Option Bool} {c : Bool} (h1 : TE A P f (.bl b) A1) (hc : andO b t = some c) (h2 : ∀ v, t = some v → TE A1 P g (.bl v) A1) : TE A P (fAndV f g) (.bl c) A1 := te_bnd (tt_val h1) (by
  cases b with
  | true => exact h2 c hc
  | false => cases hc; exact te_c)
theorem te_not (h : TE A P f (.bl b) A1) : TE A P (fNotV f) (.bl (!b)) A1 := te_bnd (tt_not (tt_val h)) te_c
theorem te_ifO {ta tb : Option β} {c : β} {e : β → D} (h1 : TE A P p b A1) (hc : ifO b ta tb = some c) (h2 : ∀ v, ta = some v → TE A1 P f (e v) A2) (h3 : ∀ v, tb = some v → TE A1 P g (e v) A2) : TE A P (fIf p f g) (e c) A2 := te_bnd h1 (by
  cases b with
  | true => exact h2 c hc
  | false => exact h3 c hc)
theorem te_castS {α : Type} {f : Den α} {v c : α} (h : some v = some c) (t : TE A P f v A1) : TE A P f c A1 := by cases h; exact t
theorem te_castE {e : β → D} {v c : β} (h : some v = some c) (t : TE A P f (e v) A1) : TE A P f (e c) A1 := by cases h; exact t
/-! an operand that is one's own cell -/
theorem te_owL {i : Nat} {op : Op2} {c : Cell} {z : D} (hi : P[i]? = some (.ow c)) (h2 : TE A P g y A1) (ho : ∀ Ω n, Ω[n]? = some c → op (.ref n) y Ω = some (.ok z, Ω)) : TE A P (fBin op (fVar i) g) z A1 := by
  refine ⟨h2.1, fun Γ Ω w => ?_⟩
  obtain ⟨n, z1, z2, z3⟩ := w.ow i c hi
  obtain ⟨Ω1, e1, w1⟩ := h2.2 Γ Ω w
  obtain ⟨n', y1, y2, y3⟩ := (w.ext w1 h2.1).ow i c hi
  rw [z1] at y1
  cases y1
  refine ⟨Ω1, ?_, w1⟩
  unfold fBin bnd fVar
  rw [z1]
  dsimp only
  rw [bR_ok, e1, bR_ok]
  exact ho Ω1 n y3
theorem te_owB {i : Nat} {op : OpA} {c : Cell} {z : D} (hi : P[i]? = some (.ow c)) (ho : ∀ Ω n, Ω[n]? = some c → op [.ref n] Ω = some (.ok z, Ω)) : TE A P (fCB op (fCons (fVar i) fNil)) z A := by
  refine ⟨rfl, fun Γ Ω w => ?_⟩
  obtain ⟨n, z1, z2, z3⟩ := w.ow i c hi
  refine ⟨Ω, ?_, w.refl⟩
  unfold fCB fCons fNil bnd fVar fC
  rw [z1]
  dsimp only
  rw [bR_ok, bR_ok, bR_ok]
  exact ho Ω n z3
/-! calls -/
variable {F : FD} {n k : Nat}
def Sp0 (F : FD) (ds : List D) (d : D) : Prop := ∀ Ω, PureΩ Ω → F ds Ω = some (.ok d, Ω)
abbrev Pot := Int × Int
def potC (p : Pot) : Cell := .lst [.int p.1, .int p.2]
def SpP (F : FD) (ds : List D) (n : Nat) (p : Pot) (d : D) (p' : Pot) : Prop := ∀ Ω, PureΩ Ω → Ω[n]? = some (potC p) → F ds Ω = some (.ok d, Ω.set n (potC p'))
/-- the outer cells with the pot at n -/
def pA (A : Om) (n : Nat) (p : Pot) : Om := A.set n (potC p)
theorem pA_len {p : Pot} : (pA A n p).length = A.length := by unfold pA; simp
theorem te_call0 (h : TE A P r ds A1) (hF : Sp0 F ds d) (hl : ds.length = k := by rfl) : TE A P (fCall k F r) d A1 := te_bnd h ⟨rfl, fun Γ Ω w => ⟨Ω, by dsimp only; rw [if_pos hl]; exact hF Ω w.pu, w.refl⟩⟩
theorem rw_pot {p : Pot} {Γ : Gm} {Ω : Om} (hn : n < A.length) (w : Rw (pA A n p) P Γ Ω) : Ω[n]? = some (potC p) := by
  obtain ⟨W, e⟩ := w.base
  rw [e, List.getElem?_append_left (by rw [pA_len]; exact hn)]
  unfold pA
  rw [List.getElem?_set_self hn]
theorem rw_potN {p p' : Pot} {Γ : Gm} {Ω : Om} (hn : n < A.length) (w : Rw (pA A n p) P Γ Ω) : Rw (pA A n p') P Γ (Ω.set n (potC p')) := by
  have := w.outer (n := n) (c := potC p') (by rw [pA_len]; exact hn) rfl
  unfold pA at this ⊢
  rwa [List.set_set] at this
theorem ext_pot {p p' : Pot} {Γ : Gm} {Ω : Om} (hn : n < A.length) (w : Rw (pA A n p) P Γ Ω) : Ext (pA A n p') Ω (Ω.set n (potC p')) :=
  ⟨(rw_potN hn w).base, (rw_potN (p' := p') hn w).pure, fun m h1 _ => by rw [List.getElem?_set_ne (by rw [pA_len] at h1; omega)]⟩
theorem te_callP {p p' : Pot} (hn : n < A.length) {A0 : Om} (h : TE A0 P r ds (pA A n p)) (hF : SpP F ds n p d p') (hl : ds.length = k := by rfl) : TE A0 P (fCall k F r) d (pA A n p') := te_bnd h (by
  refine ⟨by rw [pA_len, pA_len], fun Γ Ω w => ⟨Ω.set n (potC p'), ?_, ext_pot hn w⟩⟩
  dsimp only
  rw [if_pos hl]
  exact hF Ω w.pu (rw_pot hn w))
/-! instances -/
variable {c mt fl : Str} {fs gs : List (Str × D)}
theorem asO_obj {Ω : Om} : asO c Ω (.obj c fs) = some fs := by unfold asO; simp
theorem te_fld {v : D} (h : TE A P f (.obj c fs) A1) (hv : lkF fs fl = some v := by rfl) : TE A P (fUn (dFld c fl) f) v A1 := te_un h fun Ω => by
  unfold dFld
  rw [asO_obj]
  dsimp only
  rw [show List.lookup fl fs = some v from hv]
theorem te_meth (h : TE A P f (.obj c fs) A1) (h2 : TE A1 P r ds A2) (hF : Sp0 F (.obj c fs :: ds) d) (hm : fs.lookup mt = none := by rfl) (hl : (D.obj c fs :: ds).length = k := by rfl) : TE A P (fMeth c mt k F f r) d A2 := te_bnd h (by
  refine ⟨h2.1, fun Γ Ω w => ?_⟩
  obtain ⟨Ω2, e2, w2⟩ := h2.2 Γ Ω w
  refine ⟨Ω2, ?_, w2⟩
  dsimp only
  rw [asO_obj]
  dsimp only
  rw [hm]
  dsimp only
  rw [e2, bR_ok, if_pos hl]
  exact hF Ω2 (w.ext w2 h2.1).pu)
theorem te_methK {ix : List Nat} {l : Nat} (h : TE A P f (.obj c fs) A1) (h2 : TE A1 P r ds A2) (hF : Sp0 F (reord ix (.obj c fs :: ds)) d) (hm : fs.lookup mt = none := by rfl) (hl : ds.length = l ∧ (reord ix (D.obj c fs :: ds)).length = k := by exact ⟨rfl, rfl⟩) : TE A P (fMethK c mt k l ix F f r) d A2 := te_bnd h (by
  refine ⟨h2.1, fun Γ Ω w => ?_⟩
  obtain ⟨Ω2, e2, w2⟩ := h2.2 Γ Ω w
  refine ⟨Ω2, ?_, w2⟩
  dsimp only
  rw [asO_obj]
  dsimp only
  rw [hm]
  dsimp only
  rw [e2, bR_ok, if_pos hl]
  exact hF Ω2 (w.ext w2 h2.1).pu)
/-- C(..) comes to an instance -/
def SpM (c : Str) (k : Nat) (F : FD) (ds : List D) (d : D) : Prop := ∀ Ω, PureΩ Ω → mkD c k F ds Ω = some (.ok d, Ω)
theorem te_make (h : TE A P r ds A1) (hF : SpM c k F ds d) : TE A P (fMake c k F r) d A1 := te_bnd h ⟨rfl, fun Γ Ω w => ⟨Ω, hF Ω w.pu, w.refl⟩⟩
end
/-! ### walks' sources -/
section
variable {A A1 : Om} {P : List Sl} {f : Den D} {ds : List D} {r : Den (List D)}
theorem ti_lst (h : TE A P f (.lst ds) A1) : TE A P (fSeq f) ds A1 := te_bnd h (te_now fun _ _ => rfl)
theorem ti_tup (h : TE A P f (.tup ds) A1) : TE A P (fSeq f) ds A1 := te_bnd h (te_now fun _ _ => rfl)
theorem ti_range1 {j : Int} (h : TE A P r [.int j] A1) (hj : -(2 ^ 62) ≤ j ∧ j < 2 ^ 62) : TE A P (fRange1 r) (rangeD 0 j.toNat) A1 := te_bnd h (te_now fun _ _ => if_pos hj)
theorem ti_enum (h : TE A P r [.lst ds] A1) : TE A P (fEnum r) (enumD 0 ds) A1 := te_bnd h (te_now fun _ _ => rfl)
end
end Tn


set_option Elab.async false
set_option linter.all false
set_option maxRecDepth 100000
/-! TnStm: statements, walks, defs. -/
namespace Tn
open PySem L2 Dn
section
variable {α β σ ρ : Type} {A A1 A2 A' : Om} {P P1 P2 Q : List Sl} {f g : Den D} {d x y : D} {ds : List D} {r : Den (List D)} {b b1 b2 : DenS} {o : Fo} {i j k n : Nat}
theorem tb_skip : TB A P sSkip (.nx P) A := ⟨rfl, fun Γ Ω w => ⟨Γ, Ω, rfl, w⟩⟩
theorem tb_weak (h : TB A P b (.nx P1) A1) (w : Pw P1 Q) : TB A P b (.nx Q) A1 := ⟨h.1, fun Γ Ω r => by
  obtain ⟨Γ', Ω', e, r'⟩ := h.2 Γ Ω r
  exact ⟨Γ', Ω', e, r'.weak w⟩⟩
theorem tb_seq (h1 : TB A P b1 (.nx P1) A1) (h2 : TB A1 P1 b2 o A2) : TB A P (sSeq b1 b2) o A2 := ⟨h2.1.trans h1.1, fun Γ Ω r => by
  obtain ⟨Γ1, Ω1, e1, r1⟩ := h1.2 Γ Ω r
  have h := h2.2 Γ1 Ω1 r1
  have e : sSeq b1 b2 Γ Ω = b2 Γ1 Ω1 := seq_nx e1
  cases o with
  | nx P2 => obtain ⟨Γ2, Ω2, e2, z⟩ := h; exact ⟨Γ2, Ω2, e.trans e2, z⟩
  | rt d => obtain ⟨Γ2, Ω2, e2, z⟩ := h; exact ⟨Γ2, Ω2, e.trans e2, z⟩
  | rc c => obtain ⟨Γ2, Ω2, n, e2, z1, z2, z3, z4⟩ := h; exact ⟨Γ2, Ω2, n, e.trans e2, z1, z2, by rw [← h1.1]; exact z3, z4⟩⟩
theorem tb_seqR (h1 : TB A P b1 (.rt d) A1) : TB A P (sSeq b1 b2) (.rt d) A1 := ⟨h1.1, fun Γ Ω r => by
  obtain ⟨Γ1, Ω1, e1, z⟩ := h1.2 Γ Ω r
  exact ⟨Γ1, Ω1, seq_rt e1, z⟩⟩
theorem tb_seqC {c : Cell} (h1 : TB A P b1 (.rc c) A1) : TB A P (sSeq b1 b2) (.rc c) A1 := ⟨h1.1, fun Γ Ω r => by
  obtain ⟨Γ1, Ω1, n, e1, z⟩ := h1.2 Γ Ω r
  exact ⟨Γ1, Ω1, n, seq_rt e1, z⟩⟩
theorem tb_set (h : TE A P f d A1) : TB A P (sSet i f) (.nx (P.set i (.pl d))) A1 := ⟨h.1, fun Γ Ω r => by
  obtain ⟨Ω1, e, r1⟩ := h.2 Γ Ω r
  exact ⟨_, Ω1, set_ok e, (r.ext r1 h.1).set i d⟩⟩
theorem tb_exp (h : TE A P f d A1) : TB A P (sExp f) (.nx P) A1 := ⟨h.1, fun Γ Ω r => by
  obtain ⟨Ω1, e, r1⟩ := h.2 Γ Ω r
  exact ⟨_, Ω1, exp_ok e, r.ext r1 h.1⟩⟩
theorem tb_ret (h : TE A P f d A1) : TB A P (sRet f) (.rt d) A1 := ⟨h.1, fun Γ Ω r => by
  obtain ⟨Ω1, e, r1⟩ := h.2 Γ Ω r
  exact ⟨_, Ω1, ret_ok e, r1.base, r1.pure⟩⟩
theorem tb_retC {c : Cell} (h : P[i]? = some (.ow c)) : TB A P (sRet (fVar i)) (.rc c) A := ⟨rfl, fun Γ Ω r => by
  obtain ⟨n, z1, z2, z3⟩ := r.ow i c h
  exact ⟨_, Ω, n, ret_ok (var_at z1), r.base, r.pure, z2, z3⟩⟩
theorem tb_ifT {p : Den Bool} (h : TE A P p true A1) (h2 : TB A1 P b1 o A2) : TB A P (sIf p b1 b2) o A2 := ⟨h2.1.trans h.1, fun Γ Ω r => by
  obtain ⟨Ω1, e, r1⟩ := h.2 Γ Ω r
  have e2 : sIf p b1 b2 Γ Ω = b1 Γ Ω1 := if_t e
  have z := h2.2 Γ Ω1 (r.ext r1 h.1)
  cases o with
  | nx P2 => obtain ⟨Γ2, Ω2, e3, z⟩ := z; exact ⟨Γ2, Ω2, e2.trans e3, z⟩
  | rt d => obtain ⟨Γ2, Ω2, e3, z⟩ := z; exact ⟨Γ2, Ω2, e2.trans e3, z⟩
  | rc c => obtain ⟨Γ2, Ω2, n, e3, z1, z2, z3, z4⟩ := z; exact ⟨Γ2, Ω2, n, e2.trans e3, z1, z2, by rw [← h.1]; exact z3, z4⟩⟩
theorem tb_ifF {p : Den Bool} (h : TE A P p false A1) (h2 : TB A1 P b2 o A2) : TB A P (sIf p b1 b2) o A2 := ⟨h2.1.trans h.1, fun Γ Ω r => by
  obtain ⟨Ω1, e, r1⟩ := h.2 Γ Ω r
  have e2 : sIf p b1 b2 Γ Ω = b2 Γ Ω1 := if_f e
  have z := h2.2 Γ Ω1 (r.ext r1 h.1)
  cases o with
  | nx P2 => obtain ⟨Γ2, Ω2, e3, z⟩ := z; exact ⟨Γ2, Ω2, e2.trans e3, z⟩
  | rt d => obtain ⟨Γ2, Ω2, e3, z⟩ := z; exact ⟨Γ2, Ω2, e2.trans e3, z⟩
  | rc c => obtain ⟨Γ2, Ω2, n, e3, z1, z2, z3, z4⟩ := z; exact ⟨Γ2, Ω2, n, e2.trans e3, z1, z2, by rw [← h.1]; exact z3, z4⟩⟩
theorem tb_par2 (h : TE A P r [x, y] A1) : TB A P (sPar [i, j] r) (.nx ((P.set i (.pl x)).set j (.pl y))) A1 := ⟨h.1, fun Γ Ω w => by
  obtain ⟨Ω1, e, r1⟩ := h.2 Γ Ω w
  exact ⟨_, Ω1, by unfold sPar; rw [e], ((w.ext r1 h.1).set i x).set j y⟩⟩
theorem tb_par3 {z : D} (h : TE A P r [x, y, z] A1) : TB A P (sPar [i, j, k] r) (.nx (((P.set i (.pl x)).set j (.pl y)).set k (.pl z))) A1 := ⟨h.1, fun Γ Ω w => by
  obtain ⟨Ω1, e, r1⟩ := h.2 Γ Ω w
  exact ⟨_, Ω1, by unfold sPar; rw [e], (((w.ext r1 h.1).set i x).set j y).set k z⟩⟩
/-! targets -/
def TG (t : DenG) (d : D) (P P1 : List Sl) : Prop := ∀ A Γ Ω, Rw A P Γ Ω → ∃ Γ1, t d Γ = some Γ1 ∧ Rw A P1 Γ1 Ω
def TGs (t : List D → Gm → Option Gm) (ds : List D) (P P1 : List Sl) : Prop := ∀ A Γ Ω, Rw A P Γ Ω → ∃ Γ1, t ds Γ = some Γ1 ∧ Rw A P1 Γ1 Ω
theorem tg_n : TG (gN i) d P (P.set i (.pl d)) := fun A Γ Ω w => ⟨_, rfl, w.set i d⟩
theorem tgs_nil : TGs Dn.gNil [] P P := fun A Γ Ω w => ⟨Γ, rfl, w⟩
theorem tgs_cons {t : DenG} {u : List D → Gm → Option Gm} (h1 : TG t d P P1) (h2 : TGs u ds P1 P2) : TGs (Dn.gCons t u) (d :: ds) P P2 := fun A Γ Ω w => by
  obtain ⟨Γ1, e1, w1⟩ := h1 A Γ Ω w
  obtain ⟨Γ2, e2, w2⟩ := h2 A Γ1 Ω w1
  exact ⟨Γ2, by unfold Dn.gCons; dsimp only; rw [e1]; exact e2, w2⟩
theorem tg_t {u : List D → Gm → Option Gm} (h : TGs u ds P P1) (hl : ds.length = n := by rfl) : TG (gT n u) (.tup ds) P P1 := fun A Γ Ω w => by
  obtain ⟨Γ1, e1, w1⟩ := h A Γ Ω w
  exact ⟨Γ1, by unfold gT; dsimp only; rw [if_pos hl]; exact e1, w1⟩
theorem tb_asg {t : DenG} (h : TE A P f d A1) (hg : TG t d P P1) : TB A P (sAsg f t) (.nx P1) A1 := ⟨h.1, fun Γ Ω w => by
  obtain ⟨Ω1, e, w1⟩ := h.2 Γ Ω w
  obtain ⟨Γ1, e1, w2⟩ := hg A1 Γ Ω1 (w.ext w1 h.1)
  exact ⟨Γ1, Ω1, by unfold sAsg; rw [e, eS_ok, e1], w2⟩⟩
/-! ### cells of one's own -/
theorem tb_newL (h : TE A P r ds A1) (hb : belowL 0 ds = true) (hl : ds.length ≤ 100000 := by exact Nat.le_of_ble_eq_true rfl) : TB A P (sSet i (fLstC r)) (.nx (P.set i (.ow (.lst ds)))) A1 := ⟨h.1, fun Γ Ω w => by
  obtain ⟨Ω1, e, r1⟩ := h.2 Γ Ω w
  refine ⟨_, _, set_ok (d := .ref Ω1.length) (Ω1 := Ω1 ++ [.lst ds]) ?_, (w.ext r1 h.1).new i (.lst ds) hb⟩
  unfold fLstC bnd
  rw [e, bR_ok]
  exact if_pos hl⟩
/-- a method of one's own cell -/
theorem tb_mt {chk : D → Om → Bool} {op : OpM} {c c' : Cell} {z : D} (hi : P[i]? = some (.ow c)) (h : TE A P r ds A1) (hb : cellBelow 0 c' = true)
    (hc : ∀ Ω n, Ω[n]? = some c → chk (.ref n) Ω = true) (ho : ∀ Ω n, Ω[n]? = some c → op (.ref n) ds Ω = some (.ok z, Ω.set n c')) : TB A P (sExp (fMt chk op (fVar i) r)) (.nx (P.set i (.ow c'))) A1 := ⟨h.1, fun Γ Ω w => by
  obtain ⟨n, z1, z2, z3⟩ := w.ow i c hi
  obtain ⟨Ω1, e, x1⟩ := h.2 Γ Ω w
  have w1 := w.ext x1 h.1
  obtain ⟨n', y1, y2, y3⟩ := w1.ow i c hi
  rw [z1] at y1
  cases y1
  refine ⟨Γ, Ω1.set n c', exp_ok (d := z) ?_, w1.chg hi z1 hb⟩
  unfold fMt bnd fVar
  rw [z1]
  dsimp only
  rw [bR_ok, if_pos (hc Ω n z3), e, bR_ok]
  exact ho Ω1 n y3⟩
theorem chkL_at {Ω : Om} {n : Nat} {xs : List D} (h : Ω[n]? = some (.lst xs)) : chkL (.ref n) Ω = true := by unfold chkL cellL; dsimp only; rw [h]; rfl
theorem cellL_at {Ω : Om} {n : Nat} {xs : List D} (h : Ω[n]? = some (.lst xs)) : cellL Ω n = some xs := by unfold cellL; rw [h]
theorem asL_at {Ω : Om} {n : Nat} {xs : List D} (h : Ω[n]? = some (.lst xs)) : asL Ω (.ref n) = some xs := by unfold asL; dsimp only; rw [h]
/-- found.append(x), found a list of α -/
theorem tb_app {e : α → D} {xs : List α} {a : α} (he : ∀ a, below 0 (e a) = true) (hi : P[i]? = some (.ow (.lst (xs.map e)))) (h : TE A P f (e a) A1) (hl : xs.length < 100000) : TB A P (sExp (fMt chkL mAppend (fVar i) (fCons f fNil))) (.nx (P.set i (.ow (.lst ((xs ++ [a]).map e))))) A1 :=
  tb_mt hi (te_cons h te_nil) (belowL_map he _) (fun Ω n h => chkL_at h) fun Ω n h => by
    unfold mAppend
    dsimp only
    rw [cellL_at h]
    dsimp only
    rw [if_pos (by rw [List.length_map]; exact hl), List.map_append, List.map_singleton]
theorem tb_ext {e : α → D} {xs ys : List α} (he : ∀ a, below 0 (e a) = true) (hi : P[i]? = some (.ow (.lst (xs.map e)))) (h : TE A P f (.lst (ys.map e)) A1) (hl : xs.length + ys.length ≤ 100000) : TB A P (sExp (fMt chkL mExtend (fVar i) (fCons f fNil))) (.nx (P.set i (.ow (.lst ((xs ++ ys).map e))))) A1 :=
  tb_mt hi (te_cons h te_nil) (belowL_map he _) (fun Ω n h => chkL_at h) fun Ω n h => by
    unfold mExtend
    dsimp only
    rw [cellL_at h]
    dsimp only [asL]
    rw [if_pos (by rw [List.length_map, List.length_map]; exact hl), List.map_append]
/-- found[k] = x -/
def setT {α : Type} (xs : List α) (k : Int) (a : α) : Option (List α) := match ixN xs.length k with
  | some j => some (xs.set j a)
  | none => none
theorem tb_setix {e : α → D} {xs ys : List α} {a : α} {kk : Int} {fe fi : Den D} (he : ∀ a, below 0 (e a) = true) (hi : P[i]? = some (.ow (.lst (xs.map e)))) (h1 : TE A P fe (e a) A1) (h2 : TE A1 P fi (.int kk) A1) (hs : setT xs kk a = some ys) : TB A P (sSetIx (fVar i) fi fe) (.nx (P.set i (.ow (.lst (ys.map e))))) A1 := ⟨h1.1, fun Γ Ω w => by
  obtain ⟨Ω1, e1, x1⟩ := h1.2 Γ Ω w
  have w1 := w.ext x1 h1.1
  obtain ⟨n, z1, z2, z3⟩ := w1.ow i _ hi
  obtain ⟨Ω2, e2, x2⟩ := h2.2 Γ Ω1 w1
  have w2 := w1.ext x2 h2.1
  obtain ⟨n', y1, y2, y3⟩ := w2.ow i _ hi
  rw [z1] at y1
  cases y1
  refine ⟨Γ, Ω2.set n (.lst (ys.map e)), ?_, w2.chg hi z1 (belowL_map he _)⟩
  unfold sSetIx
  rw [e1, eS_ok, var_at z1, eS_ok, e2, eS_ok]
  unfold setT at hs
  unfold setIx
  dsimp only
  rw [cellL_at y3]
  dsimp only
  rw [List.length_map]
  cases q : ixN xs.length kk with
  | none => rw [q] at hs; cases hs
  | some j =>
    rw [q] at hs
    cases hs
    dsimp only
    rw [List.map_set]⟩
/-! ### walks -/
def foldN {α σ : Type} (f : α → σ → Option σ) : List α → σ → Option σ
  | [], s => some s
  | x :: xs, s => (f x s).bind (foldN f xs)
def foldR {α σ ρ : Type} (f : α → σ → Option (σ ⊕ ρ)) : List α → σ → Option (σ ⊕ ρ)
  | [], s => some (.inl s)
  | x :: xs, s => match f x s with
    | none => none
    | some (.inl s') => foldR f xs s'
    | some (.inr r) => some (.inr r)
theorem tb_forN {e : α → D} {xs : List α} {fi : Den (List D)} {t : DenG} {step : α → σ → Option σ} {s s' : σ} (Q : σ → List Sl) (B : σ → Om) (hi : TE A P fi (xs.map e) (B s)) (hP : Pw P (Q s)) (hr : foldN step xs s = some s')
    (hb : ∀ x s s', step x s = some s' → ∃ P1, TG t (e x) (Q s) P1 ∧ TB (B s) P1 b (.nx (Q s')) (B s')) : TB A P (sFor fi t b) (.nx (Q s')) (B s') := by
  have key : ∀ (xs : List α) (s : σ), foldN step xs s = some s' → (B s').length = (B s).length ∧ ∀ Γ Ω, Rw (B s) (Q s) Γ Ω → ∃ Γ' Ω', loopS t b (xs.map e) Γ Ω = some (.nx, Γ', Ω') ∧ Rw (B s') (Q s') Γ' Ω' := by
    intro xs
    induction xs with
    | nil => intro s h; cases h; exact ⟨rfl, fun Γ Ω w => ⟨Γ, Ω, rfl, w⟩⟩
    | cons x xs ih =>
      intro s h
      unfold foldN at h
      obtain ⟨s1, h1, h2⟩ := Option.bind_eq_some_iff.mp h
      obtain ⟨P1, g1, t1⟩ := hb x s s1 h1
      obtain ⟨l2, k2⟩ := ih s1 h2
      refine ⟨l2.trans t1.1, fun Γ Ω w => ?_⟩
      obtain ⟨Γ1, e1, w1⟩ := g1 _ Γ Ω w
      obtain ⟨Γ2, Ω2, e2, w2⟩ := t1.2 Γ1 Ω w1
      obtain ⟨Γ3, Ω3, e3, w3⟩ := k2 Γ2 Ω2 w2
      refine ⟨Γ3, Ω3, ?_, w3⟩
      rw [List.map_cons]
      unfold loopS
      rw [e1]
      dsimp only
      rw [e2]
      exact e3
  obtain ⟨l, k⟩ := key xs s hr
  refine ⟨l.trans hi.1, fun Γ Ω w => ?_⟩
  obtain ⟨Ω1, e1, x1⟩ := hi.2 Γ Ω w
  have w1 := w.ext x1 hi.1
  obtain ⟨Γ2, Ω2, e2, w2⟩ := k Γ Ω1 (w1.weak hP)
  exact ⟨Γ2, Ω2, (for_ok e1).trans e2, w2⟩
/-- what a walk with a return comes to -/
def outR (Q : σ → List Sl) (er : ρ → D) : σ ⊕ ρ → Fo
  | .inl s => .nx (Q s)
  | .inr r => .rt (er r)
theorem tb_forR {e : α → D} {xs : List α} {fi : Den (List D)} {t : DenG} {step : α → σ → Option (σ ⊕ ρ)} {s : σ} {z : σ ⊕ ρ} (Q : σ → List Sl) (B : σ → Om) (er : ρ → D) (A2 : σ ⊕ ρ → Om) (hA : ∀ s, A2 (.inl s) = B s) (hi : TE A P fi (xs.map e) (B s)) (hP : Pw P (Q s)) (hr : foldR step xs s = some z)
    (hb : ∀ x s z, step x s = some z → ∃ P1, TG t (e x) (Q s) P1 ∧ TB (B s) P1 b (outR Q er z) (A2 z)) : TB A P (sFor fi t b) (outR Q er z) (A2 z) := by
  have key : ∀ (xs : List α) (s : σ), foldR step xs s = some z → (A2 z).length = (B s).length ∧ ∀ Γ Ω, Rw (B s) (Q s) Γ Ω → TBo (B s) (fun Γ Ω => loopS t b (xs.map e) Γ Ω) Γ Ω (A2 z) (outR Q er z) := by
    intro xs
    induction xs with
    | nil => intro s h; cases h; exact ⟨by rw [hA], fun Γ Ω w => ⟨Γ, Ω, rfl, by rw [hA]; exact w⟩⟩
    | cons x xs ih =>
      intro s h
      unfold foldR at h
      cases q : step x s with
      | none => rw [q] at h; cases h
      | some y =>
        rw [q] at h
        obtain ⟨P1, g1, t1⟩ := hb x s y q
        cases y with
        | inr r =>
          cases h
          refine ⟨t1.1, fun Γ Ω w => ?_⟩
          obtain ⟨Γ1, e1, w1⟩ := g1 _ Γ Ω w
          obtain ⟨Γ2, Ω2, e2, w2⟩ := t1.2 Γ1 Ω w1
          refine ⟨Γ2, Ω2, ?_, w2⟩
          show loopS t b ((x :: xs).map e) Γ Ω = _
          rw [List.map_cons]
          unfold loopS
          rw [e1]
          dsimp only
          rw [e2]
        | inl s1 =>
          obtain ⟨l2, k2⟩ := ih s1 h
          rw [hA] at t1
          refine ⟨l2.trans t1.1, fun Γ Ω w => ?_⟩
          obtain ⟨Γ1, e1, w1⟩ := g1 _ Γ Ω w
          obtain ⟨Γ2, Ω2, e2, w2⟩ := t1.2 Γ1 Ω w1
          have z3 := k2 Γ2 Ω2 w2
          have ee : loopS t b ((x :: xs).map e) Γ Ω = loopS t b (xs.map e) Γ2 Ω2 := by
            rw [List.map_cons]
            conv => lhs; unfold loopS
            rw [e1]
            dsimp only
            rw [e2]
          cases z with
          | inl s2 =>
            obtain ⟨Γ3, Ω3, e3, w3⟩ := z3
            exact ⟨Γ3, Ω3, ee.trans e3, w3⟩
          | inr r2 =>
            obtain ⟨Γ3, Ω3, e3, w3⟩ := z3
            exact ⟨Γ3, Ω3, ee.trans e3, w3⟩
  obtain ⟨l, k⟩ := key xs s hr
  refine ⟨l.trans hi.1, fun Γ Ω w => ?_⟩
  obtain ⟨Ω1, e1, x1⟩ := hi.2 Γ Ω w
  have w1 := w.ext x1 hi.1
  have z2 := k Γ Ω1 (w1.weak hP)
  have ee : sFor fi t b Γ Ω = loopS t b (xs.map e) Γ Ω1 := for_ok e1
  cases z with
  | inl s2 =>
    obtain ⟨Γ3, Ω3, e3, w3⟩ := z2
    exact ⟨Γ3, Ω3, ee.trans e3, w3⟩
  | inr r2 =>
    obtain ⟨Γ3, Ω3, e3, w3⟩ := z2
    exact ⟨Γ3, Ω3, ee.trans e3, w3⟩
/-! ### comprehensions -/
def lcT {α β σ : Type} (f : α → σ → Option (Option β × σ)) : List α → σ → Option (List β × σ)
  | [], s => some ([], s)
  | x :: xs, s => match f x s with
    | none => none
    | some (y, s1) => match lcT f xs s1 with
      | none => none
      | some (ys, s2) => some ((match y with | some y => y :: ys | none => ys), s2)
def wipeP (P : List Sl) : List Nat → List Sl
  | [] => P
  | v :: vs => (wipeP P vs).set v .un
theorem Rw.setN {Γ : Gm} {Ω : Om} (w : Rw A P Γ Ω) (i : Nat) (o : Option D) : Rw A (P.set i .un) (Γ.set i o) Ω := by
  refine ⟨by rw [List.length_set, List.length_set, w.len], w.base, fun j e h => ?_, fun j c h => ?_, fun j k c c' n h1 h2 h3 h4 => ?_, w.pure⟩
  · rcases getElem?_set_cases h with ⟨rfl, e1, hl⟩ | ⟨hj, h⟩
    · cases e1
    · rw [List.getElem?_set_ne (Ne.symm hj)]
      exact w.pl j e h
  · rcases getElem?_set_cases h with ⟨rfl, e1, hl⟩ | ⟨hj, h⟩
    · cases e1
    · rw [List.getElem?_set_ne (Ne.symm hj)]
      exact w.ow j c h
  · rcases getElem?_set_cases h1 with ⟨rfl, e1, hl⟩ | ⟨hj, h1⟩
    · cases e1
    · rcases getElem?_set_cases h2 with ⟨rfl, e1, hl⟩ | ⟨hk, h2⟩
      · cases e1
      · rw [List.getElem?_set_ne (Ne.symm hj)] at h3
        rw [List.getElem?_set_ne (Ne.symm hk)] at h4
        exact w.dis j k c c' n h1 h2 h3 h4
theorem Rw.wipe {Γ : Gm} {Ω : Om} (w : Rw A P Γ Ω) : ∀ vs, Rw A (wipeP P vs) (wipeG Γ vs) Ω
  | [] => w
  | v :: vs => (Rw.wipe w vs).setN v none
theorem setAll_rw {Ω : Om} : ∀ {is : List Nat} {ds : List D} {P : List Sl} {Γ : Gm}, ds.length = is.length → Rw A P Γ Ω → Rw A ((is.zip ds).foldl (fun P p => P.set p.1 (.pl p.2)) P) (setAll Γ is ds) Ω
  | [], ds, P, Γ, _, w => by unfold setAll; exact w
  | i :: is, [], P, Γ, h, w => by cases h
  | i :: is, d :: ds, P, Γ, h, w => by
    unfold setAll
    have z := setAll_rw (is := is) (ds := ds) (P := P.set i (.pl d)) (Γ := Γ.set i (some d)) (by simpa using h) (w.set i d)
    exact z
theorem tgt_nm : TG (Tg.nm i).den d P (P.set i (.pl d)) := fun A Γ Ω w => ⟨_, rfl, w.set i d⟩
theorem tgt_tp {is : List Nat} (h : ds.length = is.length := by rfl) : TG (Tg.tp is).den (.tup ds) P ((is.zip ds).foldl (fun P p => P.set p.1 (.pl p.2)) P) := fun A Γ Ω w => ⟨_, by unfold Tg.den; exact if_pos h, setAll_rw h w⟩
/-- the general comprehension: state s in the outer cells B s -/
theorem te_lcT {e : α → D} {ey : β → D} {xs : List α} {ys : List β} {fi : Den (List D)} {t : Tg} {ft : Den Bool} {fe : Den D} {vs : List Nat} {step : α → σ → Option (Option β × σ)} {s s' : σ} (B : σ → Om) (hi : TE A P fi (xs.map e) (B s)) (hr : lcT step xs s = some (ys, s')) (hl : xs.length ≤ 100000)
    (hb : ∀ x s y s', step x s = some (y, s') → ∃ P1, TG t.den (e x) (wipeP P vs) P1 ∧ ((y = none ∧ TE (B s) P1 ft false (B s')) ∨ ∃ z s1, y = some z ∧ TE (B s) P1 ft true s1 ∧ TE s1 P1 fe (ey z) (B s'))) : TE A P (fLc fi t ft fe vs) (.lst (ys.map ey)) (B s') := by
  have key : ∀ (xs : List α) (s : σ) (ys : List β) (acc : List D), lcT step xs s = some (ys, s') → acc.length + xs.length ≤ 100000 → (B s').length = (B s).length ∧ ∀ Γ Ω, Rw (B s) (wipeP P vs) Γ Ω → ∃ Ω', loopC t.den ft fe Γ (xs.map e) acc Ω = some (.ok (.lst (acc ++ ys.map ey)), Ω') ∧ Ext (B s') Ω Ω' := by
    intro xs
    induction xs with
    | nil =>
      intro s ys acc h _
      cases h
      exact ⟨rfl, fun Γ Ω w => ⟨Ω, by unfold loopC; simp, w.refl⟩⟩
    | cons x xs ih =>
      intro s ys acc h ha
      rw [List.length_cons] at ha
      unfold lcT at h
      cases q : step x s with
      | none => rw [q] at h; cases h
      | some z =>
        obtain ⟨y, s1⟩ := z
        rw [q] at h
        dsimp only at h
        cases q2 : lcT step xs s1 with
        | none => rw [q2] at h; cases h
        | some z2 =>
          obtain ⟨zs, s2⟩ := z2
          rw [q2] at h
          dsimp only at h
          obtain ⟨P1, g1, hy⟩ := hb x s y s1 q
          rcases hy with ⟨rfl, t1⟩ | ⟨z, A1, rfl, t1, t2⟩
          · cases h
            obtain ⟨l2, k2⟩ := ih s1 zs acc q2 (by omega)
            refine ⟨l2.trans t1.1, fun Γ Ω w => ?_⟩
            obtain ⟨Γ1, e1, w1⟩ := g1 _ Γ Ω w
            obtain ⟨Ω1, e2, w2⟩ := t1.2 Γ1 Ω w1
            obtain ⟨Ω3, e3, w3⟩ := k2 Γ Ω1 (w.ext w2 t1.1)
            refine ⟨Ω3, ?_, w2.trans w3 l2⟩
            rw [List.map_cons]
            unfold loopC
            rw [e1]
            dsimp only
            rw [e2]
            exact e3
          · cases h
            obtain ⟨l2, k2⟩ := ih s1 zs (acc ++ [ey z]) q2 (by simp; omega)
            refine ⟨l2.trans (t2.1.trans t1.1), fun Γ Ω w => ?_⟩
            obtain ⟨Γ1, e1, w1⟩ := g1 _ Γ Ω w
            obtain ⟨Ω1, e2, w2⟩ := t1.2 Γ1 Ω w1
            obtain ⟨Ω2, e2b, w2b⟩ := t2.2 Γ1 Ω1 (w1.ext w2 t1.1)
            have w2c := w2.trans w2b t2.1
            obtain ⟨Ω3, e3, w3⟩ := k2 Γ Ω2 (w.ext w2c (t2.1.trans t1.1))
            refine ⟨Ω3, ?_, w2c.trans w3 l2⟩
            rw [List.map_cons]
            unfold loopC
            rw [e1]
            dsimp only
            rw [e2]
            dsimp only
            rw [e2b]
            dsimp only
            rw [if_pos (by omega), e3]
            simp
  obtain ⟨l, k⟩ := key xs s ys [] hr (by simpa using hl)
  refine ⟨l.trans hi.1, fun Γ Ω w => ?_⟩
  obtain ⟨Ω1, e1, w1⟩ := hi.2 Γ Ω w
  obtain ⟨Ω2, e2, w2⟩ := k (wipeG Γ vs) Ω1 ((w.ext w1 hi.1).wipe vs)
  exact ⟨Ω2, by unfold fLc; rw [e1, bR_ok, e2]; simp, w1.trans w2 l⟩
end
end Tn


set_option Elab.async false
set_option linter.all false
set_option maxRecDepth 100000
/-! TnFn: defs. -/
namespace Tn
open PySem L2 Dn
def startP (n : Nat) (ds : List D) : List Sl := ds.map Sl.pl ++ List.replicate (n - ds.length) Sl.un
section
variable {A A1 A2 A' : Om} {P P1 P2 Q : List Sl} {f g fe : Den D} {d x y : D} {ds : List D} {b : DenS} {i n k m : Nat} {c fl : Str} {fs : List (Str × D)} {p p' : Pot}
theorem rw_start (h : PureΩ A) : Rw A (startP n ds) (startG n ds) A := by
  refine ⟨by unfold startP startG; simp, ⟨[], by simp⟩, fun i d e => ?_, fun i c e => ?_, fun i j c c' m e => ?_, h.self⟩
  · unfold startP at e
    unfold startG
    by_cases hi : i < ds.length
    · rw [List.getElem?_append_left (by simpa using hi), List.getElem?_map] at e ⊢
      rw [List.getElem?_eq_getElem hi] at e ⊢
      simp at e ⊢
      exact e
    · rw [List.getElem?_append_right (by simpa using hi), List.getElem?_replicate] at e
      split at e <;> cases e
  all_goals
    unfold startP at e
    by_cases hi : i < ds.length
    · rw [List.getElem?_append_left (by simpa using hi), List.getElem?_map, List.getElem?_eq_getElem hi] at e
      cases e
    · rw [List.getElem?_append_right (by simpa using hi), List.getElem?_replicate] at e
      split at e <;> cases e
theorem split_base {Ω' A' : Om} (h : ∃ W, Ω' = A' ++ W) (hp : PureA A' Ω') : ∃ W, Ω' = A' ++ W ∧ PureΩ A' := by
  obtain ⟨W, e⟩ := h
  exact ⟨W, e, hp.1⟩
theorem fn_rtA (hA : PureΩ A) (hd : below 0 d = true) (h : TB A (startP n ds) b (.rt d) A') : clean (fnD n b) ds A = some (.ok d, A') := by
  obtain ⟨Γ', Ω', e, hb, hp⟩ := h.2 _ _ (rw_start hA)
  obtain ⟨W, e2, hp2⟩ := split_base hb hp
  subst e2
  exact clean_val (fn_rt e) h.1 hp2 hd
theorem fn_nxA (hA : PureΩ A) (h : TB A (startP n ds) b (.nx P1) A') : clean (fnD n b) ds A = some (.ok .non, A') := by
  obtain ⟨Γ', Ω', e, w⟩ := h.2 _ _ (rw_start hA)
  obtain ⟨W, e2, hp2⟩ := split_base w.base w.pure
  subst e2
  exact clean_val (fn_nx e) h.1 hp2 rfl
theorem fn_rcA {xs : List D} (hA : PureΩ A) (h : TB A (startP n ds) b (.rc (.lst xs)) A') : clean (fnD n b) ds A = some (.ok (.lst xs), A') := by
  obtain ⟨Γ', Ω', m, e, hb, hp, h1, h2⟩ := h.2 _ _ (rw_start hA)
  obtain ⟨W, e2, hp2⟩ := split_base hb hp
  subst e2
  have hx : cellBelow 0 (.lst xs) = true := hp.2 m _ (by rw [h.1]; exact h1) h2
  exact clean_lst (fn_rt e) h.1 h1 h2 hp2 hx
theorem fn_rkA {xs : List (Key × D)} (hA : PureΩ A) (h : TB A (startP n ds) b (.rc (.dct xs)) A') : clean (fnD n b) ds A = some (.ok (.dct xs), A') := by
  obtain ⟨Γ', Ω', m, e, hb, hp, h1, h2⟩ := h.2 _ _ (rw_start hA)
  obtain ⟨W, e2, hp2⟩ := split_base hb hp
  subst e2
  have hx : cellBelow 0 (.dct xs) = true := hp.2 m _ (by rw [h.1]; exact h1) h2
  exact clean_dct (fn_rt e) h.1 h1 h2 hp2 hx
/-! without a pot -/
/-! with a pot -/
theorem pA_self {Ω : Om} (h : Ω[m]? = some (potC p)) : pA Ω m p = Ω := by
  unfold pA
  obtain ⟨hl, e⟩ := List.getElem?_eq_some_iff.mp h
  rw [← e]
  exact List.set_getElem_self hl
/-! making -/
def iA (A : Om) (n : Nat) (c : Str) (fs : List (Str × D)) : Om := A.set n (.ins c fs)
theorem iA_len : (iA A n c fs).length = A.length := by unfold iA; simp
theorem tb_fld (hn : n < A.length) (hi : P[i]? = some (.pl (.ref n))) (h : TE (iA A n c fs) P fe d (iA A n c fs)) (hb : belowF 0 (putFD fl d fs) = true) (hl : fs.length < 1000 := by decide) : TB (iA A n c fs) P (sFldSet c fl (fVar i) fe) (.nx P) (iA A n c (putFD fl d fs)) := by
  refine ⟨by rw [iA_len, iA_len], fun Γ Ω w => ?_⟩
  obtain ⟨Ω1, e1, x1⟩ := h.2 Γ Ω w
  have w1 := w.ext x1 rfl
  have hx : Ω1[n]? = some (.ins c fs) := by
    obtain ⟨W, e⟩ := w1.base
    rw [e, List.getElem?_append_left (by rw [iA_len]; exact hn)]
    unfold iA
    rw [List.getElem?_set_self hn]
  refine ⟨Γ, Ω1.set n (.ins c (putFD fl d fs)), ?_, ?_⟩
  · unfold sFldSet
    rw [e1, eS_ok, var_at (w1.pl i _ hi), eS_ok]
    dsimp only
    have ha : asO c Ω1 (.ref n) = some fs := by unfold asO; dsimp only; rw [hx]; simp
    rw [ha]
    dsimp only
    rw [if_pos hl]
  · have := w1.outer (n := n) (c := .ins c (putFD fl d fs)) (by rw [iA_len]; exact hn) hb
    unfold iA at this ⊢
    rwa [List.set_set] at this
end
end Tn


set_option Elab.async false
set_option linter.all false
set_option maxRecDepth 100000
/-! TnOps: typed data, operations on them. -/
namespace Tn
open PySem L2 Dn
section
variable {α β γ δ : Type}
abbrev eL (e : α → D) (xs : List α) : D := .lst (xs.map e)
abbrev eT (e : α → D) (xs : List α) : D := .tup (xs.map e)
def e2 (a : α → D) (b : β → D) (p : α × β) : D := .tup [a p.1, b p.2]
def e3 (a : α → D) (b : β → D) (c : γ → D) (p : α × β × γ) : D := .tup [a p.1, b p.2.1, c p.2.2]
def e4 (a : α → D) (b : β → D) (c : γ → D) (d : δ → D) (p : α × β × γ × δ) : D := .tup [a p.1, b p.2.1, c p.2.2.1, d p.2.2.2]
abbrev Pu (e : α → D) : Prop := ∀ a, below 0 (e a) = true
theorem pu_int : Pu D.int := fun _ => rfl
theorem pu_st : Pu stD := fun _ => rfl
theorem pu_pr : Pu prD := fun _ => rfl
theorem pu_L {e : α → D} (h : Pu e) : Pu (eL e) := fun xs => belowL_map h xs
theorem pu_T {e : α → D} (h : Pu e) : Pu (eT e) := fun xs => belowL_map h xs
theorem belowL_cons {d : D} {ds : List D} (h1 : below 0 d = true) (h2 : belowL 0 ds = true) : belowL 0 (d :: ds) = true := by unfold belowL; rw [h1, h2]; rfl
theorem belowF_cons {f : Str} {d : D} {ds : List (Str × D)} (h1 : below 0 d = true) (h2 : belowF 0 ds = true) : belowF 0 ((f, d) :: ds) = true := by unfold belowF; rw [h1, h2]; rfl
theorem pu_2 {a : α → D} {b : β → D} (h1 : Pu a) (h2 : Pu b) : Pu (e2 a b) := fun p => belowL_cons (h1 _) (belowL_cons (h2 _) rfl)
/-! ### == -/
def EX [DecidableEq α] (e : α → D) (k : Nat) : Prop := ∃ p, Emb e p k
theorem EX.up [DecidableEq α] {e : α → D} {k m : Nat} (h : EX e k) (hm : k ≤ m) : EX e m := by
  obtain ⟨p, h⟩ := h
  exact ⟨p, h.to, h.lay, fun a => Nat.le_trans (h.dep a) hm, h.eq⟩
theorem ex_int : EX D.int 0 := ⟨_, emb_int⟩
theorem ex_st : EX stD 1 := ⟨_, emb_st⟩
theorem ex_pr : EX prD 1 := ⟨_, emb_pr⟩
variable [DecidableEq α] [DecidableEq β] [DecidableEq γ] [DecidableEq δ]
theorem EX.lst {e : α → D} {k : Nat} (h : EX e k) : EX (eL e) (k + 1) := let ⟨p, h⟩ := h; ⟨_, h.lst⟩
theorem EX.tup {e : α → D} {k : Nat} (h : EX e k) : EX (eT e) (k + 1) := let ⟨p, h⟩ := h; ⟨_, h.tup⟩
theorem o_ne {e : α → D} {k : Nat} (E : EX e k) (x y : α) (hk : k ≤ 60 := by decide) (Ω : Om) : dNe (e x) (e y) Ω = some (.ok (.bl (!decide (x = y))), Ω) := by
  obtain ⟨p, E⟩ := E
  exact eq_emb E hk (fun b => .bl (!b)) x y
theorem eqG_own {e : α → D} {k : Nat} (E : EX e k) (b : Bool → D) (xs ys : List α) (hk : k ≤ 59) {Ω : Om} {n : Nat} (h : Ω[n]? = some (.lst (xs.map e))) : eqG b (.ref n) (eL e ys) Ω = some (.ok (b (decide (xs = ys))), Ω) := by
  obtain ⟨p, E⟩ := E
  rw [eqG_of (p := .list (xs.map p)) (q := .list (ys.map p)) (E.toPref h) (E.lst.toP ys) (E.lst.shaped (by omega) xs) (E.lst.shaped (by omega) ys)]
  unfold PyData.eqv
  rw [E.eqL]
theorem w_ne {e : α → D} {k : Nat} (E : EX e k) (xs ys : List α) (hk : k ≤ 59 := by decide) (Ω : Om) (n : Nat) (h : Ω[n]? = some (.lst (xs.map e))) : dNe (.ref n) (eL e ys) Ω = some (.ok (.bl (!decide (xs = ys))), Ω) := eqG_own E (fun b => .bl (!b)) xs ys hk h
end
/-! ### ints -/
section
variable {i j : Int}
def mulT (i j : Int) : Option Int := if cMul i j = true then some (i * j) else none
def powT (i j : Int) : Option Int := if 0 ≤ j ∧ j ≤ 1000000 ∧ i.natAbs < 2 ^ 64 then some (i ^ j.toNat) else none
theorem ite_some {α : Type} {c : Prop} [Decidable c] {x y : α} (h : (if c then some x else none) = some y) : c ∧ x = y := by
  by_cases hc : c
  · rw [if_pos hc] at h; exact ⟨hc, Option.some.inj h⟩
  · rw [if_neg hc] at h; cases h
theorem o_mul {z : Int} (h : mulT i j = some z) (Ω : Om) : dMul (.int i) (.int j) Ω = some (.ok (.int z), Ω) := by
  obtain ⟨h1, h2⟩ := ite_some h
  unfold dMul opIC
  dsimp only
  rw [if_pos h1, h2]
theorem o_pow {z : Int} (h : powT i j = some z) (Ω : Om) : dPow (.int i) (.int j) Ω = some (.ok (.int z), Ω) := by
  obtain ⟨h1, h2⟩ := ite_some h
  unfold dPow opIC
  dsimp only
  rw [if_pos (decide_eq_true h1), h2]
end
/-! ### lists -/
section
variable {α β : Type} {e : α → D}
theorem atI_map (xs : List α) (i : Int) : L2.atI (xs.map e) i = (L2.atI xs i).map e := by
  unfold L2.atI
  rw [List.length_map]
  cases ixN xs.length i with
  | none => rfl
  | some j => exact List.getElem?_map ..
theorem o_ixL {xs : List α} {i : Int} {a : α} (h : L2.atI xs i = some a) (Ω : Om) : dIx (eL e xs) (.int i) Ω = some (.ok (e a), Ω) := by
  show (match L2.atI (xs.map e) i with | some d => _ | none => none) = _
  rw [atI_map, h]
  rfl
theorem o_ixT {xs : List α} {i : Int} {a : α} (h : L2.atI xs i = some a) (Ω : Om) : dIx (eT e xs) (.int i) Ω = some (.ok (e a), Ω) := by
  show (match L2.atI (xs.map e) i with | some d => _ | none => none) = _
  rw [atI_map, h]
  rfl
theorem w_ix {xs : List α} {i : Int} {a : α} (h : L2.atI xs i = some a) (Ω : Om) (n : Nat) (hn : Ω[n]? = some (.lst (xs.map e))) : dIx (.ref n) (.int i) Ω = some (.ok (e a), Ω) := by
  unfold dIx
  dsimp only
  rw [asL_at hn]
  dsimp only
  rw [atI_map, h]
  rfl
theorem o_lenL {xs : List α} (Ω : Om) : dLen [eL e xs] Ω = some (.ok (.int xs.length), Ω) := by
  show some (Rs.ok (D.int (xs.map e).length), Ω) = _
  rw [List.length_map]
theorem o_lenT {xs : List α} (Ω : Om) : dLen [eT e xs] Ω = some (.ok (.int xs.length), Ω) := by
  show some (Rs.ok (D.int (xs.map e).length), Ω) = _
  rw [List.length_map]
def catT (xs ys : List α) : Option (List α) := if xs.length + ys.length ≤ 100000 then some (xs ++ ys) else none
theorem o_cat {xs ys zs : List α} (h : catT xs ys = some zs) (Ω : Om) : dAdd (eL e xs) (eL e ys) Ω = some (.ok (eL e zs), Ω) := by
  obtain ⟨h1, h2⟩ := ite_some h
  show (if (xs.map e).length + (ys.map e).length ≤ 100000 then _ else none) = _
  rw [List.length_map, List.length_map, if_pos h1, ← h2]
  simp only [eL, List.map_append]
theorem w_catL {xs ys zs : List α} (h : catT xs ys = some zs) (Ω : Om) (n : Nat) (hn : Ω[n]? = some (.lst (xs.map e))) : dAdd (.ref n) (eL e ys) Ω = some (.ok (eL e zs), Ω) := by
  obtain ⟨h1, h2⟩ := ite_some h
  unfold dAdd
  dsimp only
  rw [asL_at hn]
  dsimp only [asL]
  rw [List.length_map, List.length_map, if_pos h1, ← h2]
  simp only [eL, List.map_append]
def cutT (xs : List α) (lo hi : Option Int) : List α := (xs.drop (HT.sIx xs.length 0 lo)).take (HT.sIx xs.length xs.length hi - HT.sIx xs.length 0 lo)
theorem cut_map (xs : List α) (lo hi : Option Int) : cutD (xs.map e) lo hi = (cutT xs lo hi).map e := by
  unfold cutD cutT
  rw [List.length_map, ← List.map_drop, ← List.map_take]
section
variable {A A1 A2 A3 : Om} {P : List Sl} {f g : Den D} {l h : Den (Option Int)} {lo hi : Option Int}
theorem to_no : TE A P fNo none A := te_c
theorem to_pt {i : Int} (h : TE A P f (.int i) A1) : TE A P (fPt f) (some i) A1 := te_bnd h (te_now fun _ _ => rfl)
theorem te_sl {xs : List α} (h1 : TE A P f (eL e xs) A1) (h2 : TE A1 P l lo A2) (h3 : TE A2 P h hi A3) : TE A P (fSl f l h) (eL e (cutT xs lo hi)) A3 := te_bnd h1 (te_bnd h2 (te_bnd h3 (te_now fun _ Ω => by
  show some (Rs.ok (D.lst (cutD (xs.map e) lo hi)), Ω) = _
  rw [cut_map])))
end
theorem o_tupL {xs : List α} (Ω : Om) : dTuple [eL e xs] Ω = some (.ok (eT e xs), Ω) := rfl
theorem w_tup {xs : List α} (Ω : Om) (n : Nat) (hn : Ω[n]? = some (.lst (xs.map e))) : dTuple [.ref n] Ω = some (.ok (eT e xs), Ω) := by
  unfold dTuple op1
  dsimp only
  rw [asL_at hn]
theorem asBools_map : ∀ xs : List Bool, asBools (xs.map D.bl) = some xs
  | [] => rfl
  | x :: xs => by rw [List.map_cons]; unfold asBools; rw [asBools_map xs]
theorem o_all {xs : List Bool} (Ω : Om) : dAll [eL D.bl xs] Ω = some (.ok (.bl (xs.all id)), Ω) := by
  unfold dAll onBools op1
  dsimp only [asL]
  rw [asBools_map]
/-! ### walks -/
def rangeI (lo : Int) (n : Nat) : List Int := (List.range n).map fun (i : Nat) => lo + (i : Int)
theorem range_map (lo : Int) (n : Nat) : rangeD lo n = (rangeI lo n).map D.int := by unfold rangeD rangeI; rw [List.map_map]; rfl
def range1 (j : Int) : Option (List Int) := if -(2 ^ 62) ≤ j ∧ j < 2 ^ 62 then some (rangeI 0 j.toNat) else none
section
variable {A A1 : Om} {P : List Sl} {f : Den D} {r : Den (List D)}
theorem ti_r1 {j : Int} {xs : List Int} (hr : range1 j = some xs) (h : TE A P r [.int j] A1) : TE A P (fRange1 r) (xs.map D.int) A1 := by
  obtain ⟨h1, h2⟩ := ite_some hr
  have z := ti_range1 h h1
  rw [range_map, h2] at z
  exact z
def enumT {α : Type} (k : Nat) : List α → List (Int × α)
  | [] => []
  | x :: xs => ((k : Int), x) :: enumT (k + 1) xs
theorem enum_map (xs : List α) : ∀ k, enumD k (xs.map e) = (enumT k xs).map (e2 D.int e) := by
  induction xs with
  | nil => intro k; rfl
  | cons x xs ih => intro k; rw [List.map_cons]; unfold enumD enumT; rw [List.map_cons, ih]; rfl
theorem ti_enT {xs : List α} (h : TE A P r [eT e xs] A1) : TE A P (fEnum r) ((enumT 0 xs).map (e2 D.int e)) A1 := by
  have z : TE A P (fEnum r) (enumD 0 (xs.map e)) A1 := te_bnd h (te_now fun _ _ => rfl)
  rw [enum_map] at z
  exact z
theorem ti_en {xs : List α} (h : TE A P r [eL e xs] A1) : TE A P (fEnum r) ((enumT 0 xs).map (e2 D.int e)) A1 := by
  have z := ti_enum h
  rw [enum_map] at z
  exact z
end
/-! ### dicts -/
section
variable {A A1 A2 : Om} {P : List Sl} {f g : Den D}
end
theorem asPr_map : ∀ xs : List (Int × Int), asPr (xs.map prD) = some xs
  | [] => rfl
  | x :: xs => by
    rw [List.map_cons]
    show (match asPr (xs.map prD) with | some l => some ((x.1, x.2) :: l) | none => none) = _
    rw [asPr_map xs]
theorem o_sortP {xs : List (Int × Int)} (Ω : Om) : dSortP [eL prD xs] Ω = some (.ok (eL prD (sortP xs)), Ω) := by
  unfold dSortP op1
  dsimp only [asL]
  rw [asPr_map]
end
/-! ### hypotheses -/
theorem bE {α β : Type} {x : Option α} {f : α → Option β} {b : β} (h : x.bind f = some b) : ∃ a, x = some a ∧ f a = some b := Option.bind_eq_some_iff.mp h
end Tn


set_option Elab.async false
set_option linter.all false
set_option maxRecDepth 100000
/-! TnRet: a def's end; cells laid still; comprehensions by map and filter. -/
namespace Tn
open PySem L2 Dn
section
variable {α β σ ρ : Type} {A A1 A2 A' : Om} {P P1 P2 Q : List Sl} {f g fe : Den D} {d x y : D} {ds : List D} {r : Den (List D)} {b b1 b2 : DenS} {i j k n m : Nat} {q : Bool} {p p' : Pot}
def TR (q : Bool) (A : Om) (P : List Sl) (b : DenS) (d : D) (A' : Om) : Prop :=
  TB A P b (.rt d) A' ∨ (∃ xs, d = .lst xs ∧ TB A P b (.rc (.lst xs)) A') ∨ (∃ xs, d = .dct xs ∧ TB A P b (.rc (.dct xs)) A') ∨ (q = true ∧ d = .non ∧ ∃ P1, TB A P b (.nx P1) A')
theorem tr_rt (h : TB A P b (.rt d) A') : TR q A P b d A' := .inl h
theorem tr_ret (h : TE A P f d A1) : TR q A P (sRet f) d A1 := .inl (tb_ret h)
theorem tr_own {xs : List D} (h : P[i]? = some (.ow (.lst xs))) : TR q A P (sRet (fVar i)) (.lst xs) A := .inr (.inl ⟨xs, rfl, tb_retC h⟩)
theorem tr_nx (h : TB A P b (.nx P1) A') : TR true A P b .non A' := .inr (.inr (.inr ⟨rfl, rfl, P1, h⟩))
theorem tr_seq (h1 : TB A P b1 (.nx P1) A1) (h2 : TR q A1 P1 b2 d A2) : TR q A P (sSeq b1 b2) d A2 := by
  rcases h2 with h | ⟨xs, e, h⟩ | ⟨xs, e, h⟩ | ⟨e1, e2, P2, h⟩
  · exact .inl (tb_seq h1 h)
  · exact .inr (.inl ⟨xs, e, tb_seq h1 h⟩)
  · exact .inr (.inr (.inl ⟨xs, e, tb_seq h1 h⟩))
  · exact .inr (.inr (.inr ⟨e1, e2, P2, tb_seq h1 h⟩))
theorem tr_seqR (h1 : TR false A P b1 d A1) : TR q A P (sSeq b1 b2) d A1 := by
  rcases h1 with h | ⟨xs, e, h⟩ | ⟨xs, e, h⟩ | ⟨e1, e2, P2, h⟩
  · exact .inl (tb_seqR h)
  · exact .inr (.inl ⟨xs, e, tb_seqC h⟩)
  · exact .inr (.inr (.inl ⟨xs, e, tb_seqC h⟩))
  · cases e1
theorem tr_ifT {c : Den Bool} (h : TE A P c true A1) (h2 : TR q A1 P b1 d A2) : TR q A P (sIf c b1 b2) d A2 := by
  rcases h2 with z | ⟨xs, e, z⟩ | ⟨xs, e, z⟩ | ⟨e1, e2, P2, z⟩
  · exact .inl (tb_ifT h z)
  · exact .inr (.inl ⟨xs, e, tb_ifT h z⟩)
  · exact .inr (.inr (.inl ⟨xs, e, tb_ifT h z⟩))
  · exact .inr (.inr (.inr ⟨e1, e2, P2, tb_ifT h z⟩))
theorem tr_ifF {c : Den Bool} (h : TE A P c false A1) (h2 : TR q A1 P b2 d A2) : TR q A P (sIf c b1 b2) d A2 := by
  rcases h2 with z | ⟨xs, e, z⟩ | ⟨xs, e, z⟩ | ⟨e1, e2, P2, z⟩
  · exact .inl (tb_ifF h z)
  · exact .inr (.inl ⟨xs, e, tb_ifF h z⟩)
  · exact .inr (.inr (.inl ⟨xs, e, tb_ifF h z⟩))
  · exact .inr (.inr (.inr ⟨e1, e2, P2, tb_ifF h z⟩))
theorem tr_A (hA : PureΩ A) (hd : below 0 d = true) (h : TR q A (startP n ds) b d A') : clean (fnD n b) ds A = some (.ok d, A') := by
  rcases h with h | ⟨xs, rfl, h⟩ | ⟨xs, rfl, h⟩ | ⟨_, rfl, P2, h⟩
  · exact fn_rtA hA hd h
  · exact fn_rcA hA h
  · exact fn_rkA hA h
  · exact fn_nxA hA h
theorem fn_0 (hd : below 0 d = true) (h : ∀ A, TR true A (startP n ds) b d A) : Sp0 (clean (fnD n b)) ds d := fun Ω hp => tr_A hp hd (h Ω)
theorem fn_P (hd : below 0 d = true) (h : ∀ A, m < A.length → TR true (pA A m p) (startP n ds) b d (pA A m p')) : SpP (clean (fnD n b)) ds m p d p' := fun Ω hp hm => by
  have z := h Ω (List.getElem?_eq_some_iff.mp hm).1
  rw [pA_self hm] at z
  exact tr_A hp hd z
theorem fn_M {c : Str} {fs : List (Str × D)} (hf : belowF 0 fs = true) (hk : ds.length + 1 = k) (h : ∀ A n, n < A.length → TR true (iA A n c []) (startP m (.ref n :: ds)) b .non (iA A n c fs)) : SpM c k (clean (fnD m b)) ds (.obj c fs) := fun Ω hp => by
  have z := h (Ω ++ [.ins c []]) Ω.length (by simp)
  have e : ∀ gs, iA (Ω ++ [.ins c []]) Ω.length c gs = Ω ++ [.ins c gs] := fun gs => by unfold iA; simp
  rw [e, e] at z
  refine mk_val (W := []) ?_ hk rfl hp hf
  exact tr_A (hp.add rfl) rfl z
/-! thaw -/
theorem rw_thaw {Γ : Gm} {Ω : Om} {c : Cell} {n : Nat} (w : Rw A P Γ Ω) (hi : P[i]? = some (.ow c)) (hn : Γ[i]? = some (some (.ref n))) : Rw A (P.set i (.pl d)) (Γ.set i (some d)) (Ω.set n .dead) := by
  have w1 := (w.chg (c' := .dead) hi hn rfl).set i d
  rwa [List.set_set] at w1
theorem tb_thaw {xs : List D} (hi : P[i]? = some (.ow (.lst xs))) : TB A P (sThaw i) (.nx (P.set i (.pl (.lst xs)))) A := ⟨rfl, fun Γ Ω w => by
  obtain ⟨n, z1, z2, z3⟩ := w.ow i _ hi
  exact ⟨_, _, by unfold sThaw; rw [z1]; dsimp only; rw [z3], rw_thaw w hi z1⟩⟩
/-! comprehensions -/
def lcM {α β : Type} (p : α → Bool) (y : α → β) (xs : List α) : Option (List β) := if xs.length ≤ 100000 then some ((xs.filter p).map y) else none
def lcO' {α β : Type} (f : α → Option (Option β)) : List α → Option (List β)
  | [] => some []
  | x :: xs => match f x with
    | none => none
    | some y => match lcO' f xs with
      | none => none
      | some ys => some (match y with | some y => y :: ys | none => ys)
def lcO {α β : Type} (f : α → Option (Option β)) (xs : List α) : Option (List β) := if xs.length ≤ 100000 then lcO' f xs else none
theorem lcT_M (p : α → Bool) (y : α → β) : ∀ xs : List α, lcT (σ := Unit) (fun x s => some (if p x = true then some (y x) else none, s)) xs () = some ((xs.filter p).map y, ())
  | [] => rfl
  | x :: xs => by
    unfold lcT
    dsimp only
    rw [lcT_M p y xs]
    dsimp only
    by_cases h : p x = true
    · simp [h]
    · simp [h]
theorem lcT_O (f : α → Option (Option β)) : ∀ (xs : List α) (ys : List β), lcO' f xs = some ys → lcT (σ := Unit) (fun x s => (f x).map fun y => (y, s)) xs () = some (ys, ())
  | [], ys, h => by cases h; rfl
  | x :: xs, ys, h => by
    unfold lcO' at h
    unfold lcT
    cases e : f x with
    | none => rw [e] at h; cases h
    | some y =>
      rw [e] at h
      dsimp only at h
      cases e2 : lcO' f xs with
      | none => rw [e2] at h; cases h
      | some zs =>
        rw [e2] at h
        cases h
        simp only [Option.map_some]
        rw [lcT_O f xs zs e2]
        all_goals rfl
variable {e : α → D} {ey : β → D} {xs : List α} {ys : List β} {fi : Den (List D)} {t : Tg} {ft : Den Bool} {vs : List Nat}
theorem te_lcM {pp : α → Bool} {yy : α → β} (hr : lcM pp yy xs = some ys) (hi : TE A P fi (xs.map e) A1) (hb : ∀ x, ∃ P1, TG t.den (e x) (wipeP P vs) P1 ∧ TE A1 P1 ft (pp x) A1 ∧ TE A1 P1 fe (ey (yy x)) A1) : TE A P (fLc fi t ft fe vs) (eL ey ys) A1 := by
  obtain ⟨h1, h2⟩ := ite_some hr
  subst h2
  refine te_lcT (σ := Unit) (s := ()) (s' := ()) (fun _ => A1) hi (lcT_M pp yy xs) h1 fun x s y s' h => ?_
  obtain ⟨P1, g1, t1, t2⟩ := hb x
  refine ⟨P1, g1, ?_⟩
  cases h
  by_cases hp : pp x = true
  · rw [hp] at t1
    exact .inr ⟨yy x, A1, by rw [if_pos hp], t1, t2⟩
  · have hp' : pp x = false := by simpa using hp
    rw [hp'] at t1
    exact .inl ⟨by rw [if_neg hp], t1⟩
theorem te_lcO {ff : α → Option (Option β)} (hr : lcO ff xs = some ys) (hi : TE A P fi (xs.map e) A1) (hb : ∀ x y, ff x = some y → ∃ P1, TG t.den (e x) (wipeP P vs) P1 ∧ ((y = none ∧ TE A1 P1 ft false A1) ∨ ∃ z, y = some z ∧ TE A1 P1 ft true A1 ∧ TE A1 P1 fe (ey z) A1)) : TE A P (fLc fi t ft fe vs) (eL ey ys) A1 := by
  unfold lcO at hr
  by_cases hl : xs.length ≤ 100000
  · rw [if_pos hl] at hr
    refine te_lcT (σ := Unit) (s := ()) (s' := ()) (fun _ => A1) hi (lcT_O ff xs ys hr) hl fun x s y s' h => ?_
    cases hq : ff x with
    | none => rw [hq] at h; cases h
    | some z =>
      rw [hq] at h
      cases h
      obtain ⟨P1, g1, hh⟩ := hb x y hq
      refine ⟨P1, g1, hh.imp (fun h => h) fun ⟨w, h1, h2, h3⟩ => ⟨w, A1, h1, h2, h3⟩⟩
  · rw [if_neg hl] at hr; cases hr
/-! ### hypotheses -/
end
def b2 {α γ β : Type} (x : Option (α × γ)) (f : α → γ → Option β) : Option β := x.bind fun z => f z.1 z.2
theorem b2E {α γ β : Type} {x : Option (α × γ)} {f : α → γ → Option β} {b : β} (h : b2 x f = some b) : ∃ a c, x = some (a, c) ∧ f a c = some b := by
  obtain ⟨⟨a, c⟩, h1, h2⟩ := bE h
  exact ⟨a, c, h1, h2⟩
theorem ifO_t {α : Type} {t u : Option α} : ifO true t u = t := rfl
theorem ifO_f {α : Type} {t u : Option α} : ifO false t u = u := rfl
section
variable {α β σ ρ : Type} {A A1 A2 A' : Om} {P P1 P2 Q : List Sl} {f g fe : Den D} {i : Nat} {e : α → D}
def appT {α : Type} (xs : List α) (a : α) : Option (List α) := if xs.length < 100000 then some (xs ++ [a]) else none
def extT {α : Type} (xs ys : List α) : Option (List α) := if xs.length + ys.length ≤ 100000 then some (xs ++ ys) else none
theorem tb_appT {xs ys : List α} {a : α} (hr : appT xs a = some ys) (he : Pu e) (hi : P[i]? = some (.ow (.lst (xs.map e)))) (h : TE A P f (e a) A1) : TB A P (sExp (fMt chkL mAppend (fVar i) (fCons f fNil))) (.nx (P.set i (.ow (.lst (ys.map e))))) A1 := by
  obtain ⟨h1, h2⟩ := ite_some hr
  subst h2
  exact tb_app he hi h h1
theorem tb_extT {xs ys zs : List α} (hr : extT xs ys = some zs) (he : Pu e) (hi : P[i]? = some (.ow (.lst (xs.map e)))) (h : TE A P f (eL e ys) A1) : TB A P (sExp (fMt chkL mExtend (fVar i) (fCons f fNil))) (.nx (P.set i (.ow (.lst (zs.map e))))) A1 := by
  obtain ⟨h1, h2⟩ := ite_some hr
  subst h2
  exact tb_ext he hi h h1
end
end Tn


set_option Elab.async false
set_option linter.all false
set_option maxRecDepth 100000
/-! TnMore: what the printed proofs name. -/
namespace Tn
open PySem L2 Dn
theorem sSeq_skip (b : DenS) : sSeq b sSkip = b := by
  funext Γ Ω
  unfold sSeq
  cases e : b Γ Ω with
  | none => rfl
  | some z =>
    obtain ⟨fl, Γ1, Ω1⟩ := z
    cases fl <;> rfl
section
variable {α β σ ρ : Type} {A A1 A2 A' : Om} {P P1 P2 Q : List Sl} {f g : Den D} {d x y : D} {ds : List D} {r : Den (List D)} {b b1 b2 rest : DenS} {o : Fo} {i j k n m : Nat} {q : Bool}
theorem tr_last (h : TR q A P (sSeq b sSkip) d A') : TR q A P b d A' := by rwa [sSeq_skip] at h
theorem tb_setE {e : α → D} {v w : α} (h : some v = some w) (t : TE A P f (e v) A1) : TB A P (sSet i f) (.nx (P.set i (.pl (e w)))) A1 := by cases h; exact tb_set t
/-! a list of one's own beside other values -/
theorem Rw.newAt {Γ : Gm} {Ω : Om} {c : Cell} (w : Rw A P Γ Ω) (i : Nat) (hn : A.length ≤ n) (hc : Ω[n]? = some c) (hf : ∀ (j : Nat) c', P[j]? = some (Sl.ow c') → Γ[j]? ≠ some (some (D.ref n))) : Rw A (P.set i (.ow c)) (Γ.set i (some (.ref n))) Ω := by
  refine ⟨by rw [List.length_set, List.length_set, w.len], w.base, fun j e h => ?_, fun j c' h => ?_, fun j k c1 c2 m h1 h2 h3 h4 => ?_, w.pure⟩
  · rcases getElem?_set_cases h with ⟨rfl, e1, hl⟩ | ⟨hj, h⟩
    · cases e1
    · rw [List.getElem?_set_ne (Ne.symm hj)]
      exact w.pl j e h
  · rcases getElem?_set_cases h with ⟨rfl, e1, hl⟩ | ⟨hj, h⟩
    · cases e1
      exact ⟨n, by rw [List.getElem?_set_self (by rw [← w.len]; exact hl)], hn, hc⟩
    · rw [List.getElem?_set_ne (Ne.symm hj)]
      exact w.ow j c' h
  · rcases getElem?_set_cases h1 with ⟨ej, e1, hl⟩ | ⟨hj, h1⟩
    · rcases getElem?_set_cases h2 with ⟨ek, e2, hk⟩ | ⟨hk, h2⟩
      · omega
      · rw [ej, List.getElem?_set_self (by rw [← w.len]; exact hl)] at h3
        cases h3
        rw [List.getElem?_set_ne (Ne.symm hk)] at h4
        exact (hf k c2 h2 h4).elim
    · have h1' := h1
      rcases getElem?_set_cases h2 with ⟨ek, e2, hk⟩ | ⟨hk, h2⟩
      · rw [ek, List.getElem?_set_self (by rw [← w.len]; exact hk)] at h4
        cases h4
        rw [List.getElem?_set_ne (Ne.symm hj)] at h3
        exact (hf j c1 h1' h3).elim
      · rw [List.getElem?_set_ne (Ne.symm hj)] at h3
        rw [List.getElem?_set_ne (Ne.symm hk)] at h4
        exact w.dis j k c1 c2 m h1 h2 h3 h4
theorem rw_more {Γ : Gm} {Ω : Om} {c : Cell} (w : Rw A P Γ Ω) (hc : cellBelow 0 c = true) : Rw A P Γ (Ω ++ [c]) := by
  refine ⟨w.len, ?_, w.pl, fun i c' h => ?_, w.dis, w.pure.add hc⟩
  · obtain ⟨W, e⟩ := w.base
    exact ⟨W ++ [c], by rw [e, List.append_assoc]⟩
  · obtain ⟨n, z1, z2, z3⟩ := w.ow i c' h
    exact ⟨n, z1, z2, by rw [List.getElem?_append_left (List.getElem?_eq_some_iff.mp z3).1]; exact z3⟩
theorem tb_par2a (h : TE A P g y A1) : TB A P (sPar [i, j] (fCons (fLstC fNil) (fCons g fNil))) (.nx ((P.set i (.ow (.lst []))).set j (.pl y))) A1 := ⟨h.1, fun Γ Ω w => by
  obtain ⟨Ω2, e2, x2⟩ := h.2 Γ (Ω ++ [.lst []]) (rw_more w rfl)
  have hb : A.length ≤ Ω.length := by obtain ⟨W, e⟩ := w.base; rw [e]; simp
  have w2 := (rw_more (c := .lst []) w rfl).ext x2 h.1
  have hc : Ω2[Ω.length]? = some (.lst []) := by
    rw [x2.keep Ω.length (by rw [h.1]; exact hb) (by simp)]
    simp
  refine ⟨_, Ω2, ?_, (w2.newAt i (by rw [h.1]; exact hb) hc fun k c' hk => ?_).set j y⟩
  · unfold sPar
    have e : fCons (fLstC fNil) (fCons g fNil) Γ Ω = some (.ok [.ref Ω.length, y], Ω2) := cons_ok (Ω1 := Ω ++ [.lst []]) rfl (cons_ok e2 nil_ok)
    rw [e]
  · obtain ⟨n, z1, z2, z3⟩ := w.ow k c' hk
    rw [z1]
    intro z
    cases z
    have := (List.getElem?_eq_some_iff.mp z3).1
    omega⟩
theorem tb_par3c (h1 : TE A P f x A1) (h2 : TE A1 P g y A2) : TB A P (sPar [i, j, k] (fCons f (fCons g (fCons (fLstC fNil) fNil)))) (.nx (((P.set i (.pl x)).set j (.pl y)).set k (.ow (.lst [])))) A2 := ⟨h2.1.trans h1.1, fun Γ Ω w => by
  obtain ⟨Ω1, e1, x1⟩ := h1.2 Γ Ω w
  have w1 := w.ext x1 h1.1
  obtain ⟨Ω2, e2, x2⟩ := h2.2 Γ Ω1 w1
  refine ⟨_, Ω2 ++ [.lst []], ?_, (((w1.ext x2 h2.1).set i x).set j y).new k (.lst []) rfl⟩
  unfold sPar
  have e : fCons f (fCons g (fCons (fLstC fNil) fNil)) Γ Ω = some (.ok [x, y, .ref Ω2.length], Ω2 ++ [.lst []]) := cons_ok e1 (cons_ok e2 (cons_ok (Ω1 := Ω2 ++ [.lst []]) rfl nil_ok))
  rw [e]⟩
/-! ### walks, the hypothesis first -/
theorem tb_forM {e : α → D} {xs : List α} {fi : Den (List D)} {t : DenG} {step : α → σ → Option σ} {s s' : σ} (Q : σ → List Sl) (B : σ → Om) (hr : foldN step xs s = some s') (hi : TE A P fi (xs.map e) (B s)) (hP : Pw P (Q s))
    (hb : ∀ x s s', step x s = some s' → ∃ P1, TG t (e x) (Q s) P1 ∧ TB (B s) P1 b (.nx (Q s')) (B s')) : TB A P (sFor fi t b) (.nx (Q s')) (B s') := tb_forN Q B hi hP hr hb
theorem tr_forS {e : α → D} {xs : List α} {fi : Den (List D)} {t : DenG} {step : α → σ → Option (σ ⊕ ρ)} {s : σ} {z : σ ⊕ ρ} (Q : σ → List Sl) (B : σ → Om) (er : ρ → D) (A2 : σ ⊕ ρ → Om) (hA : ∀ s, A2 (.inl s) = B s) (hr : foldR step xs s = some z) (hi : TE A P fi (xs.map e) (B s)) (hP : Pw P (Q s))
    (hb : ∀ x s z, step x s = some z → ∃ P1, TG t (e x) (Q s) P1 ∧ TB (B s) P1 b (outR Q er z) (A2 z)) (hk : match z with | .inl s' => TR q (B s') (Q s') rest d A' | .inr v => d = er v ∧ A' = A2 (.inr v)) : TR q A P (sSeq (sFor fi t b) rest) d A' := by
  have T := tb_forR Q B er A2 hA hi hP hr hb
  cases z with
  | inl s' => rw [hA] at T; exact tr_seq T hk
  | inr v => obtain ⟨rfl, rfl⟩ := hk; exact tr_rt (tb_seqR T)
/-! ### a branch of a walk that returns -/
variable {er : ρ → D} {B2 : σ ⊕ ρ → Om} {z : σ ⊕ ρ}
/-! ### ints -/
def maxI (i j : Int) : Int := if j > i then j else i
def minI (i j : Int) : Int := if j < i then j else i
theorem maxI_eq (i j : Int) : maxI i j = max i j := by unfold maxI; split <;> omega
theorem minI_eq (i j : Int) : minI i j = min i j := by unfold minI; split <;> omega
end
end Tn


set_option Elab.async false
set_option linter.all false
set_option maxRecDepth 100000
/-! TnAdd: typed: texts compared, repr, list(d), min(xs), zip, d.get(k), calls by names, own !=. -/
namespace Tn
open PySem L2 Dn
section
variable {α β : Type} {A A1 A2 : Om} {P : List Sl} {f g : Den D} {d x y : D} {ds : List D} {r : Den (List D)} {F : FD} {k l : Nat} {ix : List Nat} {e : α → D} {e' : β → D}
/-- the text that shows a datum -/
def reprD (d : D) : Option Str := match toPg (fun _ => none) d with
  | some p => if okRep p = true then some p.shown else none
  | none => none
mutual
theorem toPg_pure (g : Nat → Option PyData) : ∀ (d : D) (p : PyData), toPg (fun _ => none) d = some p → toPg g d = some p
  | .non, p, h => h
  | .bl _, p, h => h
  | .int _, p, h => h
  | .str _, p, h => h
  | .tpk xs, p, h => by
    unfold toPg at h ⊢
    cases e : toPLg (fun _ => none) xs with
    | none => rw [e] at h; cases h
    | some ps => rw [e] at h; rw [toPLg_pure g xs ps e]; exact h
  | .tup xs, p, h => by
    unfold toPg at h ⊢
    cases e : toPLg (fun _ => none) xs with
    | none => rw [e] at h; cases h
    | some ps => rw [e] at h; rw [toPLg_pure g xs ps e]; exact h
  | .lst xs, p, h => by
    unfold toPg at h ⊢
    cases e : toPLg (fun _ => none) xs with
    | none => rw [e] at h; cases h
    | some ps => rw [e] at h; rw [toPLg_pure g xs ps e]; exact h
  | .ref n, p, h => by unfold toPg at h; cases h
  | .dct _, p, h => by unfold toPg at h; cases h
  | .dcT _, p, h => by unfold toPg at h; cases h
  | .dcN _ _, p, h => by unfold toPg at h; cases h
  | .obj _ _, p, h => by unfold toPg at h; cases h
  | .scr _, p, h => by unfold toPg at h; cases h
  | .cl _, p, h => by unfold toPg at h; cases h
  | .clo _ _ _, p, h => by unfold toPg at h; cases h
theorem toPLg_pure (g : Nat → Option PyData) : ∀ (ds : List D) (ps : List PyData), toPLg (fun _ => none) ds = some ps → toPLg g ds = some ps
  | [], ps, h => h
  | d :: ds, ps, h => by
    unfold toPLg at h ⊢
    cases e : toPg (fun _ => none) d with
    | none => rw [e] at h; cases h
    | some p =>
      rw [e] at h
      rw [toPg_pure g d p e]
      dsimp only at h ⊢
      cases e2 : toPLg (fun _ => none) ds with
      | none => rw [e2] at h; cases h
      | some qs => rw [e2] at h; rw [toPLg_pure g ds qs e2]; exact h
end
theorem toP_pure {Ω : Om} {k : Nat} {p : PyData} (h : toPg (fun _ => none) d = some p) : toP Ω k d = some p := by
  cases k with
  | zero => exact h
  | succ k => exact toPg_pure _ d p h
end
end Tn
namespace Tn
theorem ite_some' {α : Type} {c : Prop} [Decidable c] {x : Option α} {y : α} (h : (if c then x else none) = some y) : c ∧ x = some y := by
  by_cases hc : c
  · rw [if_pos hc] at h; exact ⟨hc, h⟩
  · rw [if_neg hc] at h; cases h
end Tn


set_option Elab.async false
set_option linter.all false
set_option maxRecDepth 100000
/-! TnNew: sorted(d) of any size, len of an instance. -/
namespace Tn
open PySem L2 Dn
section
variable {α : Type} {e : α → D}
end
section
variable {A A1 : Om} {P : List Sl} {f : Den D} {c : Str} {fs : List (Str × D)} {F : FD} {i : Int}
end
end Tn




set_option Elab.async false
set_option linter.all false
set_option maxRecDepth 100000
/-! TnFmt: f'pre{e!r}suf', repr of an instance, an instance called, v in x: typed. -/
namespace Tn
open PySem L2 Dn
section
variable {A A1 : Om} {P : List Sl} {f g : Den D} {c : Str} {fs : List (Str × D)} {F : FD} {d : D}
end
end Tn


set_option Elab.async false
set_option linter.all false
set_option maxRecDepth 100000
/-! TnCls: class methods, cls(..), the repr of a list of objects, list(range(a, b)), typed. -/
namespace Tn
open PySem L2 Dn
section
variable {A A1 : Om} {P : List Sl} {f g : Den D} {r : Den (List D)} {c : Str} {F : FD} {d : D} {ds : List D} {k l : Nat} {ix : List Nat}
theorem te_cmethK (h : TE A P r ds A1) (hF : Sp0 F (reord ix (.cl c :: ds)) d) (hl : ds.length = l ∧ (reord ix (D.cl c :: ds)).length = k := by exact ⟨rfl, rfl⟩) : TE A P (fCMethK c k l ix F r) d A1 := te_bnd h ⟨rfl, fun Γ Ω w => ⟨Ω, by dsimp only; rw [if_pos hl]; exact hF Ω w.pu, w.refl⟩⟩
theorem te_makeV {i : Nat} (h : TE A P r ds A1) (hF : SpM c k F ds d) (hi : P[i]? = some (.pl (.cl c)) := by rfl) : TE A P (fMakeV i c k F r) d A1 := by
  have z := te_make h hF
  refine ⟨z.1, fun Γ Ω w => ?_⟩
  obtain ⟨Ω', e, x⟩ := z.2 Γ Ω w
  refine ⟨Ω', ?_, x⟩
  unfold fMakeV
  rw [w.pl i _ hi]
  dsimp only
  rw [if_pos rfl]
  exact e
end
end Tn


set_option Elab.async false
set_option linter.all false
set_option maxRecDepth 100000
/-! TnMix: DnMix, DnCell, typed. -/
namespace Tn
open PySem L2 Dn
theorem o_repr1 {c fld pre suf t : Str} {d : D} (h : objT c fld pre suf d = some t) (Ω : Om) : dRepr1 c fld pre suf [d] Ω = some (.ok (.str t), Ω) := by
  unfold dRepr1 op1
  dsimp only
  rw [h]
def e1 {α : Type} (a : α → D) (x : α) : D := .tup [a x]
section
variable {A A1 A2 : Om} {P : List Sl} {f g fo : Den D} {r : Den (List D)} {c mt : Str} {fs : List (Str × D)} {F R : FD} {d y z : D} {ds : List D} {i k l : Nat} {ix : List Nat} {b : Bool}
end
end Tn


set_option Elab.async false
set_option linter.all false
set_option maxRecDepth 100000
/-! TnWide: DnWide, typed; lists of unlike items. -/
namespace Tn
open PySem L2 Dn
section
variable {A A1 A2 : Om} {P : List Sl} {f g : Den D} {c : Str} {fs : List (Str × D)} {F : FD} {d x y : D} {i j k : Nat}
end
/-! ### dicts of ints -/
/-! ### lists of unlike items -/
section
variable {α β γ : Type} [DecidableEq α] [DecidableEq β] [DecidableEq γ]
end
/-! ### draws behind or, and -/
def orP (b : Bool) (q : Pot) (t : Option (Bool × Pot)) : Option (Bool × Pot) := match b with
  | true => some (true, q)
  | false => t
section
variable {A A0 : Om} {P : List Sl} {p p' : Den Bool} {n : Nat}
theorem tt_orP {b r : Bool} {q q2 : Pot} {t : Option (Bool × Pot)} (h1 : TE A0 P p b (pA A n q)) (hr : orP b q t = some (r, q2)) (h2 : b = false → t = some (r, q2) → TE (pA A n q) P p' r (pA A n q2)) : TE A0 P (fOr p p') r (pA A n q2) := te_bnd h1 (by
  cases b with
  | true =>
    obtain ⟨e1, e2⟩ := Prod.mk.inj (Option.some.inj hr)
    subst e1 e2
    exact te_c
  | false => exact h2 rfl hr)
end
end Tn


set_option Elab.async false
set_option linter.all false
set_option maxRecDepth 100000
/-! TnWk: DnWk, typed. -/
namespace Tn
open PySem L2 Dn
def repLT {α : Type} (xs : List α) (k : Int) : Option (List α) := if (-(2 ^ 62) ≤ k ∧ k < 2 ^ 62) ∧ xs.length * k.toNat ≤ 100000 then some (List.replicate k.toNat xs).flatten else none
theorem rep_map {α β : Type} (e : α → β) (xs : List α) : ∀ n : Nat, (List.replicate n (xs.map e)).flatten = (List.replicate n xs).flatten.map e
  | 0 => rfl
  | n + 1 => by rw [List.replicate_succ, List.replicate_succ, List.flatten_cons, List.flatten_cons, List.map_append, rep_map e xs n]
theorem o_repL {α : Type} {e : α → D} {xs ys : List α} {k : Int} (h : repLT xs k = some ys) (Ω : Om) : dRepL (eL e xs) (.int k) Ω = some (.ok (eL e ys), Ω) := by
  obtain ⟨z1, z2⟩ := ite_some h
  show (if (-(2 ^ 62) ≤ k ∧ k < 2 ^ 62) ∧ (xs.map e).length * k.toNat ≤ 100000 then some (Rs.ok (D.lst (List.replicate k.toNat (xs.map e)).flatten), Ω) else none) = _
  rw [List.length_map, if_pos z1, ← z2, rep_map]
section
variable {A A1 A2 A3 : Om} {P : List Sl} {f g : Den D} {l h : Den (Option Int)} {lo hi : Option Int} {x y : D} {i j k : Nat}
end
end Tn


set_option Elab.async false
set_option linter.all false
set_option maxRecDepth 100000
set_option maxHeartbeats 2000000
/-! DnWk2: a part of a tuple. -/
namespace Dn
open PySem L2
section
variable {X : Cx} {E : St → XK} {e : Expr} {f : Den D} {pos p2 : Pos}
end
end Dn


set_option Elab.async false
set_option linter.all false
set_option maxRecDepth 100000
/-! TnWk2: DnWk2, typed; what is there of what may be None; draws in a choice. -/
namespace Tn
open PySem L2 Dn
section
variable {A A0 A1 A2 A3 : Om} {P : List Sl} {f g : Den D} {l h : Den (Option Int)} {lo hi : Option Int} {p : Den Bool} {n : Nat}
end
end Tn


set_option Elab.async false
set_option linter.all false
set_option maxRecDepth 100000
set_option maxHeartbeats 2000000
/-! DnRev: walks over reversed(x); * and // of wide numbers. -/
namespace Dn
open PySem L2 RT
section
variable {K : PySem.W.Frag} {m : Mp} {Ω : Om} {H : Hp}
end
section
variable {X : Cx} {E : St → XK} {tg e a b : Expr} {f g : Den D} {p pos : Pos}
end
end Dn


set_option Elab.async false
set_option linter.all false
set_option maxRecDepth 100000
set_option maxHeartbeats 2000000
/-! DnRevT: t[::-1] of a tuple. -/
namespace HT
open PySem PySem.Spec PyProof.Rows
section
variable {prog : Program} {w : World} {A : Around} {E : Value → Shared → Prop} {s : Shared}
end
end HT
namespace Dn
open PySem PySem.Spec PyProof.Rows L2
section
variable {X : Cx}
end
end Dn


set_option Elab.async false
set_option linter.all false
set_option maxRecDepth 100000
set_option maxHeartbeats 2000000
/-! TnRev: typed reversed(x); * and // of wide numbers. -/
namespace Tn
open PySem L2 Dn
section
variable {A A1 : Om} {P : List Sl} {f : Den D} {ds : List D}
end
end Tn


set_option Elab.async false
set_option linter.all false
set_option maxRecDepth 100000
/-! TnSeq: DnJoin, DnSeq, typed. -/
namespace Tn
open PySem L2 Dn
/-! ### formatted texts -/
inductive Jp where
  | s (x : Str)
  | v (r : Bool) (d : D)
section
variable {A A1 : Om} {P : List Sl} {f g : Den D} {d x : D} {j : Str → Den D} {ps : List Jp}
/-! ### in, index, reverse -/
end
end Tn


set_option Elab.async false
set_option linter.all false
set_option maxRecDepth 100000
/-! TnDfl: DnDfl, typed; x == y of any kind. -/
namespace Tn
open PySem L2 Dn
section
variable {A A1 A2 : Om} {P : List Sl} {f g : Den D} {r : Den (List D)} {c : Str} {fs : List (Str × D)} {F : FD} {d x y : D} {ds dfl : List D} {k : Nat} {b : Bool}
end
end Tn


set_option Elab.async false
set_option linter.all false
set_option maxRecDepth 100000
/-! DnKwM: f(a, .., k = e, ..). -/
namespace Dn
open PySem L2
structure FnM (P : Program) (w : World) (K : PySem.W.Frag) (mg : Str → Option Value) (base : Heap) (x : Str) (ps : List Str) (l : Nat) (ks : List Str) (ix : List Nat) (k : Nat) (F : FD) : Prop where
  ex : ∃ f fd, mg x = some (.ref f) ∧ FnOkG P w K mg base (L2N.CX P w) k f fd ps (spD K ps.length F) ∧ PySem.W.keepIn K (.ref f) = true ∧ KwB K fd ps l ks ix
section
variable {X : Cx} {E : St → XK} {e : Expr} {es : List Expr} {kws : List Keyword} {r rk : Den (List D)} {p pos : Pos} {x : Str} {ps ks : List Str} {k n l lk : Nat} {F : FD} {ix : List Nat}
end
end Dn


set_option Elab.async false
set_option linter.all false
set_option maxRecDepth 100000
/-! TnRec: DnRec, DnRec2, DnRec3, typed: dicts with texts as keys, sets, signs, lists-or-tuples, new cells told by calls. -/
namespace Tn
open PySem L2 Dn
section
variable {α β γ : Type} {e : α → D}
/-! ### dicts with texts as keys -/
/-! == and repr, the values ints -/
/-! ### sorted triples -/
/-! ### a list or a tuple -/
def eLT (e : α → D) (z : Bool × List α) : D := if z.1 = true then .tup (z.2.map e) else .lst (z.2.map e)
end
section
variable {α β γ σ : Type} {e : α → D} {ey : β → D} {A A1 A2 : Om} {P P1 : List Sl} {f g h fe fk : Den D} {r fi : Den (List D)} {i j n k : Nat} {x y : D} {ds : List D}
/-! ### own dicts -/
/-! ### list(d.values()), walks over dicts, signs -/
/-! ### dict comprehensions -/
variable {t : Tg} {ft : Den Bool} {vs : List Nat}
/-! ### sets -/
def addL [DecidableEq α] (L : List α) (k : α) : List α := if k ∈ L then L else L ++ [k]
def dedupL [DecidableEq α] (xs : List α) : List α := xs.foldl addL []
theorem dedup_len [DecidableEq α] (xs : List α) : (dedupL xs).length ≤ xs.length := by
  have : ∀ (xs L : List α), (xs.foldl addL L).length ≤ L.length + xs.length := by
    intro xs
    induction xs with
    | nil => intro L; simp
    | cons x xs ih =>
      intro L
      rw [List.foldl_cons]
      have h1 := ih (addL L x)
      have h2 : (addL L x).length ≤ L.length + 1 := by
        unfold addL
        split
        · omega
        · simp
      rw [List.length_cons]
      omega
  have := this xs []
  rw [List.length_nil, Nat.zero_add] at this
  exact this
/-! ### f(a, k = e) -/
/-! ### what tells a new cell -/
variable {c c' : Cell} {F : FD}
/-! ### found.append(left.pop(i)) -/
end
/-! ### draws behind and, or, as a value -/
section
variable {A A0 : Om} {P : List Sl} {f g : Den D} {n : Nat}
end
/-! ### data with texts, compared -/
section
variable {α β γ : Type} [DecidableEq α] [DecidableEq β] [DecidableEq γ]
def EC (e : α → D) (ok : α → Bool) (k : Nat) : Prop := ∃ p : α → PyData, (∀ g a, toPg g (e a) = some (p a)) ∧ (∀ a, ok a = true → (p a).canLay0 = true) ∧ (∀ a, (p a).depth ≤ k) ∧ ∀ a b, PyData.eqv (p a) (p b) = decide (a = b)
theorem EC.up {e : α → D} {ok : α → Bool} {k m : Nat} (h : EC e ok k) (hm : k ≤ m) : EC e ok m := let ⟨p, h1, h2, h3, h4⟩ := h; ⟨p, h1, h2, fun a => Nat.le_trans (h3 a) hm, h4⟩
theorem ec_toL {e : α → D} {p : α → PyData} (h : ∀ g a, toPg g (e a) = some (p a)) (g : Nat → Option PyData) : ∀ xs : List α, toPLg g (xs.map e) = some (xs.map p)
  | [] => rfl
  | x :: xs => by
    rw [List.map_cons]
    unfold toPLg
    rw [h g x]
    dsimp only
    rw [ec_toL h g xs]
    rfl
theorem ec_layL {ok : α → Bool} {p : α → PyData} (h : ∀ a, ok a = true → (p a).canLay0 = true) : ∀ xs : List α, xs.all ok = true → PyData.canLayAll0 (xs.map p) = true
  | [], _ => rfl
  | x :: xs, hx => by
    rw [List.all_cons, Bool.and_eq_true] at hx
    rw [List.map_cons]
    unfold PyData.canLayAll0
    rw [h x hx.1, ec_layL h xs hx.2]
    rfl
theorem ec_depL {p : α → PyData} {n : Nat} (h : ∀ a, (p a).depth ≤ n) : ∀ xs : List α, PyData.depthAll (xs.map p) ≤ n
  | [] => Nat.zero_le _
  | x :: xs => by
    rw [List.map_cons]
    unfold PyData.depthAll
    exact Nat.max_le.mpr ⟨h x, ec_depL h xs⟩
theorem ec_eqL {p : α → PyData} (h : ∀ a b, PyData.eqv (p a) (p b) = decide (a = b)) : ∀ xs ys : List α, PyData.eqvAll (xs.map p) (ys.map p) = decide (xs = ys)
  | [], [] => rfl
  | [], _ :: _ => rfl
  | _ :: _, [] => rfl
  | x :: xs, y :: ys => by
    rw [List.map_cons, List.map_cons]
    unfold PyData.eqvAll
    rw [h x y, ec_eqL h xs ys]
    by_cases h1 : x = y <;> by_cases h2 : xs = ys <;> simp [h1, h2]
theorem EC.lst {e : α → D} {ok : α → Bool} {k : Nat} (h : EC e ok k) : EC (eL e) (fun xs => xs.all ok) (k + 1) := by
  obtain ⟨p, h1, h2, h3, h4⟩ := h
  exact ⟨fun xs => .list (xs.map p), fun g xs => by unfold toPg; rw [ec_toL h1 g xs]; rfl, fun xs hx => by unfold PyData.canLay0; exact ec_layL h2 xs hx, fun xs => by unfold PyData.depth; exact Nat.succ_le_succ (ec_depL h3 xs), fun xs ys => by unfold PyData.eqv; exact ec_eqL h4 xs ys⟩
theorem EC.tup {e : α → D} {ok : α → Bool} {k : Nat} (h : EC e ok k) : EC (eT e) (fun xs => xs.all ok) (k + 1) := by
  obtain ⟨p, h1, h2, h3, h4⟩ := h
  exact ⟨fun xs => .tuple (xs.map p), fun g xs => by unfold toPg; rw [ec_toL h1 g xs]; rfl, fun xs hx => by unfold PyData.canLay0; exact ec_layL h2 xs hx, fun xs => by unfold PyData.depth; exact Nat.succ_le_succ (ec_depL h3 xs), fun xs ys => by unfold PyData.eqv; exact ec_eqL h4 xs ys⟩
end
end Tn


set_option Elab.async false
set_option linter.all false
set_option maxRecDepth 100000
/-! TnDcT: dicts whose keys are pairs of a whole number and a text, typed. -/
namespace Tn
open PySem L2 Dn
section
variable {α β γ : Type} {e : α → D} {A A1 A2 A3 : Om} {P P1 : List Sl} {f g h fe : Den D} {i j n k : Nat}
end
end Tn


set_option Elab.async false
set_option linter.all false
set_option maxRecDepth 100000
/-! TnWk3: slices of tuples of unlike kinds, d.get(k, x) of a plain dict, typed. -/
namespace Tn
open PySem L2 Dn
section
variable {α : Type} {e : α → D} {A A1 A2 A3 : Om} {P : List Sl} {f g h : Den D} {l r : Den (Option Int)} {lo hi : Option Int}
end
end Tn


set_option Elab.async false
set_option linter.all false
set_option maxRecDepth 100000
/-! TnAny: values of any kind, narrowed where they are used; calls with *args, typed. -/
namespace Tn
open PySem L2 Dn
section
variable {α β γ : Type} {A A1 A2 A3 : Om} {P : List Sl} {f g h : Den D} {r : Den (List D)} {CL : List Str} {T : String}
end
end Tn


set_option Elab.async false
set_option linter.all false
set_option maxRecDepth 100000
/-! TnBk: an instance as the first argument, whole or still under construction. -/
namespace Tn
open PySem L2 Dn
section
variable {α β γ : Type} {A A1 A2 A3 : Om} {P : List Sl} {f g h : Den D} {r : Den (List D)} {c fl : Str} {bd d v : D} {fs : List (Str × D)} {ds : List D} {n k : Nat} {b : DenS} {F : FD}
end
end Tn


set_option Elab.async false
set_option linter.all false
set_option maxRecDepth 100000
/-! TnAv: a whole number, a text or None as one kind of value; tuples of such parts. -/
namespace Tn
open PySem L2 Dn
inductive Av where
  | i (n : Int)
  | s (x : Str)
  | n
  deriving DecidableEq
section
variable {α β γ : Type} {A A1 A2 A3 : Om} {P : List Sl} {f g h : Den D} {r : Den (List D)} {CL : List Str} {T : String} {v : Av}
variable {xs : List Av}
end
end Tn


set_option Elab.async false
set_option linter.all false
set_option maxRecDepth 100000
/-! DnSJoin: sep.join(a list or a tuple of texts). -/
namespace Dn
open PySem L2 PyProof.Rows
section
variable {K : PySem.W.Frag} {m : Mp} {Ω : Om} {H : Hp}
end
section
variable {X : Cx} {E : L2.St → XK} {o e : Expr} {f : Den D} {r : Den (List D)} {apos cpos : Pos}
end
end Dn


set_option Elab.async false
set_option linter.all false
set_option maxRecDepth 100000
/-! TnTab: the module's tables, dict displays, sep.join, len(set(x)), x in an own list: typed. -/
namespace Tn
open PySem L2 Dn
section
variable {A A1 A2 A3 : Om} {P : List Sl} {f g h : Den D} {r : Den (List D)} {kvs : List (Str × Int)}
/-! displays -/
/-! texts -/
/-! len(set(x)) -/
/-! x in an own list of texts -/
/-! x in a plain tuple of texts -/
variable {α : Type} {e : α → D}
end
end Tn


set_option Elab.async false
set_option linter.all false
set_option maxRecDepth 100000
/-! DnParF: self.f1, self.f2 = a pair. -/
namespace L2
open PySem PySem.Spec PyProof.Rows
section
variable {X : Cx} {o : Expr} {f : Str} {pos : Pos} {ta : TE}
end
end L2
namespace Dn
open PySem L2 PyProof.Rows
section
variable {X : Cx} {E : L2.St → XK} {c f f1 f2 : Str} {fo fe : Den D} {D : Ends} {m : Mp} {Ω : Om} {H : Hp} {Γ : Gm} {σ : L2.St}
end
end Dn


set_option Elab.async false
set_option linter.all false
set_option maxRecDepth 100000
/-! TnParF: two attributes at once, typed; a condition that is known. -/
namespace Tn
open PySem L2 Dn
section
variable {A A1 A2 A3 : Om} {P : List Sl} {fe f g : Den D} {p : Den Bool} {c f1 f2 : Str} {d d1 d2 : D} {fs : List (Str × D)} {n i : Nat}
end
end Tn


set_option Elab.async false
set_option linter.all false
set_option maxRecDepth 100000
/-! L2TupK: tuples that are known to have no __dict__: tuple(a list), dict(such a tuple of pairs). -/
namespace L2
open PySem PySem.Spec PyProof.Rows Dn
section
variable {X : Cx}
end
end L2


set_option Elab.async false
set_option linter.all false
set_option maxRecDepth 100000
/-! DnTupK: tuple(x), dict(x), list(x) and walks over tuples that are known to have no __dict__. -/
namespace Dn
open PySem L2 PyProof.Rows
section
variable {K : PySem.W.Frag} {m : Mp} {Ω : Om} {H : Hp}
end
section
variable {X : Cx} {E : L2.St → XK} {tg e : Expr} {f : Den D}
end
end Dn


set_option Elab.async false
set_option linter.all false
set_option maxRecDepth 100000
/-! TnTupK: tuples that are known to have no __dict__, typed. -/
namespace Tn
open PySem L2 Dn
section
variable {α β : Type} {e : α → D}
abbrev eP (e : α → D) (xs : List α) : D := .tpk (xs.map e)
theorem EC.tpk [DecidableEq α] {ok : α → Bool} {k : Nat} (h : EC e ok k) : EC (eP e) (fun xs => xs.all ok) (k + 1) := by
  obtain ⟨p, h1, h2, h3, h4⟩ := EC.tup h
  exact ⟨p, h1, h2, h3, h4⟩
variable {A A1 : Om} {P : List Sl} {f : Den D}
end
end Tn


set_option Elab.async false
set_option linter.all false
set_option maxRecDepth 100000
set_option maxHeartbeats 2000000
/-! DnRec4: list(reversed(xs)). -/
namespace RT
open PySem PySem.Calls PyProof.Rows PyProof.V PySem.Spec L2 PySem.W
section
variable {prog : Program} {w : World} {A : Around} {E : Value → Shared → Prop} {s : Shared}
end
section
variable {X : Cx}
end
end RT
namespace Dn
open PySem L2 RT
section
variable {X : Cx} {E : L2.St → XK} {e : Expr} {f : Den D} {p p2 pos pos2 : Pos}
end
end Dn


set_option Elab.async false
set_option linter.all false
set_option maxRecDepth 100000
set_option maxHeartbeats 2000000
/-! TnRec4: list(reversed(xs)), d[k] = v for whole keys, typed. -/
namespace Tn
open PySem L2 Dn
section
variable {α β γ : Type} {e : α → D} {A A1 A2 : Om} {P P1 : List Sl} {f g h fe fk : Den D} {i j n k : Nat}
/-! [e, f], a list of two kinds -/
variable {x y : D}
end
end Tn


set_option Elab.async false
set_option linter.all false
set_option maxRecDepth 100000
set_option maxHeartbeats 2000000
/-! DnPairS: sorted(l), l a list of pairs (int, text); sorted(d), d a dict with such keys. -/
namespace Dn
open PySem PySem.Spec PyProof.Rows L2 SrtO
abbrev Ip := Int × PySem.Str
section
variable {prog : Program} {w : World} {A : Around} {E : Value → Shared → Prop} {s : Shared}
def IsP2 (h : Heap) (v : Value) (p : Ip) : Prop := ∃ a o t r n, v = .ref a ∧ h.get? a = some o ∧ o.cls = .type "tuple" ∧ o.data = .seq #[.int p.1 t, .str p.2 r] n
theorem IsP2.keeps {h h' : Heap} {v : Value} {p : Ip} (x : IsP2 h v p) (k : ∀ b o, h.get? b = some o → o.cls = .type "tuple" → h'.get? b = some o) : IsP2 h' v p := by
  obtain ⟨a, o, t, r, n, e, ho, hc, hd⟩ := x
  exact ⟨a, o, t, r, n, e, k _ _ ho hc, hc, hd⟩
end
/-! ### data -/
section
variable {K : PySem.W.Frag} {m : Mp} {Ω : Om} {H : Hp}
end
end Dn


set_option Elab.async false
set_option linter.all false
set_option maxRecDepth 100000
/-! DnLcL: a comprehension over a list that is a cell of one's own and stays one. -/
namespace Dn
open PySem L2
section
variable {X : Cx} {E : St → XK} {elt tg iter : Expr} {ifs : List Expr} {scope : Scope} {own : List (Str × Nat)} {pos : Pos} {t : Tg} {ft : Den Bool} {fe : Den D} {j : Nat} {cell : Bool} {fi : Den (List D)}
/-! a list that does not change, its comprehension a cell -/
end
end Dn


set_option Elab.async false
set_option linter.all false
set_option maxRecDepth 100000
set_option maxHeartbeats 2000000
/-! DnNet: x op y of an own class with y of another kind; list + list as a cell; two defaults. -/
namespace PySem.W
open PySem PySem.Calls PyProof.Rows
section
variable {prog : Program} {w : World} {A : Around} {E : Value → Shared → Prop} {s : Shared} {K : Frag} {x C L f : Addr} {h₀ : Heap} {m : Str → Option Value} {ox : Obj} {od : Option Obj} {T : String}
end
end PySem.W
namespace Dn
open PySem L2
structure BinF (K : PySem.W.Frag) (c : Str) (T nm : String) : Prop where
  fst : PySem.W.selfFirst K (cad K c) = true
  rc : PySem.W.findIn K (.ref (cad K c)) (dunderR nm) = some none
  t1 : ∃ fo, PySem.W.findIn K (.type T) (PySem.dunder nm) = some fo
  t2 : ∃ ro, PySem.W.findIn K (.type T) (dunderR nm) = some ro
  sb : PySem.W.subIn K (.type T) (.ref (cad K c)) = some false
section
variable {X : Cx} {E : L2.St → XK} {a b : Expr} {f g : Den D} {pos : Pos} {c : Str} {T : String} {ps : List Str} {k n : Nat} {F : FD}
end
/-! defaults (), () -/
end Dn



set_option Elab.async false
set_option linter.all false
set_option maxRecDepth 100000
/-! TnNet: records, dicts of pairs as cells, several fresh cells at once, one kind of value read as another. -/
namespace Tn
open PySem L2 Dn
section
variable {α β γ : Type} {e : α → D} {A A1 A2 A3 A' : Om} {P P1 Q Q' : List Sl} {f g h fe : Den D} {r : Den (List D)} {d d' v : D} {c : Cell} {i j k n : Nat} {is : List Nat}
/-! sorted -/
/-! several targets, plain ones and fresh cells -/
/-! comprehensions over a live list; comprehensions as cells -/
section
variable {σ : Type} {ey : β → D} {t : Tg} {ft : Den Bool} {vs : List Nat} {fi : Den (List D)} {xs : List α} {ys : List β}
end
end
section
variable {α β γ δ : Type} {e : α → D} {A A1 A2 : Om} {P : List Sl} {f g : Den D} {r : Den (List D)}
/-! an own class with what is of another kind -/
/-! list + list as a cell -/
/-! x.append(y), y of another kind -/
/-! f(k = e) that tells a new cell -/
/-! repr([..]) of lists that are cells -/
end
end Tn


set_option Elab.async false
set_option linter.all false
set_option maxRecDepth 100000
/-! DnDcW: x in l of data of any depth, a dict of pairs as a cell, != of dicts that may change. -/
namespace Dn
open PySem L2
section
variable {K : PySem.W.Frag} {m : Mp} {Ω : Om} {H : Hp}
end
/-! ### dict(xs) as a cell -/
section
variable {K : PySem.W.Frag}
end
/-! ### d != {} -/
section
variable {X : Cx} {E : L2.St → XK} {a b : Expr} {f g : Den D} {pos : Pos} {k : Nat}
end
/-! ### isinstance(d, T), d's keys tuples -/
section
variable {X : Cx} {E : L2.St → XK} {e : Expr} {f : Den D} {p p2 pos : Pos} {T : Str} {T' : String}
end
/-! ### zip of two tuples -/
end Dn


set_option Elab.async false
set_option linter.all false
set_option maxRecDepth 100000
/-! TnDcU: dicts walked and made anew, typed: keys texts, pairs of a number and a text, tuples of parts of any kind. -/
namespace Tn
open PySem L2 Dn
section
variable {α β γ : Type} {e : α → D} {ey : β → D} {A A1 A2 A3 : Om} {P P1 : List Sl} {f g h fk fe : Den D} {fi r : Den (List D)} {i j n k : Nat}
/-! dict(pairs) -/
/-! keys of any parts -/
/-! a tuple of a number and a text -/
/-! own dicts -/
/-! x in l -/
/-! {k: v for ..}, k a pair -/
variable {t : Tg} {ft : Den Bool} {vs : List Nat}
end
end Tn


set_option Elab.async false
set_option linter.all false
set_option maxRecDepth 100000
/-! DnFnD: f(..) of a plain function whose last parameters have defaults. -/
namespace Dn
open PySem L2
structure FnDf (P : Program) (w : World) (K : PySem.W.Frag) (mg : Str → Option Value) (base : Heap) (x : Str) (ps : List Str) (dfl : List D) (k : Nat) (F : FD) : Prop where
  ex : ∃ f fd ds dvs, mg x = some (.ref f) ∧ FnOkG P w K mg base (L2N.CX P w) k f fd ps (spD K ps.length F) ∧ PySem.W.keepIn K (.ref f) = true ∧ Binds K fd ps ds ∧ Vals dvs ds ∧ ∀ m Ω H, RlL K m Ω H dfl dvs
section
variable {X : Cx} {E : L2.St → XK} {x : Str} {ps : List Str} {dfl : List D} {k : Nat} {F : FD} {e : Expr} {es : List Expr} {r : Den (List D)} {p pos : Pos}
end
end Dn


set_option Elab.async false
set_option linter.all false
set_option maxRecDepth 100000
/-! L2DnI: the pairs of a dict whose keys stand anywhere, walked: for k, v in d.items(). -/
namespace L2
open PySem PySem.Spec PyProof.Rows
section
variable {X : Cx} {pins : List (Addr × Obj)} {σ : St} {H : Hp} {s : Shared} {d : Addr}
end
end L2


set_option Elab.async false
set_option linter.all false
set_option maxRecDepth 100000
/-! DnLive: instances that stay cells with cells in them; while; {k: v for ..} with keys that stand anywhere, as a cell; d.items() of such a dict. -/
namespace Dn
open PySem L2
/-! ### C(..), the instance stays a cell -/
section
variable {X : Cx} {E : St → XK} {e : Expr} {es : List Expr} {r : Den (List D)} {pos p : Pos} {c : Str} {k n : Nat} {ps : List Str} {F : FD}
end
/-! ### while -/
section
variable {X : Cx} {E : St → XK} {t : Expr} {body : List Stmt} {pos : Pos} {c : Den Bool} {b : DenS}
end
/-! ### {k: v for ..} as a cell, k a tuple that stands anywhere -/
/-- between two turns: the dict at p is filled, hidden -/
structure DcIN (K : PySem.W.Frag) (w : World) (Γ : Gm) (σ : St) (m1 : Mp) (Ω1 : Om) (H1 : Hp) (p : Addr) (m2 : Mp) (Ω2 : Om) (acc : List (NK × D)) (ws : List NE) (H2 : Hp) : Prop where
  gw : Gw K m1 Ω1 H1 m2 Ω2 H2
  c : CellsOk K m2 Ω2 H2
  hh : ∀ a, m1.hid a → m2.hid a
  hk : ∀ a o, m1.hid a → H1 a = some o → H2 a = some o
  hD : m2.hid p
  eD : ∃ q, H2 p = some (dnO w p ws q)
  ky : KyE K H2 ws
  racc : RlN K m2 Ω2 H2 acc ws
  sl : Slots K m2 Ω2 H2 Γ σ
theorem DcIN.step {K : PySem.W.Frag} {w : World} {Γ : Gm} {σ : St} {m1 : Mp} {Ω1 : Om} {H1 : Hp} {p : Addr} {m2 m3 : Mp} {Ω2 Ω3 : Om} {acc : List (NK × D)} {ws : List NE} {H2 H3 : Hp}
    (I : DcIN K w Γ σ m1 Ω1 H1 p m2 Ω2 acc ws H2) (g : Go K m2 Ω2 H2 m3 Ω3 H3) : DcIN K w Γ σ m1 Ω1 H1 p m3 Ω3 acc ws H3 :=
  ⟨I.gw.trans g.toGw, g.ok, fun a h => g.hs a (I.hh a h), fun a o h e => g.hk a o (I.hh a h) (I.hk a o h e), g.hs p I.hD, let ⟨q, e⟩ := I.eD; ⟨q, g.hk p _ I.hD e⟩, KyE.go g.toGw I.c I.ky, RlN.go g.toGw I.c _ _ I.racc, ((SR.mk I.c I.sl).go g).slots⟩
section
variable {X : Cx} {E : St → XK} {kx vx tg iter : Expr} {ifs : List Expr} {scope : Scope} {own : List (Str × Nat)} {pos : Pos} {fi : Den (List D)} {t : Tg} {ft : Den Bool} {fk fe : Den D}
end
/-! ### such a dict, a value, walked by its pairs -/
section
variable {X : Cx} {E : St → XK} {e tg : Expr} {f : Den D} {g : Den (List (NK × D))} {apos cpos pos : Pos} {c fl : Str}
end
section
variable {K : PySem.W.Frag} {m : Mp} {Ω : Om} {H : Hp}
theorem RlN.at : ∀ {kvs : List (NK × D)} {es : List NE} {i : Nat} {e : NE}, RlN K m Ω H kvs es → es[i]? = some e → ∃ d, kvs[i]? = some (e.1, d) ∧ Rl K m Ω H d e.2.2
  | [], es, i, e, h, h2 => by unfold RlN at h; subst h; simp at h2
  | (k', d) :: kvs, es, i, e, h, h2 => by
    unfold RlN at h
    obtain ⟨b, v, r, rfl, h3, h4⟩ := h
    cases i with
    | zero => cases (Option.some.inj h2); exact ⟨d, rfl, h3⟩
    | succ i => exact RlN.at (i := i) h4 h2
end
section
variable {X : Cx} {E : St → XK} {e : Expr} {f : Den (List (NK × D))} {apos cpos : Pos}
end
end Dn


set_option Elab.async false
set_option linter.all false
set_option maxRecDepth 100000
/-! TnFnD: DnFnD, typed; values that may be None, known to be none; d.items() over keys that stand anywhere. -/
namespace Tn
open PySem L2 Dn
section
variable {A A1 A2 : Om} {P : List Sl} {f g : Den D} {r : Den (List D)} {F : FD} {d : D} {ds dfl : List D} {k : Nat} {α : Type} {e : α → D}
end
end Tn


set_option Elab.async false
set_option linter.all false
set_option maxRecDepth 100000
/-! TnX: typed accounts of what raises; a lambda handed to a def that hears it. -/
namespace Tn
open PySem L2 Dn
def XE {α : Type} (A : Om) (P : List Sl) (f : Den α) (e : Xn) : Prop := ∀ Γ Ω, Rw A P Γ Ω → ∃ Ω', f Γ Ω = some (.ex e, Ω') ∧ Ext A Ω Ω'
def XB (A : Om) (P : List Sl) (b : DenS) (e : Xn) : Prop := ∀ Γ Ω, Rw A P Γ Ω → ∃ Γ' Ω', b Γ Ω = some (.ex e, Γ', Ω') ∧ (∃ W, Ω' = A ++ W) ∧ PureA A Ω'
def SpX (F : FD) (ds : List D) (e : Xn) : Prop := ∀ Ω, PureΩ Ω → F ds Ω = some (.ex e, Ω)
section
variable {α β : Type} {A A1 : Om} {P P1 : List Sl} {f g : Den D} {d x y : D} {ds : List D} {r : Den (List D)} {b b1 b2 : DenS} {e : Xn} {F : FD} {n k i : Nat} {c : Str} {fns : List Str}
theorem xe_bnd1 {f : Den α} {h : α → Den β} (h1 : XE A P f e) : XE A P (bnd f h) e := fun Γ Ω w => by
  obtain ⟨Ω1, e1, x1⟩ := h1 Γ Ω w
  exact ⟨Ω1, by unfold bnd; rw [e1, bR_ex], x1⟩
theorem xe_bnd2 {f : Den α} {h : α → Den β} {a : α} (h1 : TE A P f a A) (h2 : XE A P (h a) e) : XE A P (bnd f h) e := fun Γ Ω w => by
  obtain ⟨Ω1, e1, x1⟩ := h1.2 Γ Ω w
  obtain ⟨Ω2, e2, x2⟩ := h2 Γ Ω1 (w.ext x1 rfl)
  exact ⟨Ω2, by unfold bnd; rw [e1, bR_ok]; exact e2, x1.trans x2 rfl⟩
theorem xe_call (h : TE A P r ds A) (hF : SpX F ds e) (hl : ds.length = k := by rfl) : XE A P (fCall k F r) e := xe_bnd2 h fun Γ Ω w => ⟨Ω, by rw [if_pos hl]; exact hF Ω w.pu, w.refl⟩
theorem xb_exp (h : XE A P f e) : XB A P (sExp f) e := fun Γ Ω w => by
  obtain ⟨Ω1, e1, x1⟩ := h Γ Ω w
  exact ⟨Γ, Ω1, by unfold sExp; rw [e1]; rfl, (w.ext x1 rfl).base, x1.pure⟩
theorem xb_set (h : XE A P f e) : XB A P (sSet i f) e := fun Γ Ω w => by
  obtain ⟨Ω1, e1, x1⟩ := h Γ Ω w
  exact ⟨Γ, Ω1, by unfold sSet; rw [e1]; rfl, (w.ext x1 rfl).base, x1.pure⟩
theorem xb_seq1 (h : XB A P b1 e) : XB A P (sSeq b1 b2) e := fun Γ Ω w => by
  obtain ⟨Γ1, Ω1, e1, z⟩ := h Γ Ω w
  exact ⟨Γ1, Ω1, by unfold sSeq; rw [e1]; rfl, z⟩
theorem xb_seq2 (h1 : TB A P b1 (.nx P1) A) (h2 : XB A P1 b2 e) : XB A P (sSeq b1 b2) e := fun Γ Ω w => by
  obtain ⟨Γ1, Ω1, e1, w1⟩ := h1.2 Γ Ω w
  obtain ⟨Γ2, Ω2, e2, z⟩ := h2 Γ1 Ω1 w1
  exact ⟨Γ2, Ω2, (seq_nx e1).trans e2, z⟩
theorem xb_ifT {p : Den Bool} (h : TE A P p true A) (h2 : XB A P b1 e) : XB A P (sIf p b1 b2) e := fun Γ Ω w => by
  obtain ⟨Ω1, e1, x1⟩ := h.2 Γ Ω w
  obtain ⟨Γ2, Ω2, e2, z⟩ := h2 Γ Ω1 (w.ext x1 rfl)
  exact ⟨Γ2, Ω2, (if_t e1).trans e2, z⟩
theorem xb_ifF {p : Den Bool} (h : TE A P p false A) (h2 : XB A P b2 e) : XB A P (sIf p b1 b2) e := fun Γ Ω w => by
  obtain ⟨Ω1, e1, x1⟩ := h.2 Γ Ω w
  obtain ⟨Γ2, Ω2, e2, z⟩ := h2 Γ Ω1 (w.ext x1 rfl)
  exact ⟨Γ2, Ω2, (if_f e1).trans e2, z⟩
theorem xb_raise (h : TE A P r ds A) (hl : ds.length = fns.length := by rfl) : XB A P (sRaise c fns r) ⟨c, (fns.zip ds).reverse⟩ := fun Γ Ω w => by
  obtain ⟨Ω1, e1, x1⟩ := h.2 Γ Ω w
  refine ⟨Γ, Ω1, ?_, (w.ext x1 rfl).base, x1.pure⟩
  unfold sRaise
  rw [e1]
  exact if_pos hl
theorem clean_ex {Ω W : Om} (h : F ds Ω = some (.ex e, Ω ++ W)) (hp : PureΩ Ω) (he : belowF 0 e.fs = true) : clean F ds Ω = some (.ex e, Ω) := by
  unfold clean
  rw [h]
  dsimp only
  have e1 : cellsBelow Ω.length (Ω ++ W) = true := by
    unfold cellsBelow
    rw [List.take_left]
    exact hp.below
  rw [if_pos ⟨belowF_mo (Nat.zero_le _) _ he, e1⟩, List.take_left]
theorem fn_x0 (he : belowF 0 e.fs = true) (h : ∀ A, XB A (startP n ds) b e) : SpX (clean (fnD n b)) ds e := fun Ω hp => by
  obtain ⟨Γ', Ω', e1, ⟨W, e2⟩, hq⟩ := h Ω _ _ (rw_start hp)
  subst e2
  refine clean_ex (W := W) ?_ hp he
  unfold fnD
  rw [e1]
  rfl
end
/-! ### what is heard -/
section
variable {A : Om} {P : List Sl} {t : Den D} {d : D} {e : Xn} {FH : D → Thk → Thk} {s : D}
/-- a def that hears: what comes of a value, of an error -/
def HrV (FH : D → Thk → Thk) (d s : D) : Prop := ∀ c th Ω W, PureΩ Ω → th Ω = some (.ok d, Ω ++ W) → FH c th Ω = some (.ok s, Ω)
def HrX (FH : D → Thk → Thk) (e : Xn) (s : D) : Prop := ∀ c th Ω W, PureΩ Ω → th Ω = some (.ex e, Ω ++ W) → FH c th Ω = some (.ok s, Ω)
theorem ext_tail {A Ω Ω' : Om} {Γ : Gm} (w : Rw A P Γ Ω) (x : Ext A Ω Ω') (hl : Ω.length ≤ Ω'.length) : ∃ W, Ω' = Ω ++ W := by
  refine ⟨Ω'.drop Ω.length, ?_⟩
  have e : Ω'.take Ω.length = Ω := by
    refine List.ext_getElem? fun n => ?_
    rw [List.getElem?_take]
    by_cases hn : n < Ω.length
    · rw [if_pos hn]
      obtain ⟨W, e1⟩ := w.base
      by_cases ha : n < A.length
      · obtain ⟨W2, e2⟩ := x.base
        rw [e1, e2, List.getElem?_append_left ha, List.getElem?_append_left ha]
      · exact x.keep n (Nat.le_of_not_lt ha) hn
    · rw [if_neg hn, List.getElem?_eq_none (Nat.le_of_not_lt hn)]
  calc Ω' = Ω'.take Ω.length ++ Ω'.drop Ω.length := (List.take_append_drop _ _).symm
    _ = _ := by rw [e]
theorem ext_len {A Ω Ω' : Om} {Γ : Gm} (w : Rw A P Γ Ω) (x : Ext A Ω Ω') : Ω.length ≤ Ω'.length := by
  obtain ⟨W, e1⟩ := w.base
  obtain ⟨W2, e2⟩ := x.base
  by_cases h : A.length < Ω.length
  · have hk := x.keep (Ω.length - 1) (by omega) (by omega)
    rw [List.getElem?_eq_getElem (show Ω.length - 1 < Ω.length by omega)] at hk
    have := (List.getElem?_eq_some_iff.mp hk).1
    omega
  · rw [e2, List.length_append]
    omega
theorem te_hearV (h : TE A P t d A) (hF : HrV FH d s) : TE A P (fHear FH t) s A := ⟨rfl, fun Γ Ω w => by
  obtain ⟨Ω1, e1, x1⟩ := h.2 Γ Ω w
  obtain ⟨W, e2⟩ := ext_tail w x1 (ext_len w x1)
  exact ⟨Ω, fHear_eq fun f us => hF _ _ Ω W w.pu (by rw [e1, e2]), w.refl⟩⟩
theorem te_hearX (h : XE A P t e) (hF : HrX FH e s) : TE A P (fHear FH t) s A := ⟨rfl, fun Γ Ω w => by
  obtain ⟨Ω1, e1, x1⟩ := h Γ Ω w
  obtain ⟨W, e2⟩ := ext_tail w x1 (ext_len w x1)
  exact ⟨Ω, fHear_eq fun f us => hF _ _ Ω W w.pu (by rw [e1, e2]), w.refl⟩⟩
end
end Tn
namespace Tn
open PySem L2 Dn
end Tn


set_option Elab.async false
set_option linter.all false
set_option maxRecDepth 100000
/-! TnPlain: reasoning about typed functions, no program in sight. -/
namespace Tn
open PySem L2 Dn
section
variable {α β σ ρ : Type}
theorem foldN_cons (f : α → σ → Option σ) (x : α) (xs : List α) (s : σ) : foldN f (x :: xs) s = (f x s).bind (foldN f xs) := rfl
/-- the step is g, as long as I holds -/
theorem foldN_fold {f : α → σ → Option σ} (g : σ → α → σ) (I : Nat → σ → Prop) : ∀ (xs : List α) (k : Nat) (s : σ), I k s → (∀ x ∈ xs, ∀ j s, j < k + xs.length → I j s → f x s = some (g s x) ∧ I (j + 1) (g s x)) → foldN f xs s = some (xs.foldl g s) ∧ I (k + xs.length) (xs.foldl g s)
  | [], k, s, h, _ => ⟨rfl, h⟩
  | x :: xs, k, s, h, hf => by
    obtain ⟨e, h1⟩ := hf x (List.mem_cons_self ..) k s (by simp) h
    obtain ⟨e2, h2⟩ := foldN_fold g I xs (k + 1) (g s x) h1 fun y hy j s hj => hf y (List.mem_cons_of_mem _ hy) j s (by rw [List.length_cons]; omega)
    rw [foldN_cons, e, Option.bind_some, e2, List.foldl_cons, List.length_cons]
    exact ⟨rfl, by rw [show k + (xs.length + 1) = k + 1 + xs.length by omega]; exact h2⟩
theorem foldN_rel {f : α → σ → Option σ} (I : Nat → σ → Prop) : ∀ (xs : List α) (k : Nat) (s : σ), I k s → (∀ x ∈ xs, ∀ j s, j < k + xs.length → I j s → ∃ s', f x s = some s' ∧ I (j + 1) s') → ∃ s', foldN f xs s = some s' ∧ I (k + xs.length) s'
  | [], k, s, h, _ => ⟨s, rfl, h⟩
  | x :: xs, k, s, h, hf => by
    obtain ⟨s1, e, h1⟩ := hf x (List.mem_cons_self ..) k s (by simp) h
    obtain ⟨s2, e2, h2⟩ := foldN_rel I xs (k + 1) s1 h1 fun y hy j s hj => hf y (List.mem_cons_of_mem _ hy) j s (by rw [List.length_cons]; omega)
    refine ⟨s2, by rw [foldN_cons, e, Option.bind_some, e2], ?_⟩
    rw [List.length_cons, show k + (xs.length + 1) = k + 1 + xs.length by omega]
    exact h2
theorem foldR_rel {f : α → σ → Option (σ ⊕ ρ)} (I : σ → Prop) : ∀ (xs : List α) (s : σ), I s → (∀ x ∈ xs, ∀ s, I s → ∃ s', f x s = some (.inl s') ∧ I s') → ∃ s', foldR f xs s = some (.inl s') ∧ I s'
  | [], s, h, _ => ⟨s, rfl, h⟩
  | x :: xs, s, h, hf => by
    obtain ⟨s1, e, h1⟩ := hf x (List.mem_cons_self ..) s h
    obtain ⟨s2, e2, h2⟩ := foldR_rel I xs s1 h1 fun y hy => hf y (List.mem_cons_of_mem _ hy)
    refine ⟨s2, ?_, h2⟩
    unfold foldR
    rw [e]
    exact e2
theorem lcO'_of {f : α → Option (Option β)} (g : α → Option β) : ∀ (xs : List α), (∀ x ∈ xs, f x = some (g x)) → lcO' f xs = some (xs.filterMap g)
  | [], _ => rfl
  | x :: xs, h => by
    unfold lcO'
    rw [h x (List.mem_cons_self ..)]
    dsimp only
    rw [lcO'_of g xs fun y hy => h y (List.mem_cons_of_mem _ hy)]
    dsimp only
    cases e : g x with
    | none => rw [List.filterMap_cons_none e]
    | some y => rw [List.filterMap_cons_some e]
theorem lcO_of {f : α → Option (Option β)} (g : α → Option β) {xs : List α} (hl : xs.length ≤ 100000) (h : ∀ x ∈ xs, f x = some (g x)) : lcO f xs = some (xs.filterMap g) := by
  unfold lcO
  rw [if_pos hl]
  exact lcO'_of g xs h
theorem lcO_map {f : α → Option (Option β)} (g : α → β) {xs : List α} (hl : xs.length ≤ 100000) (h : ∀ x ∈ xs, f x = some (some (g x))) : lcO f xs = some (xs.map g) := by
  rw [lcO_of (fun x => some (g x)) hl h]
  rw [show (fun x => some (g x)) = some ∘ g from rfl, List.filterMap_eq_map]
theorem lcM_of (p : α → Bool) (y : α → β) {xs : List α} (hl : xs.length ≤ 100000) : lcM p y xs = some ((xs.filter p).map y) := if_pos hl
theorem lcM_map (y : α → β) {xs : List α} (hl : xs.length ≤ 100000) : lcM (fun _ => true) y xs = some (xs.map y) := by
  rw [lcM_of _ _ hl, List.filter_eq_self.mpr fun _ _ => rfl]
theorem range1_of {j : Int} (h1 : 0 ≤ j) (h2 : j < 4611686018427387904) : range1 j = some (rangeI 0 j.toNat) := if_pos ⟨by omega, h2⟩
theorem rangeI_length (lo : Int) (n : Nat) : (rangeI lo n).length = n := by unfold rangeI; simp
theorem appT_of {xs : List α} {a : α} (h : xs.length < 100000) : appT xs a = some (xs ++ [a]) := if_pos h
theorem extT_of {xs ys : List α} (h : xs.length + ys.length ≤ 100000) : extT xs ys = some (xs ++ ys) := if_pos h
theorem catT_of {xs ys : List α} (h : xs.length + ys.length ≤ 100000) : catT xs ys = some (xs ++ ys) := if_pos h
theorem setT_last {ys : List α} {z a : α} : setT (ys ++ [z]) (-1) a = some (ys ++ [a]) := by
  unfold setT
  rw [List.length_append, List.length_singleton, ixN_last]
  simp
theorem atI_get {xs : List α} {d : Int} (h0 : 0 ≤ d) (h1 : d < xs.length) : ∃ a, L2.atI xs d = some a ∧ a ∈ xs ∧ xs[d.toNat]? = some a := by
  have hl : d.toNat < xs.length := by omega
  refine ⟨xs[d.toNat], ?_, List.getElem_mem hl, List.getElem?_eq_getElem hl⟩
  have e := Dn.atI_nat xs d.toNat
  rw [show ((d.toNat : Nat) : Int) = d by omega] at e
  rw [e]
  exact List.getElem?_eq_getElem hl
theorem andO_t (t : Option Bool) : andO true t = t := rfl
theorem andO_f (t : Option Bool) : andO false t = some false := rfl
theorem orO_f (t : Option Bool) : orO false t = t := rfl
@[simp] theorem b2_some {γ : Type} (a : α) (c : γ) (f : α → γ → Option β) : b2 (some (a, c)) f = f a c := rfl
/-! ### all goes well, and R holds of what comes -/
def Ok {α : Type} (x : Option α) (R : α → Prop) : Prop := ∃ y, x = some y ∧ R y
theorem ok_some {R : α → Prop} {a : α} (h : R a) : Ok (some a) R := ⟨a, rfl, h⟩
theorem Ok.imp {R S : α → Prop} {x : Option α} (h : Ok x R) (i : ∀ a, R a → S a) : Ok x S := let ⟨a, e, r⟩ := h; ⟨a, e, i a r⟩
theorem ok_bind {x : Option α} {f : α → Option β} {Q : α → Prop} {R : β → Prop} (h : Ok x Q) (k : ∀ a, Q a → Ok (f a) R) : Ok (x.bind f) R := by
  obtain ⟨a, rfl, q⟩ := h
  exact k a q
/-- the value is known -/
theorem ok_val {x : Option α} {f : α → Option β} {R : β → Prop} {a : α} (h : x = some a) (k : Ok (f a) R) : Ok (x.bind f) R := by
  rw [h]
  exact k
theorem ok_b2 {γ : Type} {x : Option (α × γ)} {f : α → γ → Option β} {Q : α → γ → Prop} {R : β → Prop} (h : Ok x fun z => Q z.1 z.2) (k : ∀ a c, Q a c → Ok (f a c) R) : Ok (b2 x f) R := by
  obtain ⟨⟨a, c⟩, rfl, q⟩ := h
  exact k a c q
theorem ok_foldN {f : α → σ → Option σ} {xs : List α} {s : σ} {k : σ → Option β} {R : β → Prop} (I : Nat → σ → Prop) (h0 : I 0 s) (hf : ∀ x ∈ xs, ∀ j s, j < xs.length → I j s → Ok (f x s) (I (j + 1))) (hk : ∀ s', I xs.length s' → Ok (k s') R) : Ok ((foldN f xs s).bind k) R := by
  obtain ⟨s', e, h⟩ := foldN_rel I xs 0 s h0 fun x hx j s hj hs => hf x hx j s (by omega) hs
  rw [e]
  exact hk s' (by rw [Nat.zero_add] at h; exact h)
theorem ok_foldR {f : α → σ → Option (σ ⊕ ρ)} {xs : List α} {s : σ} {k : σ ⊕ ρ → Option β} {R : β → Prop} (I : σ → Prop) (h0 : I s) (hf : ∀ x ∈ xs, ∀ s, I s → Ok (f x s) fun z => ∃ s', z = .inl s' ∧ I s') (hk : ∀ s', I s' → Ok (k (.inl s')) R) : Ok ((foldR f xs s).bind k) R := by
  obtain ⟨s', e, h⟩ := foldR_rel I xs s h0 fun x hx s hs => by
    obtain ⟨z, e, s', rfl, h⟩ := hf x hx s hs
    exact ⟨s', e, h⟩
  rw [e]
  exact hk s' h
theorem bind_foldN {f : α → σ → Option σ} {xs : List α} {s : σ} {k : σ → Option β} {r : Option β} (g : σ → α → σ) (I : Nat → σ → Prop) (h0 : I 0 s) (hf : ∀ x ∈ xs, ∀ j s, j < xs.length → I j s → f x s = some (g s x) ∧ I (j + 1) (g s x)) (hk : I xs.length (xs.foldl g s) → k (xs.foldl g s) = r) : (foldN f xs s).bind k = r := by
  obtain ⟨e, h⟩ := foldN_fold g I xs 0 s h0 fun x hx j s hj hs => hf x hx j s (by omega) hs
  rw [e]
  exact hk (by rw [Nat.zero_add] at h; exact h)
/-! ### dicts -/
end
end Tn


set_option Elab.async false
set_option linter.all false
set_option maxRecDepth 100000
/-! TnRepr: what can be shown. -/
namespace Tn
open PySem PySem.Spec PyProof.Rows L2 Dn
theorem str_app_len (a b : Str) : (a ++ b).length = a.length + b.length := by
  show (Str.append a b).length = _
  first | exact Str.length_append a b | simp [Str.length, Str.append]
theorem textFrom_le : ∀ (ts : List Str) (k : Nat) (acc : Str), (textFrom k acc ts).length ≤ acc.length + (ts.map fun t => t.length + 2).sum
  | [], k, acc => by show acc.length ≤ _; simp
  | t :: r, k, acc => by
    have h := textFrom_le r (k + 1) (acc ++ (if k > 0 then ", " else "" : String) ++ t)
    have e : (textFrom k acc (t :: r)) = textFrom (k + 1) (acc ++ (if k > 0 then ", " else "" : String) ++ t) r := rfl
    rw [e]
    rw [str_app_len, str_app_len] at h
    have h2 : (Str.ofString (if k > 0 then ", " else "" : String)).length ≤ 2 := by split <;> decide
    rw [List.map_cons, List.sum_cons]
    omega
structure RP (p : PyData) (n k : Nat) : Prop where
  sh : p.showable = true
  nd : p.hasDict = false
  dp : p.depth ≤ k
  ln : p.shown.length ≤ n
def Shw (d : D) (n k : Nat) : Prop := ∃ p, toPg (fun _ => none) d = some p ∧ RP p n k
theorem Shw.text {d : D} {n k : Nat} (h : Shw d n k) (hn : n ≤ 100000 := by decide) (hk : k ≤ 60 := by decide) : ∃ t, reprD d = some t := by
  obtain ⟨p, e, r⟩ := h
  refine ⟨p.shown, ?_⟩
  unfold reprD
  rw [e]
  dsimp only
  rw [if_pos]
  unfold okRep
  have h1 := r.dp
  have h2 := r.ln
  simp [r.sh, r.nd]
  omega
theorem Shw.up {d : D} {n k n' k' : Nat} (h : Shw d n k) (hn : n ≤ n') (hk : k ≤ k') : Shw d n' k' := by
  obtain ⟨p, e, r⟩ := h
  exact ⟨p, e, r.sh, r.nd, Nat.le_trans r.dp hk, Nat.le_trans r.ln hn⟩
theorem shw_intS {i : Int} (k : Nat) (hk : 0 < k) (h : i.natAbs < 10 ^ k) (h2 : i.natAbs.log2 < 1920) : Shw (.int i) (k + 1) 0 := ⟨.int i, rfl, decide_eq_true h2, rfl, by simp [PyData.depth], by
  have := int_text_length_le10 hk h
  show (Str.ofString (toString i)).length ≤ k + 1
  rw [PySem.ofString_length]
  exact this⟩
theorem sum_le {α : Type} {g : α → Nat} {n : Nat} : ∀ {xs : List α}, (∀ x ∈ xs, g x ≤ n) → (xs.map g).sum ≤ xs.length * n
  | [], _ => by simp
  | x :: xs, h => by
    have h1 := h x (List.mem_cons_self ..)
    have h2 := sum_le (g := g) (xs := xs) fun y hy => h y (List.mem_cons_of_mem _ hy)
    rw [List.map_cons, List.sum_cons, List.length_cons, Nat.add_mul]
    omega
theorem shownAll_map : ∀ ps : List PyData, PyData.shownAll ps = ps.map PyData.shown
  | [] => rfl
  | p :: ps => by unfold PyData.shownAll; rw [shownAll_map ps]; rfl
theorem rp_all {ps : List PyData} {n k : Nat} (h : ∀ p ∈ ps, RP p n k) : PyData.showableAll ps = true ∧ PyData.hasDictAll ps = false ∧ PyData.depthAll ps ≤ k := by
  induction ps with
  | nil => exact ⟨rfl, rfl, Nat.zero_le _⟩
  | cons p ps ih =>
    obtain ⟨h1, h2, h3⟩ := ih fun q hq => h q (List.mem_cons_of_mem _ hq)
    have h0 := h p (List.mem_cons_self ..)
    refine ⟨?_, ?_, ?_⟩
    · unfold PyData.showableAll; rw [h0.sh, h1]; rfl
    · unfold PyData.hasDictAll; rw [h0.nd, h2]; rfl
    · unfold PyData.depthAll; exact Nat.max_le.mpr ⟨h0.dp, h3⟩
theorem rp_list {ps : List PyData} {n k : Nat} (h : ∀ p ∈ ps, RP p n k) : RP (.list ps) (2 + ps.length * (n + 2)) (k + 1) := by
  obtain ⟨h1, h2, h3⟩ := rp_all h
  refine ⟨h1, h2, by unfold PyData.depth; omega, ?_⟩
  show (listText (PyData.shownAll ps)).length ≤ _
  rw [shownAll_map]
  unfold listText
  rw [str_app_len]
  have e := textFrom_le (ps.map PyData.shown) 0 "["
  rw [List.map_map] at e
  have e2 := sum_le (g := (fun t : Str => t.length + 2) ∘ PyData.shown) (n := n + 2) (xs := ps) fun p hp => by
    have := (h p hp).ln
    show p.shown.length + 2 ≤ n + 2
    omega
  have z1 : (Str.ofString "[").length = 1 := by decide
  have z2 : (Str.ofString "]").length = 1 := by decide
  omega
theorem piled_sum : ∀ ts : List Str, piled ts = (ts.map fun t => t.length + 2).sum
  | [] => rfl
  | t :: ts => by
    rw [List.map_cons, List.sum_cons, ← piled_sum ts]
    first | rfl | simp [piled] | (unfold piled; omega)
theorem rp_tuple {ps : List PyData} {n k : Nat} (h : ∀ p ∈ ps, RP p n k) : RP (.tuple ps) (3 + ps.length * (n + 2)) (k + 1) := by
  obtain ⟨h1, h2, h3⟩ := rp_all h
  refine ⟨h1, h2, by unfold PyData.depth; omega, ?_⟩
  show (tupleText (PyData.shownAll ps)).length ≤ _
  rw [shownAll_map]
  unfold tupleText
  rw [str_app_len, str_app_len]
  have e2 := sum_le (g := (fun t : Str => t.length + 2) ∘ PyData.shown) (n := n + 2) (xs := ps) fun p hp => by
    have := (h p hp).ln
    show p.shown.length + 2 ≤ n + 2
    omega
  have z1 : (Str.ofString "(").length = 1 := by decide
  have z2 : (Str.ofString (if (ps.map PyData.shown).length == 1 then ",)" else ")" : String)).length ≤ 2 := by split <;> decide
  have z3 : (Str.join ", " (ps.map PyData.shown)).length ≤ ps.length * (n + 2) := by
    cases ps with
    | nil => exact Nat.le_trans (by decide : (Str.join ", " ([] : List Str)).length ≤ 0) (Nat.zero_le _)
    | cons p ps =>
      have z := join_length_add ((p :: ps).map PyData.shown) (by simp)
      rw [piled_sum, List.map_map] at z
      omega
  omega
variable {α β γ : Type} {e : α → D}
theorem shw_L {xs : List α} {n k : Nat} (h : ∀ x ∈ xs, Shw (e x) n k) : Shw (eL e xs) (2 + xs.length * (n + 2)) (k + 1) := by
  have key : ∀ ys : List α, (∀ x ∈ ys, Shw (e x) n k) → ∃ ps, toPLg (fun _ => none) (ys.map e) = some ps ∧ ps.length = ys.length ∧ ∀ p ∈ ps, RP p n k := by
    intro ys
    induction ys with
    | nil => intro _; exact ⟨[], rfl, rfl, fun p hp => by cases hp⟩
    | cons y ys ih =>
      intro h
      obtain ⟨ps, e1, l1, r1⟩ := ih fun x hx => h x (List.mem_cons_of_mem _ hx)
      obtain ⟨p, e2, r2⟩ := h y (List.mem_cons_self ..)
      refine ⟨p :: ps, ?_, by simp [l1], fun q hq => ?_⟩
      · rw [List.map_cons]
        unfold toPLg
        rw [e2]
        dsimp only
        rw [e1]
      · rcases List.mem_cons.mp hq with rfl | hq
        · exact r2
        · exact r1 q hq
  obtain ⟨ps, e1, l1, r1⟩ := key xs h
  refine ⟨.list ps, ?_, ?_⟩
  · show (toPLg (fun _ => none) (xs.map e)).map PyData.list = _
    rw [e1]
    rfl
  · have := rp_list r1
    rwa [l1] at this
theorem toPL_tup {ds : List D} {n k : Nat} (h : ∀ d ∈ ds, Shw d n k) : Shw (.tup ds) (3 + ds.length * (n + 2)) (k + 1) := by
  have key : ∀ ys : List D, (∀ x ∈ ys, Shw x n k) → ∃ ps, toPLg (fun _ => none) ys = some ps ∧ ps.length = ys.length ∧ ∀ p ∈ ps, RP p n k := by
    intro ys
    induction ys with
    | nil => intro _; exact ⟨[], rfl, rfl, fun p hp => by cases hp⟩
    | cons y ys ih =>
      intro h
      obtain ⟨ps, e1, l1, r1⟩ := ih fun x hx => h x (List.mem_cons_of_mem _ hx)
      obtain ⟨p, e2, r2⟩ := h y (List.mem_cons_self ..)
      refine ⟨p :: ps, ?_, by simp [l1], fun q hq => ?_⟩
      · unfold toPLg
        rw [e2]
        dsimp only
        rw [e1]
      · rcases List.mem_cons.mp hq with rfl | hq
        · exact r2
        · exact r1 q hq
  obtain ⟨ps, e1, l1, r1⟩ := key ds h
  refine ⟨.tuple ps, ?_, ?_⟩
  · show (toPLg (fun _ => none) ds).map PyData.tuple = _
    rw [e1]
    rfl
  · have := rp_tuple r1
    rwa [l1] at this
end Tn


set_option Elab.async false
set_option linter.all false
set_option maxRecDepth 100000
/-! TnRpD: what can be shown, dicts among it. -/
namespace Tn
open PySem PySem.Spec PyProof.Rows L2 Dn
/-- the text that shows a datum, dicts among it -/
def reprX (d : D) : Option Str := match toPX d with
  | some p => if okRepX p = true then some p.shown else none
  | none => none
theorem o_reprX {t : Str} (h : reprX d = some t) (Ω : Om) : dReprX [d] Ω = some (.ok (.str t), Ω) := by
  unfold reprX at h
  cases e : toPX d with
  | none => rw [e] at h; cases h
  | some p =>
    rw [e] at h
    obtain ⟨h1, h2⟩ := ite_some h
    unfold dReprX op1
    dsimp only
    rw [e]
    dsimp only
    rw [if_pos h1, h2]
structure RPX (p : PyData) (n k : Nat) : Prop where
  sh : p.showable = true
  dp : p.depth ≤ k
  ln : p.shown.length ≤ n
def ShwX (d : D) (n k : Nat) : Prop := ∃ p, toPX d = some p ∧ RPX p n k
theorem ShwX.text {d : D} {n k : Nat} (h : ShwX d n k) (hn : n ≤ 100000 := by decide) (hk : k ≤ 60 := by decide) : ∃ t, reprX d = some t := by
  obtain ⟨p, e, r⟩ := h
  refine ⟨p.shown, ?_⟩
  unfold reprX
  rw [e]
  dsimp only
  rw [if_pos]
  unfold okRepX
  have h1 := r.dp
  have h2 := r.ln
  simp [r.sh]
  omega
theorem ShwX.up {d : D} {n k n' k' : Nat} (h : ShwX d n k) (hn : n ≤ n') (hk : k ≤ k') : ShwX d n' k' := by
  obtain ⟨p, e, r⟩ := h
  exact ⟨p, e, r.sh, Nat.le_trans r.dp hk, Nat.le_trans r.ln hn⟩
mutual
theorem toPX_of : ∀ (d : D) (p : PyData), toPg (fun _ => none) d = some p → toPX d = some p
  | .non, p, h => h
  | .bl _, p, h => h
  | .int _, p, h => h
  | .str _, p, h => h
  | .tup xs, p, h => by
    unfold toPg at h
    obtain ⟨ps, q, rfl⟩ := Option.map_eq_some_iff.mp h
    unfold toPX
    rw [toPXL_of xs ps q]
    rfl
  | .tpk xs, p, h => by
    unfold toPg at h
    obtain ⟨ps, q, rfl⟩ := Option.map_eq_some_iff.mp h
    unfold toPX
    rw [toPXL_of xs ps q]
    rfl
  | .lst xs, p, h => by
    unfold toPg at h
    obtain ⟨ps, q, rfl⟩ := Option.map_eq_some_iff.mp h
    unfold toPX
    rw [toPXL_of xs ps q]
    rfl
  | .dct _, p, h => by unfold toPg at h; cases h
  | .dcT _, p, h => by unfold toPg at h; cases h
  | .dcN _ _, p, h => by unfold toPg at h; cases h
  | .obj _ _, p, h => by unfold toPg at h; cases h
  | .ref _, p, h => by unfold toPg at h; cases h
  | .scr _, p, h => by unfold toPg at h; cases h
  | .cl _, p, h => by unfold toPg at h; cases h
  | .clo _ _ _, p, h => by unfold toPg at h; cases h
theorem toPXL_of : ∀ (ds : List D) (ps : List PyData), toPLg (fun _ => none) ds = some ps → toPXL ds = some ps
  | [], ps, h => h
  | d :: ds, ps, h => by
    unfold toPLg at h
    cases q : toPg (fun _ => none) d with
    | none => rw [q] at h; cases h
    | some p =>
      rw [q] at h
      dsimp only at h
      cases q2 : toPLg (fun _ => none) ds with
      | none => rw [q2] at h; cases h
      | some ps2 =>
        rw [q2] at h
        cases h
        unfold toPXL
        rw [toPX_of d p q]
        dsimp only
        rw [toPXL_of ds ps2 q2]
end
theorem Shw.x {d : D} {n k : Nat} (h : Shw d n k) : ShwX d n k := by
  obtain ⟨p, e, r⟩ := h
  exact ⟨p, toPX_of d p e, r.sh, r.dp, r.ln⟩
end Tn


set_option Elab.async false
set_option linter.all false
set_option maxRecDepth 100000
/-! TnPl: any plain datum as one type; what is heard, of any kind; == of such data. -/
namespace Tn
open PySem L2 Dn
structure Pd where
  v : D
  h : below 0 v = true
def ePl (x : Pd) : D := x.v
theorem pu_Pl : Pu ePl := fun a => a.h
/-- a tuple of plain data -/
theorem below_pls : ∀ xs : List Pd, belowL 0 (xs.map ePl) = true
  | [] => rfl
  | x :: xs => by rw [List.map_cons]; exact belowL_cons x.h (below_pls xs)
def plT (xs : List Pd) : Pd := ⟨.tup (xs.map ePl), by unfold below; exact below_pls xs⟩
def plM {α : Type} {e : α → D} (he : Pu e) (xs : List α) : List Pd := xs.map fun z => ⟨e z, he z⟩
theorem plM_map {α : Type} {e : α → D} (he : Pu e) (xs : List α) : (plM he xs).map ePl = xs.map e := by
  unfold plM
  rw [List.map_map]
  rfl
theorem te_plM {α : Type} {e : α → D} {he : Pu e} {A A1 : Om} {P : List Sl} {f : Den D} {xs : List α} (h : TE A P f (eL e xs) A1) : TE A P f (eL ePl (plM he xs)) A1 := by
  have z : eL ePl (plM he xs) = eL e xs := by unfold eL; rw [plM_map]
  rw [z]
  exact h
/-- == of plain data -/
def eqPl (x y : D) : Option Bool := match toPg (fun _ => none) x, toPg (fun _ => none) y with
  | some p, some q => if SeqAt.shaped p = true ∧ SeqAt.shaped q = true then some (PyData.eqv p q) else none
  | _, _ => none
theorem eqPl_E {x y : D} {b : Bool} (h : eqPl x y = some b) : ∃ p q, toPg (fun _ => none) x = some p ∧ toPg (fun _ => none) y = some q ∧ SeqAt.shaped p = true ∧ SeqAt.shaped q = true ∧ PyData.eqv p q = b := by
  unfold eqPl at h
  cases e1 : toPg (fun _ => none) x with
  | none => rw [e1] at h; cases h
  | some p =>
    cases e2 : toPg (fun _ => none) y with
    | none => rw [e1, e2] at h; cases h
    | some q =>
      rw [e1, e2] at h
      obtain ⟨⟨z1, z2⟩, z3⟩ := ite_some h
      exact ⟨p, q, rfl, rfl, z1, z2, z3⟩
theorem w_eqGPl {α : Type} {e : α → D} {xs : List α} {y : D} {b : Bool} (h : eqPl (eL e xs) y = some b) (w : Bool → D) (Ω : Om) (n : Nat) (hn : Ω[n]? = some (.lst (xs.map e))) : eqG w (.ref n) y Ω = some (.ok (w b), Ω) := by
  obtain ⟨p, q, h1, h2, h3, h4, h5⟩ := eqPl_E h
  have t : Dn.toP Ω 3 (.ref n) = some p := by
    show toPg _ (.ref n) = _
    unfold toPg
    rw [hn]
    unfold eL toPg at h1
    cases e1 : toPLg (fun _ => none) (xs.map e) with
    | none => rw [e1] at h1; cases h1
    | some ps =>
      rw [e1] at h1
      dsimp only
      rw [toPLg_pure _ _ ps e1]
      exact h1
  rw [eqG_of t (toP_pure h2) h3 h4, h5]
theorem w_eqPl {α : Type} {e : α → D} {xs : List α} {y : D} {b : Bool} (h : eqPl (eL e xs) y = some b) (Ω : Om) (n : Nat) (hn : Ω[n]? = some (.lst (xs.map e))) : dEq (.ref n) y Ω = some (.ok (.bl b), Ω) := w_eqGPl h (fun b => .bl b) Ω n hn
theorem hearT_no {t : Den D} {A : Om} {P : List Sl} : ∀ e, (none : Option Xn) = some e → XE A P t e := fun _ h => nomatch h
theorem hearT_nv {β : Type} {em : β → D} {t : Den D} {A : Om} {P : List Sl} : ∀ a, (none : Option β) = some a → TE A P t (em a) A := fun _ h => nomatch h
/-! ### what is heard, of any kind -/
def hearG {α β : Type} (tv : α → Option β) (tx : Xn → Option β) (x : Option Xn) (v : Option α) : Option β := match x with
  | some e => tx e
  | none => Option.bind v tv
theorem te_hearG {α β : Type} {A : Om} {P : List Sl} {t : Den D} {FH : D → Thk → Thk} {tv : D → Option β} {tx : Xn → Option β} {x : Option Xn} {v : Option α} {s : β} (em : α → D) {er : β → D} (h1 : ∀ e, x = some e → XE A P t e) (h2 : ∀ a, v = some a → TE A P t (em a) A)
    (h3 : ∀ {d s}, tv d = some s → HrV FH d (er s)) (h4 : ∀ {e s}, tx e = some s → HrX FH e (er s)) (h : hearG (fun a => tv (em a)) tx x v = some s) : TE A P (fHear FH t) (er s) A := by
  unfold hearG at h
  cases x with
  | some e => exact te_hearX (h1 e rfl) (h4 h)
  | none =>
    obtain ⟨a, ha, hs⟩ := Option.bind_eq_some_iff.mp h
    exact te_hearV (h2 a ha) (h3 hs)
section
variable {A : Om} {P : List Sl} {f : Den D} {r : Den (List D)} {c mt : Str} {fs : List (Str × D)} {F : FD} {ds : List D} {e : Xn} {k : Nat}
theorem xe_meth (h : TE A P f (.obj c fs) A) (h2 : TE A P r ds A) (hF : SpX F (.obj c fs :: ds) e) (hm : fs.lookup mt = none := by rfl) (hl : (D.obj c fs :: ds).length = k := by rfl) : XE A P (fMeth c mt k F f r) e := xe_bnd2 h fun Γ Ω w => by
  obtain ⟨Ω2, e2, w2⟩ := h2.2 Γ Ω w
  refine ⟨Ω2, ?_, w2⟩
  rw [asO_obj]
  dsimp only
  rw [hm]
  dsimp only
  rw [e2, bR_ok, if_pos hl]
  exact hF Ω2 (w.ext w2 rfl).pu
end
end Tn


set_option Elab.async false
set_option linter.all false
set_option maxRecDepth 100000
/-! TnKb: values of many kinds; a walk that raises; a list that is turned about once more. -/
namespace Tn
open PySem L2 Dn
inductive Ke where
  | n | b (x : Bool) | i (x : Int) | s (x : Str) | t (x : Int)
inductive Kb where
  | n | i (x : Int) | s (x : Str) | d | l (xs : List Ke) | t (xs : List Ke)
section
variable {α : Type} {A A1 : Om} {P : List Sl} {b : DenS} {er : Xn}
theorem tt_orT {p q : Den Bool} (h1 : TE A P p true A1) : TE A P (fOr p q) true A1 := tt_or (b' := true) h1 (fun h => nomatch h)
def foldX (f : α → Option (Option Xn)) : List α → Option Xn
  | [] => none
  | x :: xs => match f x with
    | none => none
    | some none => foldX f xs
    | some (some e) => some e
def XT (A : Om) (P Q : List Sl) (b : DenS) : Option Xn → Prop
  | none => TB A P b (.nx Q) A
  | some er => XB A P b er
theorem xb_forX {e : α → D} {xs : List α} {fi : Den (List D)} {t : DenG} {step : α → Option (Option Xn)} {Q : List Sl} (hr : foldX step xs = some er) (hi : TE A P fi (xs.map e) A) (hP : Pw P Q)
    (hb : ∀ x z, step x = some z → ∃ P1, TG t (e x) Q P1 ∧ XT A P1 Q b z) : XB A P (sFor fi t b) er := by
  have key : ∀ (xs : List α), foldX step xs = some er → ∀ Γ Ω, Rw A Q Γ Ω → ∃ Γ' Ω', loopS t b (xs.map e) Γ Ω = some (.ex er, Γ', Ω') ∧ (∃ W, Ω' = A ++ W) ∧ PureA A Ω' := by
    intro xs
    induction xs with
    | nil => intro h; cases h
    | cons x xs ih =>
      intro h Γ Ω w
      unfold foldX at h
      cases q : step x with
      | none => rw [q] at h; cases h
      | some z =>
        rw [q] at h
        obtain ⟨P1, g1, t1⟩ := hb x z q
        obtain ⟨Γ1, e1, w1⟩ := g1 _ Γ Ω w
        cases z with
        | none =>
          obtain ⟨Γ2, Ω2, e2, w2⟩ := (show TB A P1 b (.nx Q) A from t1).2 Γ1 Ω w1
          obtain ⟨Γ3, Ω3, e3, z3⟩ := ih h Γ2 Ω2 w2
          refine ⟨Γ3, Ω3, ?_, z3⟩
          rw [List.map_cons]
          unfold loopS
          rw [e1]
          dsimp only
          rw [e2]
          exact e3
        | some er2 =>
          cases h
          obtain ⟨Γ2, Ω2, e2, z2⟩ := (show XB A P1 b er from t1) Γ1 Ω w1
          refine ⟨Γ2, Ω2, ?_, z2⟩
          rw [List.map_cons]
          unfold loopS
          rw [e1]
          dsimp only
          rw [e2]
  intro Γ Ω w
  obtain ⟨Ω1, e1, x1⟩ := hi.2 Γ Ω w
  obtain ⟨Γ2, Ω2, e2, z2⟩ := key xs hr Γ Ω1 ((w.ext x1 rfl).weak hP)
  exact ⟨Γ2, Ω2, (for_ok e1).trans e2, z2⟩
theorem o_ixQ {e : α → D} {z : Bool × List α} {i : Int} {a : α} (h : L2.atI z.2 i = some a) (Ω : Om) : dIx (eLT e z) (.int i) Ω = some (.ok (e a), Ω) := by
  obtain ⟨b, xs⟩ := z
  cases b with
  | true => exact o_ixT h Ω
  | false => exact o_ixL h Ω
end
end Tn


set_option Elab.async false
set_option linter.all false
set_option maxRecDepth 100000
/-! TnPl2: what raises, of any call; walks that may raise; values of any kind looked at. -/
namespace Tn
open PySem L2 Dn
section
variable {A A1 : Om} {P P1 Q : List Sl} {f g : Den D} {r : Den (List D)} {c mt : Str} {fs : List (Str × D)} {F : FD} {d : D} {ds : List D} {e : Xn} {k l : Nat} {ix : List Nat}
theorem xe_methK (h : TE A P f (.obj c fs) A) (h2 : TE A P r ds A) (hF : SpX F (reord ix (.obj c fs :: ds)) e) (hm : fs.lookup mt = none := by rfl) (hl : ds.length = l ∧ (reord ix (D.obj c fs :: ds)).length = k := by exact ⟨rfl, rfl⟩) : XE A P (fMethK c mt k l ix F f r) e := xe_bnd2 h fun Γ Ω w => by
  obtain ⟨Ω2, e2, w2⟩ := h2.2 Γ Ω w
  refine ⟨Ω2, ?_, w2⟩
  rw [asO_obj]
  dsimp only
  rw [hm]
  dsimp only
  rw [e2, bR_ok, if_pos hl]
  exact hF Ω2 (w.ext w2 rfl).pu
theorem xe_callO (h : TE A P f (.obj c fs) A) (h2 : TE A P g d A) (hF : SpX F [.obj c fs, d] e) : XE A P (fCallOX c 2 F f (fCons g fNil)) e := xe_bnd2 h fun Γ Ω w => by
  obtain ⟨Ω2, e2, w2⟩ := (te_cons h2 te_nil).2 Γ Ω w
  refine ⟨Ω2, ?_, w2⟩
  show (if c = c then bR (fCons g fNil Γ Ω) _ else none) = _
  rw [if_pos rfl, e2, bR_ok, if_pos (show [_, _].length = 2 from rfl)]
  exact hF Ω2 (w.ext w2 rfl).pu
theorem xe_cmeth (h : TE A P r ds A) (hF : SpX F (.cl c :: ds) e) (hl : (D.cl c :: ds).length = k := by rfl) : XE A P (fCMeth c k F r) e := xe_bnd2 h fun Γ Ω w => ⟨Ω, by rw [if_pos hl]; exact hF Ω w.pu, w.refl⟩
/-- an instance that is not made -/
def SpXM (F : FD) (ds : List D) (e : Xn) : Prop := (∀ k, SpX F (.ref k :: ds) e) ∧ belowF 0 e.fs = true
theorem mk_ex {Ω : Om} (hF : SpXM F ds e) (hp : PureΩ Ω) (hl : ds.length + 1 = k) : mkD c k F ds Ω = some (.ex e, Ω) := by
  unfold mkD
  rw [if_pos hl, hF.1 Ω.length (Ω ++ [.ins c []]) (hp.add rfl)]
  dsimp only
  have e1 : cellsBelow Ω.length (Ω ++ [Cell.ins c []]) = true := by
    unfold cellsBelow
    rw [List.take_left]
    exact hp.below
  rw [if_pos ⟨belowF_mo (Nat.zero_le _) _ hF.2, e1⟩, List.take_left]
theorem xe_make (h : TE A P r ds A) (hF : SpXM F ds e) (hl : ds.length + 1 = k := by rfl) : XE A P (fMake c k F r) e := xe_bnd2 h fun Γ Ω w => ⟨Ω, mk_ex hF w.pu hl, w.refl⟩
theorem xe_makeK (h : TE A P r ds A) (hF : SpXM F (reord ix ds) e) (hl : ds.length = l ∧ (reord ix ds).length + 1 = k := by exact ⟨rfl, rfl⟩) : XE A P (fMakeK c k l ix F r) e := xe_bnd2 h fun Γ Ω w => ⟨Ω, by rw [if_pos hl.1]; exact mk_ex hF w.pu hl.2, w.refl⟩
theorem xb_for1 {fi : Den (List D)} {t : DenG} {b : DenS} (h : XE A P fi e) : XB A P (sFor fi t b) e := fun Γ Ω w => by
  obtain ⟨Ω1, e1, x1⟩ := h Γ Ω w
  exact ⟨Γ, Ω1, by unfold sFor; rw [e1], (w.ext x1 rfl).base, x1.pure⟩
theorem te_dispT {fk fv : Den D} {y d : D} {ks : List Key} (h1 : TE A P fk y A) (h2 : TE A P fv d A) (hk : keyT y = some ks) : TE A P (fDispT fk fv) (.dcT [(ks, d)]) A := ⟨rfl, fun Γ Ω w => by
  obtain ⟨Ω1, e1, x1⟩ := h1.2 Γ Ω w
  obtain ⟨Ω2, e2, x2⟩ := h2.2 Γ Ω1 (w.ext x1 rfl)
  refine ⟨Ω2, ?_, x1.trans x2 rfl⟩
  unfold fDispT
  rw [e1]
  dsimp only
  rw [e2]
  dsimp only
  rw [hk]⟩
/-! ### a walk that may raise -/
variable {α : Type}
def foldY (f : α → Option (Option Xn)) : List α → Option (Option Xn)
  | [] => some none
  | x :: xs => match f x with
    | none => none
    | some none => foldY f xs
    | some (some e) => some (some e)
theorem foldY_X {f : α → Option (Option Xn)} : ∀ {xs : List α}, foldY f xs = some (some e) → foldX f xs = some e
  | [], h => by cases h
  | x :: xs, h => by
    unfold foldY at h
    unfold foldX
    cases q : f x with
    | none => rw [q] at h; cases h
    | some z =>
      rw [q] at h
      cases z with
      | none => exact foldY_X h
      | some e2 => cases h; rfl
theorem tb_forY {ee : α → D} {xs : List α} {fi : Den (List D)} {t : DenG} {b : DenS} {step : α → Option (Option Xn)} (hr : foldY step xs = some none) (hi : TE A P fi (xs.map ee) A) (hP : Pw P Q)
    (hb : ∀ x z, step x = some z → ∃ P1, TG t (ee x) Q P1 ∧ XT A P1 Q b z) : TB A P (sFor fi t b) (.nx Q) A := by
  have key : ∀ (xs : List α), foldY step xs = some none → ∀ Γ Ω, Rw A Q Γ Ω → ∃ Γ' Ω', loopS t b (xs.map ee) Γ Ω = some (.nx, Γ', Ω') ∧ Rw A Q Γ' Ω' := by
    intro xs
    induction xs with
    | nil => intro _ Γ Ω w; exact ⟨Γ, Ω, rfl, w⟩
    | cons x xs ih =>
      intro h Γ Ω w
      unfold foldY at h
      cases q : step x with
      | none => rw [q] at h; cases h
      | some z =>
        rw [q] at h
        obtain ⟨P1, g1, t1⟩ := hb x z q
        obtain ⟨Γ1, e1, w1⟩ := g1 _ Γ Ω w
        cases z with
        | none =>
          obtain ⟨Γ2, Ω2, e2, w2⟩ := (show TB A P1 b (.nx Q) A from t1).2 Γ1 Ω w1
          obtain ⟨Γ3, Ω3, e3, z3⟩ := ih h Γ2 Ω2 w2
          refine ⟨Γ3, Ω3, ?_, z3⟩
          rw [List.map_cons]
          unfold loopS
          rw [e1]
          dsimp only
          rw [e2]
          exact e3
        | some er2 => cases h
  refine ⟨rfl, fun Γ Ω w => ?_⟩
  obtain ⟨Ω1, e1, x1⟩ := hi.2 Γ Ω w
  obtain ⟨Γ2, Ω2, e2, z2⟩ := key xs hr Γ Ω1 ((w.ext x1 rfl).weak hP)
  exact ⟨Γ2, Ω2, (for_ok e1).trans e2, z2⟩
theorem xb_forY {ee : α → D} {xs : List α} {fi : Den (List D)} {t : DenG} {b : DenS} {step : α → Option (Option Xn)} (hr : foldY step xs = some (some e)) (hi : TE A P fi (xs.map ee) A) (hP : Pw P Q)
    (hb : ∀ x z, step x = some z → ∃ P1, TG t (ee x) Q P1 ∧ XT A P1 Q b z) : XB A P (sFor fi t b) e := xb_forX (foldY_X hr) hi hP hb
end
/-! ### except: which clause -/
theorem pick_no {i : Nat} {x : Xn} {Γ : Gm} {Ω : Om} {h : Cls1} {r : List Cls1} (h1 : h.1.lookup x.cls = some false) : pickX i x Γ Ω (h :: r) = pickX i x Γ Ω r := by
  conv => lhs; unfold pickX
  rw [h1]
theorem pick_yes {i : Nat} {x : Xn} {Γ : Gm} {Ω : Om} {h : Cls1} {r : List Cls1} (h1 : h.1.lookup x.cls = some true) (hi : i < Γ.length) : pickX i x Γ Ω (h :: r) = endX i (h.2 x (Γ.set i none) Ω) := by
  conv => lhs; unfold pickX
  rw [h1]
  dsimp only
  rw [if_pos hi]
/-! ### values of any kind -/
def isIntD : D → Bool
  | .int _ => true
  | _ => false
def isLD : D → Bool
  | .lst _ => true
  | .tup _ => true
  | _ => false
def okOd : D → Bool
  | .non => true
  | .bl _ => true
  | .int _ => true
  | .str _ => true
  | .tup _ => true
  | .lst _ => true
  | .dct _ => true
  | .dcT _ => true
  | _ => false
theorem ifE {α : Type} {c : Prop} [Decidable c] {x : Option α} {y : α} (h : (if c then x else none) = some y) : c ∧ x = some y := by
  by_cases hc : c
  · rw [if_pos hc] at h; exact ⟨hc, h⟩
  · rw [if_neg hc] at h; cases h
def xnV (c : Str) (d : D) : Xn := ⟨c, [("value", d)]⟩
theorem xnV_below {c : Str} {d : D} (h : below 0 d = true) : belowF 0 (xnV c d).fs = true := by
  show belowF 0 [(("value" : Str), d)] = true
  unfold belowF
  rw [h]
  rfl
def hdL (a s : Str) : Pd := ⟨.lst [.str a, .str s, .bl true], rfl⟩
def hdX (a f : Str) (e : Xn) : Option Pd := Option.bind (e.fs.lookup f) fun x => Option.bind (reprX x) fun s => some (hdL a s)
theorem fXf_ok {cl f : Str} {x : D} {fs : List (Str × D)} {Γ : Gm} {Ω : Om} (e1 : List.lookup f fs = some x) : fXf cl f ⟨cl, fs⟩ Γ Ω = some (.ok x, Ω) := by unfold fXf; rw [if_pos rfl, e1]
theorem fXis_ok {cl : Str} {fs : List (Str × D)} {Γ : Gm} {Ω : Om} : fXis [(cl, true)] ⟨cl, fs⟩ Γ Ω = some (.ok (.bl true), Ω) := by
  unfold fXis
  simp
theorem reprX_ok {f : Den D} {x : D} {t : Str} {Γ : Gm} {Ω : Om} (h : f Γ Ω = some (.ok x, Ω)) (e2 : reprX x = some t) : fCB dReprX (fCons f fNil) Γ Ω = some (.ok (.str t), Ω) := by
  unfold fCB bnd
  rw [cons_ok h nil_ok, bR_ok]
  exact o_reprX e2 Ω
theorem andV_ok {f g : Den D} {Γ : Gm} {Ω : Om} (h1 : f Γ Ω = some (.ok (.bl true), Ω)) (h2 : g Γ Ω = some (.ok (.bl true), Ω)) : fAndV f g Γ Ω = some (.ok (.bl true), Ω) := by
  unfold fAndV fT bnd
  rw [h1, bR_ok]
  exact h2
theorem lst3_ok {f g h : Den D} {a b c : D} {Γ : Gm} {Ω : Om} (h1 : f Γ Ω = some (.ok a, Ω)) (h2 : g Γ Ω = some (.ok b, Ω)) (h3 : h Γ Ω = some (.ok c, Ω)) : fLst (fCons f (fCons g (fCons h fNil))) Γ Ω = some (.ok (.lst [a, b, c]), Ω) := by
  unfold fLst bnd
  rw [cons_ok h1 (cons_ok h2 (cons_ok h3 nil_ok)), bR_ok]
  rfl
end Tn


set_option Elab.async false
set_option linter.all false
set_option maxRecDepth 100000
set_option maxHeartbeats 4000000
namespace K10
open PySem PySem.Spec PyProof.Rows L2 Dn Tn
abbrev fs_Stair (s : List (Int × Int × Int)) : List (Str × D) := [("own_steps", (eT stD s))]
abbrev e_Stair (s : List (Int × Int × Int)) : D := .obj "Stair" (fs_Stair s)
theorem pu_Stair : Pu e_Stair := fun s => (belowF_cons (f := "own_steps") ((pu_T pu_st) _) rfl)
abbrev fs_RightSteps (s : List (Int × Int × Int)) : List (Str × D) := [("told_steps", (eT stD s))]
abbrev e_RightSteps (s : List (Int × Int × Int)) : D := .obj "RightSteps" (fs_RightSteps s)
theorem pu_RightSteps : Pu e_RightSteps := fun s => (belowF_cons (f := "told_steps") ((pu_T pu_st) _) rfl)
def PotOk (q : Pot) : Prop := 0 ≤ q.2 ∧ q.2 < 4294967296
def t_law_draw (size : Int) (q : Pot) : Option (Int × Pot) :=
  if 0 < size ∧ size < 1073741824 ∧ 0 ≤ q.2 ∧ q.2 < 4294967296 then
    (if 0 < q.1 then some (q.1 % size, (q.1 / size, q.2)) else some (((q.2 * 48271 + 14009) % 2147483587 * ((q.2 * 48271 + 14009) % 2147483587) % 2147483549 / 13) % size, (q.1, (q.2 * 48271 + 14009) % 2147483587)))
  else none
theorem draw_spec {size : Int} {q : Pot} (hq : PotOk q) (h1 : 0 < size) (h2 : size < 1073741824) : ∃ d q', t_law_draw size q = some (d, q') ∧ 0 ≤ d ∧ d < size ∧ PotOk q' := by
  unfold t_law_draw
  rw [if_pos ⟨h1, h2, hq.1, hq.2⟩]
  split
  · exact ⟨_, _, rfl, Int.emod_nonneg _ (by omega), Int.emod_lt_of_pos _ h1, hq⟩
  · refine ⟨_, _, rfl, Int.emod_nonneg _ (by omega), Int.emod_lt_of_pos _ h1, Int.emod_nonneg _ (by decide), ?_⟩
    have := Int.emod_lt_of_pos (q.2 * 48271 + 14009) (b := 2147483587) (by decide)
    show (q.2 * 48271 + 14009) % 2147483587 < 4294967296
    omega
def t_law_pick {α : Type} (xs : List α) (q : Pot) : Option (α × Pot) := b2 (t_law_draw (xs.length : Int) q) fun x q => Option.bind (L2.atI xs x) fun a => some (a, q)
def t_is_integer (v_value : Int) : Option Bool :=
  some (true && (!false))
def t_is_list (v_value : List (Int × Int × Int)) : Option Bool :=
  some true
def t_want_range (v_first : Int) (v_end : Int) : Option Unit :=
  Option.bind (t_is_integer v_first) fun x1 => Option.bind (orO (!x1) (Option.bind (t_is_integer v_end) fun x3 => some ((!x3) || decide (v_end ≤ v_first)))) fun x5 => Option.bind (some x5) fun c7 => ifO c7 none (some ())
def t_is_step (v_value : Int × Int × Int) : Option Bool :=
  Option.bind (orO false (Option.bind (orO (!decide (3 = 3)) (Option.bind (lcO (β := Bool) (fun (ev1 : Int) => Option.bind (t_is_integer ev1) fun x2 => some (some x2)) ([v_value.1, v_value.2.1, v_value.2.2])) fun x4 => some (!(x4.all id)))) fun x6 => some x6)) fun x8 => Option.bind (some x8) fun c10 => ifO c10 (some false) (some (decide (1 ≤ v_value.2.2)))
def t_does_rise (v_before : Int × Int × Int) (v_step : Int × Int × Int) : Option Bool :=
  some (decide ((v_before.1 + v_before.2.2) ≤ v_step.1) && decide ((v_before.2.1 + v_before.2.2) ≤ v_step.2.1))
def t_want_steps (v_steps : List (Int × Int × Int)) : Option Unit :=
  Option.bind (t_is_list v_steps) fun x1 => Option.bind (some (!x1)) fun c3 => ifO c3 none (Option.bind (foldN (fun (ev6 : Int × (Int × Int × Int)) (s5 : Unit) => (Option.bind (t_is_step ev6.2) fun x7 => Option.bind (orO (!x7) (Option.bind (andO (decide (0 < ev6.1)) (Option.bind (L2.atI v_steps (ev6.1 - 1)) fun x9 => Option.bind (t_does_rise x9 ev6.2) fun x11 => some (!x11))) fun x13 => some x13)) fun x15 => Option.bind (some x15) fun c17 => ifO c17 none (some ()) : Option Unit)) (enumT 0 v_steps) ()) fun r19 => some ())
def t_does_go_on (v_step : Int × Int × Int) (v_elder : Int) (v_newer : Int) : Option Bool :=
  some ((decide ((v_step.1 + v_step.2.2) = v_elder)) && (decide ((v_step.2.1 + v_step.2.2) = v_newer)))
def t_one_form (v_steps : List (Int × Int × Int)) : Option (List (Int × Int × Int)) :=
  Option.bind (foldN (fun (ev2 : Int × Int × Int) (s1 : (List (Int × Int × Int))) => (Option.bind (andO (!decide (s1 = ([] : List (Int × Int × Int)))) (Option.bind (L2.atI s1 (-1)) fun x3 => Option.bind (t_does_go_on x3 ev2.1 ev2.2.1) fun x5 => some x5)) fun x7 => Option.bind (some x7) fun c9 => ifO c9 (Option.bind (L2.atI s1 (-1)) fun x11 => Option.bind (L2.atI s1 (-1)) fun x13 => Option.bind (L2.atI s1 (-1)) fun x15 => Option.bind (setT s1 (-1) (x11.1, x13.2.1, (x15.2.2 + ev2.2.2))) fun x17 => some x17) (Option.bind (appT s1 (ev2.1, ev2.2.1, ev2.2.2)) fun x19 => some x19) : Option (List (Int × Int × Int)))) v_steps ([] : List (Int × Int × Int))) fun r21 => some r21
def t_clipped (v_step : Int × Int × Int) (v_first : Int) (v_end : Int) : Option (List (Int × Int × Int)) :=
  Option.bind (ifO (decide ((maxI v_step.1 v_first) < (minI (v_step.1 + v_step.2.2) v_end))) (some ([((maxI v_step.1 v_first), ((v_step.2.1 + (maxI v_step.1 v_first)) - v_step.1), ((minI (v_step.1 + v_step.2.2) v_end) - (maxI v_step.1 v_first)))])) (some ([]))) fun x1 => some x1
def t_joined_ranges (v_ranges : List (Int × Int)) : Option (List (Int × Int)) :=
  Option.bind (foldN (fun (ev2 : Int × Int) (s1 : (List (Int × Int))) => (Option.bind (andO (!decide (s1 = ([] : List (Int × Int)))) (Option.bind (L2.atI s1 (-1)) fun x3 => some (decide (ev2.1 ≤ x3.2)))) fun x5 => Option.bind (some x5) fun c7 => ifO c7 (Option.bind (L2.atI s1 (-1)) fun x9 => Option.bind (L2.atI s1 (-1)) fun x11 => Option.bind (setT s1 (-1) (x9.1, (maxI x11.2 ev2.2))) fun x13 => some x13) (Option.bind (appT s1 (ev2.1, ev2.2)) fun x15 => some x15) : Option (List (Int × Int)))) (sortP v_ranges) ([] : List (Int × Int))) fun r17 => some r17
def t_RightStepsD_initD (v_steps : List (Int × Int × Int)) : Option (List (Int × Int × Int)) :=
  Option.bind (t_one_form v_steps) fun x1 => some x1
def t_StairD_initD_r (v_steps : List (Int × Int × Int)) : Option (List (Int × Int × Int)) :=
  some v_steps
def t_StairD_initD_l (v_steps : List (Int × Int × Int)) : Option (List (Int × Int × Int)) :=
  Option.bind (t_want_steps v_steps) fun x1 => Option.bind (some (decide (60 < (v_steps.length : Int)))) fun c3 => ifO c3 none (Option.bind (t_one_form v_steps) fun x5 => some x5)
def t_stair_of (v_steps : List (Int × Int × Int)) : Option (List (Int × Int × Int)) :=
  Option.bind (t_RightStepsD_initD v_steps) fun x1 => Option.bind (t_StairD_initD_r x1) fun x3 => some x3
def t_Stair_stay (v_first : Int) (v_length : Int) : Option (List (Int × Int × Int)) :=
  Option.bind (t_is_integer v_first) fun x1 => Option.bind (some (!x1)) fun c3 => ifO c3 none (Option.bind (t_is_integer v_length) fun x5 => Option.bind (some ((!x5) || decide (v_length < 1))) fun c7 => ifO c7 none (Option.bind (t_StairD_initD_l ([(v_first, v_first, v_length)])) fun x9 => some x9))
def t_Stair_limited (v_self : List (Int × Int × Int)) (v_first : Int) (v_end : Int) : Option (List (Int × Int × Int)) :=
  Option.bind (t_want_range v_first v_end) fun x1 => Option.bind (foldN (fun (ev4 : Int × Int × Int) (s3 : (List (Int × Int × Int))) => (Option.bind (t_clipped ev4 v_first v_end) fun x5 => Option.bind (extT s3 x5) fun x7 => some x7 : Option (List (Int × Int × Int)))) v_self ([] : List (Int × Int × Int))) fun r9 => Option.bind (t_stair_of r9) fun x11 => some x11
def t_Stair_ranges (v_self : List (Int × Int × Int)) (v_first : Int) (v_end : Int) : Option (List (Int × Int)) :=
  Option.bind (t_Stair_limited v_self v_first v_end) fun x1 => Option.bind (lcM (fun (ev3 : Int × Int × Int) => true) (fun (ev3 : Int × Int × Int) => (ev3.2.1, (ev3.2.1 + ev3.2.2))) x1) fun x4 => Option.bind (t_joined_ranges x4) fun x6 => some x6
def t_Stair_cut_in (v_self : List (Int × Int × Int)) (v_first : Int) (v_end : Int) : Option (List (Int × Int)) :=
  Option.bind (t_Stair_limited v_self v_first v_end) fun x1 => Option.bind (foldN (fun (ev4 : Int × Int × Int) (s3 : (List (Int × Int)) × Int) => (Option.bind (Option.bind (some (decide (s3.2 < ev4.1))) fun c5 => ifO c5 (Option.bind (appT s3.1 (s3.2, ev4.1)) fun x7 => some x7) (some s3.1)) fun j9 => Option.bind (some (ev4.1 + ev4.2.2)) fun x11 => some (j9, x11) : Option ((List (Int × Int)) × Int))) x1 (([] : List (Int × Int)), v_first)) fun r13 => Option.bind (ifO (decide (r13.2 < v_end)) (some ([(r13.2, v_end)])) (some ([]))) fun x15 => Option.bind (catT r13.1 x15) fun x17 => some x17
def t_law_steps (v_most : Int) (q0 : Pot) : Option ((List (Int × Int × Int)) × Pot) :=
  b2 (t_law_draw 9 q0) fun x1 q2 => b2 (t_law_draw 9 q2) fun x4 q5 => b2 (t_law_draw (v_most + 1) q5) fun x7 q8 => Option.bind (range1 x7) fun x10 => Option.bind (foldN (fun (ev13 : Int) (s12 : Int × Int × (List (Int × Int × Int)) × Pot) => (b2 (t_law_draw 4 s12.2.2.2) fun x14 q15 => Option.bind (appT s12.2.2.1 (s12.1, s12.2.1, (1 + x14))) fun x17 => b2 (t_law_draw 4 q15) fun x19 q20 => Option.bind (L2.atI ([0, 0, 1, 3]) x19) fun x22 => Option.bind (some ((s12.1 + (1 + x14)) + x22)) fun x24 => b2 (t_law_draw 4 q20) fun x26 q27 => Option.bind (L2.atI ([0, 0, 1, 2]) x26) fun x29 => Option.bind (some ((s12.2.1 + (1 + x14)) + x29)) fun x31 => some (x24, x31, x17, q27) : Option (Int × Int × (List (Int × Int × Int)) × Pot))) x10 ((x1 - 4), (x4 - 4), ([] : List (Int × Int × Int)), q8)) fun r33 => some (r33.2.2.1, r33.2.2.2)
def tv_law_told (d : D) : Option Pd := some ⟨.lst [.str "told"], rfl⟩
def tx_law_told (e : Xn) : Option Pd := if e.cls = "InvalidSteps" then hdX "steps" "position" e else if e.cls = "InvalidMark" then hdX "mark" "value" e else if e.cls = "InvalidLength" then hdX "length" "value" e else if e.cls = "InvalidRange" then hdX "range" "value" e
  else if e.cls = "TooMany" then (match e.fs.lookup ("what" : Str) with
    | some (.str a) => hdX a "limit" e
    | _ => none) else none
def okOb (d : D) : Bool := match d with
  | .obj c _ => decide (c = "Stair")
  | d => okOd d
def lenD : D → Bool
  | .int l => decide (1 ≤ l)
  | _ => false
def stepD (d : D) : Option Bool := match d with
  | .tup [a, b, c] => if okOd a = true ∧ okOd b = true ∧ okOd c = true then some (isIntD a && (isIntD b && isIntD c) && lenD c) else none
  | .tup _ => some false
  | d => if okOd d = true then some false else none
def triD (d : D) : Option (Int × Int × Int) := match d with
  | .tup [.int a, .int b, .int c] => some (a, b, c)
  | _ => none
def xnP (d : D) : Xn := ⟨"InvalidSteps", [("position", d)]⟩
def riseB (a b : Int × Int × Int) : Bool := decide (a.1 + a.2.2 ≤ b.1) && decide (a.2.1 + a.2.2 ≤ b.2.1)
def x_step (xs : List Pd) (p : Int × Pd) : Option (Option Xn) :=
  Option.bind (stepD p.2.v) fun ok => if ok = true then (if 0 < p.1 then Option.bind (L2.atI xs (p.1 - 1)) fun y => Option.bind (triD y.v) fun a => Option.bind (triD p.2.v) fun b => some (if riseB a b = true then none else some (xnP (.int p.1))) else some none) else some (some (xnP (.int p.1)))
def xnM : Xn := ⟨"TooMany", [("limit", .int 60), ("what", .str "steps")]⟩
def x_mk (xs : List Pd) : Option Xn := match foldY (x_step xs) (enumT 0 xs) with
  | some (some e) => some e
  | some none => if 60 < (xs.length : Int) then some xnM else none
  | none => none
def x_mkO (d : Pd) : Option Xn := if okOb d.v = true ∧ isLD d.v = false then some (xnP .non) else none
def x_call (d : Pd) : Option Xn := if okOd d.v = true ∧ isIntD d.v = false then some (xnV "InvalidMark" d.v) else none
def x_stay (a b : Pd) : Option Xn := if okOd a.v = true ∧ okOd b.v = true then (if isIntD a.v = true then (match b.v with
  | .int l => if l < 1 then some (xnV "InvalidLength" b.v) else none
  | _ => some (xnV "InvalidLength" b.v)) else some (xnV "InvalidMark" a.v)) else none
def x_range (a b : Pd) : Option Xn := if okOd a.v = true ∧ okOd b.v = true then (match a.v, b.v with
  | .int i, .int j => if j ≤ i then some (xnV "InvalidRange" (.tup [a.v, b.v])) else none
  | _, _ => some (xnV "InvalidRange" (.tup [a.v, b.v]))) else none
def p_two {α : Type} (f : Int → Int → Option α) (em : α → D) (a b : Pd) : Option D := match a.v, b.v with
  | .int i, .int j => Option.map em (f i j)
  | _, _ => none
def p_limited (s : List (Int × Int × Int)) (a b : Pd) : Option D := p_two (t_Stair_limited s) e_Stair a b
def p_ranges (s : List (Int × Int × Int)) (a b : Pd) : Option D := p_two (t_Stair_ranges s) (eL prD) a b
def p_cut_in (s : List (Int × Int × Int)) (a b : Pd) : Option D := p_two (t_Stair_cut_in s) (eL prD) a b
def t_law_due (v_word : Str) (v_thing : Pd) : Option Pd :=
  Option.bind (reprX (ePl v_thing)) fun x1 => some (⟨(eL ePl ([(⟨(.str v_word), rfl⟩ : Pd), (⟨(.str x1), rfl⟩ : Pd), (⟨(.bl true), rfl⟩ : Pd)])), (pu_L pu_Pl) ([(⟨(.str v_word), rfl⟩ : Pd), (⟨(.str x1), rfl⟩ : Pd), (⟨(.bl true), rfl⟩ : Pd)])⟩ : Pd)
def t_law_wrong (v_rows : List (Int × Int × Int)) (q0 : Pot) : Option (((List Pd) × Int) × Pot) :=
  b2 (t_law_draw ((v_rows.length : Int) + 1) q0) fun x1 q2 => Option.bind (L2.atI v_rows 0) fun x4 => Option.bind (L2.atI v_rows 0) fun x6 => Option.bind (Option.bind (some (decide (0 < x1))) fun c8 => ifO c8 (Option.bind (L2.atI v_rows (x1 - 1)) fun x10 => Option.bind (L2.atI v_rows (x1 - 1)) fun x12 => Option.bind (some (x10.1 + x12.2.2)) fun x14 => Option.bind (L2.atI v_rows (x1 - 1)) fun x16 => Option.bind (L2.atI v_rows (x1 - 1)) fun x18 => Option.bind (some (x16.2.1 + x18.2.2)) fun x20 => some (x14, x20)) (some (x4.1, x6.2.1))) fun j22 => Option.bind (some ([(⟨.non, rfl⟩ : Pd), (⟨(.int 5), rfl⟩ : Pd), (⟨(.str ("abc" : Str)), rfl⟩ : Pd), (⟨(eL ePl ([])), (pu_L pu_Pl) ([])⟩ : Pd), (⟨(.tup []), rfl⟩ : Pd), (plT [(⟨(.int ((j22.1, j22.2).1)), rfl⟩ : Pd), (⟨(.int ((j22.1, j22.2).2)), rfl⟩ : Pd)]), (⟨(eL ePl ([(⟨(.int j22.1), rfl⟩ : Pd), (⟨(.int j22.2), rfl⟩ : Pd), (⟨(.int 1), rfl⟩ : Pd)])), (pu_L pu_Pl) ([(⟨(.int j22.1), rfl⟩ : Pd), (⟨(.int j22.2), rfl⟩ : Pd), (⟨(.int 1), rfl⟩ : Pd)])⟩ : Pd), (plT [(⟨(.int ((j22.1, j22.2, 0).1)), rfl⟩ : Pd), (⟨(.int ((j22.1, j22.2, 0).2.1)), rfl⟩ : Pd), (⟨(.int ((j22.1, j22.2, 0).2.2)), rfl⟩ : Pd)]), (plT [(⟨(.int ((j22.1, j22.2, (-1)).1)), rfl⟩ : Pd), (⟨(.int ((j22.1, j22.2, (-1)).2.1)), rfl⟩ : Pd), (⟨(.int ((j22.1, j22.2, (-1)).2.2)), rfl⟩ : Pd)])])) fun x24 => Option.bind (catT x24 ([(plT [(⟨(.int ((j22.1, j22.2, true).1)), rfl⟩ : Pd), (⟨(.int ((j22.1, j22.2, true).2.1)), rfl⟩ : Pd), (⟨(.bl ((j22.1, j22.2, true).2.2)), rfl⟩ : Pd)]), (plT [(⟨(.bl ((true, 1, 1).1)), rfl⟩ : Pd), (⟨(.int ((true, 1, 1).2.1)), rfl⟩ : Pd), (⟨(.int ((true, 1, 1).2.2)), rfl⟩ : Pd)]), (plT [(⟨(.int ((j22.1, (), 1).1)), rfl⟩ : Pd), (⟨.non, rfl⟩ : Pd), (⟨(.int ((j22.1, (), 1).2.2)), rfl⟩ : Pd)]), (plT [(⟨(.int ((j22.1, ("1" : Str), 1).1)), rfl⟩ : Pd), (⟨(.str ((j22.1, ("1" : Str), 1).2.1)), rfl⟩ : Pd), (⟨(.int ((j22.1, ("1" : Str), 1).2.2)), rfl⟩ : Pd)]), (plT [(⟨(.int ((j22.1, j22.2, 1, 1).1)), rfl⟩ : Pd), (⟨(.int ((j22.1, j22.2, 1, 1).2.1)), rfl⟩ : Pd), (⟨(.int ((j22.1, j22.2, 1, 1).2.2.1)), rfl⟩ : Pd), (⟨(.int ((j22.1, j22.2, 1, 1).2.2.2)), rfl⟩ : Pd)])])) fun x26 => Option.bind (catT x26 ([(plT [(⟨(.int ((j22.1, true, 1).1)), rfl⟩ : Pd), (⟨(.bl ((j22.1, true, 1).2.1)), rfl⟩ : Pd), (⟨(.int ((j22.1, true, 1).2.2)), rfl⟩ : Pd)]), (plT [(⟨(.bl ((true, true, 1).1)), rfl⟩ : Pd), (⟨(.bl ((true, true, 1).2.1)), rfl⟩ : Pd), (⟨(.int ((true, true, 1).2.2)), rfl⟩ : Pd)])])) fun x28 => Option.bind (Option.bind (some (decide (0 < x1))) fun c30 => ifO c30 (Option.bind (L2.atI v_rows (x1 - 1)) fun x32 => Option.bind (repLT ([(plT [(⟨(.int (((j22.1 - 1), j22.2, 1).1)), rfl⟩ : Pd), (⟨(.int (((j22.1 - 1), j22.2, 1).2.1)), rfl⟩ : Pd), (⟨(.int (((j22.1 - 1), j22.2, 1).2.2)), rfl⟩ : Pd)]), (plT [(⟨(.int ((j22.1, (j22.2 - 1), 1).1)), rfl⟩ : Pd), (⟨(.int ((j22.1, (j22.2 - 1), 1).2.1)), rfl⟩ : Pd), (⟨(.int ((j22.1, (j22.2 - 1), 1).2.2)), rfl⟩ : Pd)]), (plT [(⟨(.int ((x32.1, (j22.2 + 5), 9).1)), rfl⟩ : Pd), (⟨(.int ((x32.1, (j22.2 + 5), 9).2.1)), rfl⟩ : Pd), (⟨(.int ((x32.1, (j22.2 + 5), 9).2.2)), rfl⟩ : Pd)])]) 3) fun x34 => Option.bind (catT x28 x34) fun x36 => some x36) (some x28)) fun j38 => b2 (t_law_pick j38 q2) fun x40 q41 => Option.bind (catT (plM pu_st (cutT v_rows none (some x1))) ([x40])) fun x43 => Option.bind (catT x43 (plM pu_st (cutT v_rows (some x1) none))) fun x45 => some ((x45, x1), q41)
def t_law_steps_right (q0 : Pot) : Option (Bool × Pot) :=
  b2 (t_law_steps 5 q0) fun x1 q2 => b2 (t_law_draw 3 q2) fun x4 q5 => Option.bind (catT x1 ([(90, 80, (1 + x4))])) fun x7 => b2 (t_law_wrong x7 q5) fun x9 q10 => b2 (t_law_pick ([(⟨.non, rfl⟩ : Pd), (⟨(.tup []), rfl⟩ : Pd), (plT [(⟨(.int ((0, 0, 0).1)), rfl⟩ : Pd), (⟨(.int ((0, 0, 0).2.1)), rfl⟩ : Pd), (⟨(.int ((0, 0, 0).2.2)), rfl⟩ : Pd)]), (⟨(.str ("x" : Str)), rfl⟩ : Pd)]) q10) fun x12 q13 => Option.bind (catT x9.1 ([x12])) fun x15 => Option.bind (t_StairD_initD_l x7) fun x17 => Option.bind (t_StairD_initD_l ([] : List (Int × Int × Int))) fun x19 => b2 (t_law_pick ([(⟨.non, rfl⟩ : Pd), (⟨(.int 0), rfl⟩ : Pd), (⟨(.int 7), rfl⟩ : Pd), (⟨(.bl true), rfl⟩ : Pd), (⟨(.str ("" : Str)), rfl⟩ : Pd), (⟨(.str ("abc" : Str)), rfl⟩ : Pd), (⟨(.dct []), rfl⟩ : Pd), (⟨.dcT [([.inl 0, .inl 0, .inl 1], .int 1)], rfl⟩ : Pd), (⟨(e_Stair x17), pu_Stair x17⟩ : Pd), (⟨(e_Stair x19), pu_Stair x19⟩ : Pd)]) q13) fun x21 q22 => Option.bind (hearG (fun z => tv_law_told ((fun z : D => z) z)) tx_law_told (x_mk x9.1) none) fun x24 => Option.bind (hearG (fun z => tv_law_told ((fun z : D => z) z)) tx_law_told (x_mk x15) none) fun x26 => Option.bind (appT ([x24] : List Pd) x26) fun x28 => Option.bind (hearG (fun z => tv_law_told ((fun z : D => z) z)) tx_law_told (x_mkO x21) none) fun x30 => Option.bind (appT x28 x30) fun x32 => Option.bind (hearG (fun z => tv_law_told (e_Stair z)) tx_law_told none (t_StairD_initD_l x7)) fun x34 => Option.bind (appT x32 x34) fun x36 => Option.bind (t_law_due ("steps" : Str) (⟨(.int x9.2), rfl⟩ : Pd)) fun x38 => Option.bind (repLT ([x38]) 2) fun x40 => Option.bind (t_law_due ("steps" : Str) (⟨.non, rfl⟩ : Pd)) fun x42 => Option.bind (catT x40 ([x42, (⟨(eL ePl ([(⟨(.str ("told" : Str)), rfl⟩ : Pd)])), (pu_L pu_Pl) ([(⟨(.str ("told" : Str)), rfl⟩ : Pd)])⟩ : Pd)])) fun x44 => Option.bind (eqPl (eL ePl x36) (eL ePl x44)) fun x46 => some (x46, q22)
def t_law_many_right (q0 : Pot) : Option (Bool × Pot) :=
  b2 (t_law_draw 2 q0) fun x1 q2 => Option.bind (range1 60) fun x4 => Option.bind (lcO (β := Int × Int × Int) (fun (ev6 : Int) => Option.bind (mulT (1 + x1) ev6) fun x7 => some (some (x7, ev6, 1))) x4) fun x9 => Option.bind (mulT (1 + x1) 60) fun x11 => Option.bind (catT x9 ([(x11, 60, 1)])) fun x13 => Option.bind (hearG (fun z => tv_law_told (e_Stair z)) tx_law_told none (t_StairD_initD_l x9)) fun x15 => Option.bind (hearG (fun z => tv_law_told ((fun z : D => z) z)) tx_law_told (x_mk (plM pu_st x13)) none) fun x17 => Option.bind (appT ([x15] : List Pd) x17) fun x19 => Option.bind (hearG (fun z => tv_law_told ((fun z : D => z) z)) tx_law_told (Option.bind (catT x13 ([(0, 0, 1)])) fun x21 => x_mk (plM pu_st x21)) none) fun x23 => Option.bind (appT x19 x23) fun x25 => Option.bind (eqPl (eL ePl x25) (eL ePl ([(⟨(eL ePl ([(⟨(.str ("told" : Str)), rfl⟩ : Pd)])), (pu_L pu_Pl) ([(⟨(.str ("told" : Str)), rfl⟩ : Pd)])⟩ : Pd), (⟨(eL ePl ([(⟨(.str ("steps" : Str)), rfl⟩ : Pd), (⟨(.str ("60" : Str)), rfl⟩ : Pd), (⟨(.bl true), rfl⟩ : Pd)])), (pu_L pu_Pl) ([(⟨(.str ("steps" : Str)), rfl⟩ : Pd), (⟨(.str ("60" : Str)), rfl⟩ : Pd), (⟨(.bl true), rfl⟩ : Pd)])⟩ : Pd), (⟨(eL ePl ([(⟨(.str ("steps" : Str)), rfl⟩ : Pd), (⟨(.str ("61" : Str)), rfl⟩ : Pd), (⟨(.bl true), rfl⟩ : Pd)])), (pu_L pu_Pl) ([(⟨(.str ("steps" : Str)), rfl⟩ : Pd), (⟨(.str ("61" : Str)), rfl⟩ : Pd), (⟨(.bl true), rfl⟩ : Pd)])⟩ : Pd)]))) fun x27 => some (x27, q2)
def t_law_marks_right (v_made : List (Int × Int × Int)) (q0 : Pot) : Option (Bool × Pot) :=
  b2 (t_law_pick ([(⟨.non, rfl⟩ : Pd), (⟨(.bl true), rfl⟩ : Pd), (⟨(.bl false), rfl⟩ : Pd), (⟨(.str ("1" : Str)), rfl⟩ : Pd), (⟨(.str ("" : Str)), rfl⟩ : Pd), (plT [(⟨(.int (1)), rfl⟩ : Pd)]), (⟨(eL ePl ([(⟨(.int 1), rfl⟩ : Pd)])), (pu_L pu_Pl) ([(⟨(.int 1), rfl⟩ : Pd)])⟩ : Pd), (⟨(.dct []), rfl⟩ : Pd)]) q0) fun x1 q2 => Option.bind (powT 10 20) fun x4 => b2 (t_law_pick ([(⟨(.int 0), rfl⟩ : Pd), (⟨(.int (-1)), rfl⟩ : Pd), (⟨(.bl true), rfl⟩ : Pd), (⟨.non, rfl⟩ : Pd), (⟨(.str ("3" : Str)), rfl⟩ : Pd), (plT [(⟨(.int (2)), rfl⟩ : Pd)]), (⟨(.int (-x4)), rfl⟩ : Pd)]) q2) fun x6 q7 => b2 (t_law_draw 40 q7) fun x9 q10 => b2 (t_law_draw 40 q10) fun x12 q13 => Option.bind (hearG (fun z => tv_law_told ((fun z : D => z) z)) tx_law_told (x_call x1) none) fun x15 => Option.bind (hearG (fun z => tv_law_told ((fun z : D => z) z)) tx_law_told (x_stay x1 x6) none) fun x17 => Option.bind (appT ([x15] : List Pd) x17) fun x19 => Option.bind (hearG (fun z => tv_law_told ((fun z : D => z) z)) tx_law_told (x_stay (⟨(.int 3), rfl⟩ : Pd) x6) none) fun x21 => Option.bind (appT x19 x21) fun x23 => Option.bind (hearG (fun z => tv_law_told (e_Stair z)) tx_law_told none (Option.bind (t_Stair_stay (x9 - 9) 1) fun x25 => some x25)) fun x27 => Option.bind (appT x23 x27) fun x29 => Option.bind (t_law_due ("mark" : Str) x1) fun x31 => Option.bind (repLT ([x31]) 2) fun x33 => Option.bind (t_law_due ("length" : Str) x6) fun x35 => Option.bind (catT x33 ([x35, (⟨(eL ePl ([(⟨(.str ("told" : Str)), rfl⟩ : Pd)])), (pu_L pu_Pl) ([(⟨(.str ("told" : Str)), rfl⟩ : Pd)])⟩ : Pd)])) fun x37 => Option.bind (some ([((⟨(.int (x9 - 9)), rfl⟩ : Pd), x1, 1), (x1, (⟨(.int (x12 - 9)), rfl⟩ : Pd), 1), ((⟨(.int (x9 - 9)), rfl⟩ : Pd), (⟨(.int (x9 - 9)), rfl⟩ : Pd), 1), ((⟨(.int (maxI (x9 - 9) (x12 - 9))), rfl⟩ : Pd), (⟨(.int (minI (x9 - 9) (x12 - 9))), rfl⟩ : Pd), 1), ((⟨(.int (x9 - 9)), rfl⟩ : Pd), (⟨(.bl true), rfl⟩ : Pd), 1)])) fun x39 => Option.bind (catT x39 ([((⟨(.int (x9 - 9)), rfl⟩ : Pd), (⟨(.int ((x9 - 9) + 1)), rfl⟩ : Pd), 0)])) fun x41 => Option.bind (foldN (fun (ev44 : Pd × Pd × Int) (s43 : (List Pd) × (List Pd)) => (Option.bind (hearG (fun z => tv_law_told ((fun z : D => z) z)) tx_law_told (x_range ev44.1 ev44.2.1) (p_limited v_made ev44.1 ev44.2.1)) fun x45 => Option.bind (appT s43.1 x45) fun x47 => Option.bind (hearG (fun z => tv_law_told ((fun z : D => z) z)) tx_law_told (x_range ev44.1 ev44.2.1) (p_ranges v_made ev44.1 ev44.2.1)) fun x49 => Option.bind (appT x47 x49) fun x51 => Option.bind (hearG (fun z => tv_law_told ((fun z : D => z) z)) tx_law_told (x_range ev44.1 ev44.2.1) (p_cut_in v_made ev44.1 ev44.2.1)) fun x53 => Option.bind (appT x51 x53) fun x55 => Option.bind (ifO (decide (0 < ev44.2.2)) (Option.bind (t_law_due ("range" : Str) (plT [(ev44.1, ev44.2.1).1, (ev44.1, ev44.2.1).2])) fun x57 => some x57) (some (⟨(eL ePl ([(⟨(.str ("told" : Str)), rfl⟩ : Pd)])), (pu_L pu_Pl) ([(⟨(.str ("told" : Str)), rfl⟩ : Pd)])⟩ : Pd))) fun x59 => Option.bind (repLT ([x59]) 3) fun x61 => Option.bind (catT s43.2 x61) fun x63 => some (x55, x63) : Option ((List Pd) × (List Pd)))) x41 (x29, x37)) fun r65 => Option.bind (eqPl (eL ePl r65.1) (eL ePl r65.2)) fun x67 => some (x67, q13)
def t_law_right (q0 : Pot) : Option (Bool × Pot) :=
  b2 (t_law_steps 5 q0) fun x1 q2 => Option.bind (t_StairD_initD_l x1) fun x4 => Option.bind (objT "Stair" "own_steps" "Stair(" ")" (e_Stair x4)) fun x6 => Option.bind (range1 6) fun x8 => Option.bind (foldR (fun (ev11 : Int) (s10 : Pot) => (b2 (t_law_steps_right  s10) fun x12 q13 => b2 (orP (!x12) q13 (b2 (t_law_marks_right x4 q13) fun x15 q16 => some ((!x15), q16))) fun x18 q19 => Option.bind (some x18) fun c21 => ifO c21 (some (Sum.inr (false, q19))) (some (Sum.inl q19)) : Option (Pot ⊕ (Bool × Pot)))) x8 q2) fun z25 => match z25 with | .inr v26 => some v26 | .inl r23 => b2 (t_law_many_right  r23) fun x27 q28 => Option.bind (andO x27 (Option.bind (objT "Stair" "own_steps" "Stair(" ")" (e_Stair x4)) fun x30 => some (decide (x30 = x6)))) fun x32 => some (x32, q28)
end K10


set_option Elab.async false
set_option linter.all false
set_option maxRecDepth 100000
set_option maxHeartbeats 4000000
namespace K10
open PySem PySem.Spec PyProof.Rows L2 Dn Tn
/-! ### draws -/
theorem w_law_draw {size : Int} {q q' : Pot} {rr : Int} {n : Nat} (hr : t_law_draw size q = some (rr, q')) : SpP F_law_draw [.ref n, .int size] n q (.int rr) q' := by
  intro Ω hP hg0
  obtain ⟨p, q⟩ := q
  have hg : Ω[n]? = some (.lst [.int p, .int q]) := hg0
  have hn : n < Ω.length := (List.getElem?_eq_some_iff.mp hg).1
  unfold t_law_draw at hr
  obtain ⟨⟨hs, hs2, hq1, hq2⟩, hr⟩ := ite_some' hr
  have hc : cellL Ω n = some [.int p, .int q] := by unfold cellL; rw [hg]
  dsimp only at hr hq1 hq2
  by_cases hp : 0 < p
  · rw [if_pos hp] at hr
    obtain ⟨e1, e2⟩ := Prod.mk.inj (Option.some.inj hr)
    subst e1 e2
    refine clean_val0 ?_ (by simp) (hP.set rfl) rfl
    simp [b_law_draw, fnD, startG, sRet, sIf, sSeq, bS, sSet, eS, sExp, sSkip, sNever, sPar, sAsg, Dn.gT, Dn.gCons, Dn.gNil, Dn.gN, fAndV, fOrV, fNotV, fBl, fAnd, fOr, fNot, fIf, fT, fBin, fUn, bnd, fVar, fC, dIx, dAdd, dSub, dLt, dLe, dGt, dGe, Dn.opI, dNeg, fCons, fNil, fTup, fLst, fLstC, fCB, op1, op2, fIs, isB, isC, isB2, tyD, isT, asL, L2.atI, ixN, fChain, hg, hp, sSetPair, setIx, hc, dDivmod, hs, hs2, potC]
  · rw [if_neg hp] at hr
    obtain ⟨e1, e2⟩ := Prod.mk.inj (Option.some.inj hr)
    subst e1 e2
    have hr1 : 0 ≤ (q * 48271 + 14009) % 2147483587 := Int.emod_nonneg _ (by decide)
    have hr2 : (q * 48271 + 14009) % 2147483587 < 2147483587 := Int.emod_lt_of_pos _ (by decide)
    generalize er : (q * 48271 + 14009) % 2147483587 = r at hr1 hr2
    have hg2 : ∀ c, (Ω.set n c)[n]? = some c := fun c => by rw [List.getElem?_set_self hn]
    have c1 : cMul q 48271 = true := by unfold cMul; rw [decide_eq_true_iff]; right; constructor <;> decide
    have c2 : cMul r r = true := by unfold cMul; rw [decide_eq_true_iff]; left; constructor <;> omega
    refine clean_val0 ?_ (by simp) (hP.set rfl) rfl
    simp [b_law_draw, fnD, startG, sRet, sIf, sSeq, bS, sSet, eS, sExp, sSkip, sNever, sPar, sAsg, Dn.gT, Dn.gCons, Dn.gNil, Dn.gN, fAndV, fOrV, fNotV, fBl, fAnd, fOr, fNot, fIf, fT, fBin, fUn, bnd, fVar, fC, dIx, dAdd, dSub, dLt, dLe, dGt, dGe, Dn.opI, dNeg, fCons, fNil, fTup, fLst, fLstC, fCB, op1, op2, fIs, isB, isC, isB2, tyD, isT, asL, L2.atI, ixN, fChain, hg, hp, sSetIx, setIx, hc, hg2, dMul, opIC, c1, c2, dMod, dFdiv, dInt, er, hs, potC]
theorem w_law_pick {α : Type} {e : α → D} {xs : List α} {q q' : Pot} {rr : α} {n : Nat} (he : Pu e) (hr : t_law_pick xs q = some (rr, q')) : SpP F_law_pick [.ref n, eL e xs] n q (e rr) q' := by
  refine fn_P (he rr) fun A hn => ?_
  unfold t_law_pick at hr
  unfold b_law_pick
  obtain ⟨x, q1, h1, hr⟩ := b2E hr
  obtain ⟨a, h2, hr⟩ := bE hr
  obtain ⟨hs, hq⟩ := Prod.mk.inj (Option.some.inj hr)
  subst hs hq
  exact tr_ret (te_bin (te_var (d := eL e xs)) (te_callP hn (te_cons (te_var (d := D.ref n)) (te_cons (te_cb (z := D.int (xs.length : Int)) (te_cons (te_var (d := eL e xs)) te_nil) (fun Ω => o_lenL (e := e) Ω)) te_nil)) (w_law_draw h1)) (fun Ω => o_ixL (e := e) h2 Ω))
theorem w_is_integer {v_value : Int} {rr : Bool} (hr : t_is_integer v_value = some rr) : Sp0 F_is_integer [(D.int v_value)] (D.bl rr) := by
  refine fn_0 rfl fun A => ?_
  unfold t_is_integer at hr
  unfold b_is_integer
  obtain hs := Option.some.inj hr
  subst hs
  exact tr_ret (te_and (b := true) (b' := (!false)) (te_is (b := true) (te_var (d := (D.int v_value)))) (fun _ => (te_not (te_is (b := false) (te_var (d := (D.int v_value)))))))
theorem w_is_list {v_value : List (Int × Int × Int)} {rr : Bool} (hr : t_is_list v_value = some rr) : Sp0 F_is_list [(eL stD v_value)] (D.bl rr) := by
  refine fn_0 rfl fun A => ?_
  unfold t_is_list at hr
  unfold b_is_list
  obtain hs := Option.some.inj hr
  subst hs
  exact tr_ret (te_is (b := true) (te_var (d := (eL stD v_value))))
theorem w_want_range {v_first : Int} {v_end : Int} {rr : Unit} (hr : t_want_range v_first v_end = some rr) : Sp0 F_want_range [(D.int v_first), (D.int v_end)] D.non := by
  refine fn_0 rfl fun A => ?_
  unfold t_want_range at hr
  unfold b_want_range
  obtain ⟨x1, h2, hr⟩ := bE hr
  obtain ⟨x5, h6, hr⟩ := bE hr
  obtain ⟨c7, h8, hr⟩ := bE hr
  cases c7 with
  | true =>
    rw [ifO_t] at hr
    refine tr_ifT (te_castS h8 (tt_orO (tt_not (b := x1) (tt_val (b := x1) (te_call0 (te_cons (d := (D.int v_first)) (te_var (d := (D.int v_first))) te_nil) (w_is_integer h2)))) h6 (fun _ hh => by obtain ⟨x3, h4, hh⟩ := bE hh; exact te_castS hh (tt_or (b := (!x3)) (b' := (decide (v_end ≤ v_first))) (tt_not (b := x3) (tt_val (b := x3) (te_call0 (te_cons (d := (D.int v_end)) (te_var (d := (D.int v_end))) te_nil) (w_is_integer h4)))) (fun _ => (tt_val (b := decide (v_end ≤ v_first)) (te_bin (z := D.bl (decide (v_end ≤ v_first))) (te_var (d := (D.int v_first))) (te_var (d := (D.int v_end)))))))))) ?_
    cases hr
  | false =>
    rw [ifO_f] at hr
    refine tr_ifF (te_castS h8 (tt_orO (tt_not (b := x1) (tt_val (b := x1) (te_call0 (te_cons (d := (D.int v_first)) (te_var (d := (D.int v_first))) te_nil) (w_is_integer h2)))) h6 (fun _ hh => by obtain ⟨x3, h4, hh⟩ := bE hh; exact te_castS hh (tt_or (b := (!x3)) (b' := (decide (v_end ≤ v_first))) (tt_not (b := x3) (tt_val (b := x3) (te_call0 (te_cons (d := (D.int v_end)) (te_var (d := (D.int v_end))) te_nil) (w_is_integer h4)))) (fun _ => (tt_val (b := decide (v_end ≤ v_first)) (te_bin (z := D.bl (decide (v_end ≤ v_first))) (te_var (d := (D.int v_first))) (te_var (d := (D.int v_end)))))))))) ?_
    obtain hs := Option.some.inj hr
    subst hs
    exact tr_nx tb_skip
theorem w_is_step {v_value : Int × Int × Int} {rr : Bool} (hr : t_is_step v_value = some rr) : Sp0 F_is_step [(stD v_value)] (D.bl rr) := by
  refine fn_0 rfl fun A => ?_
  unfold t_is_step at hr
  unfold b_is_step
  obtain ⟨x8, h9, hr⟩ := bE hr
  obtain ⟨c10, h11, hr⟩ := bE hr
  cases c10 with
  | true =>
    rw [ifO_t] at hr
    refine tr_seqR (tr_ifT (te_castS h11 (tt_orO (tt_not (b := true) (tt_val (b := true) (te_is (b := true) (te_var (d := (stD v_value)))))) h9 (fun _ hh => by obtain ⟨x6, h7, hh⟩ := bE hh; exact te_castS hh (tt_orO (tt_val (b := (!decide (3 = 3))) (te_bin (z := D.bl (!decide (3 = 3))) (te_cb (z := (D.int 3)) (te_cons (d := (stD v_value)) (te_var (d := (stD v_value))) te_nil)) te_c)) h7 (fun _ hh => by obtain ⟨x4, h5, hh⟩ := bE hh; exact te_castS hh (tt_not (b := (x4.all id)) (tt_val (b := (x4.all id)) (te_cb (z := (D.bl (x4.all id))) (te_cons (d := (eL D.bl x4)) (te_lcO (e := D.int) (ey := D.bl) (vs := [1]) h5 (ti_tup (te_var (d := (stD v_value)))) (by intro ev1 yy hh; exact ⟨_, tgt_nm, (by obtain ⟨x2, h3, hh⟩ := bE hh; obtain hs := Option.some.inj hh; subst hs; exact .inr ⟨_, rfl, te_c, (te_call0 (te_cons (d := (D.int ev1)) (te_var (d := (D.int ev1))) te_nil) (w_is_integer h3))⟩)⟩)) te_nil) (fun Ω => o_all Ω))))))))) ?_)
    obtain hs := Option.some.inj hr
    subst hs
    exact tr_ret te_c
  | false =>
    rw [ifO_f] at hr
    refine tr_seq (tb_ifF (te_castS h11 (tt_orO (tt_not (b := true) (tt_val (b := true) (te_is (b := true) (te_var (d := (stD v_value)))))) h9 (fun _ hh => by obtain ⟨x6, h7, hh⟩ := bE hh; exact te_castS hh (tt_orO (tt_val (b := (!decide (3 = 3))) (te_bin (z := D.bl (!decide (3 = 3))) (te_cb (z := (D.int 3)) (te_cons (d := (stD v_value)) (te_var (d := (stD v_value))) te_nil)) te_c)) h7 (fun _ hh => by obtain ⟨x4, h5, hh⟩ := bE hh; exact te_castS hh (tt_not (b := (x4.all id)) (tt_val (b := (x4.all id)) (te_cb (z := (D.bl (x4.all id))) (te_cons (d := (eL D.bl x4)) (te_lcO (e := D.int) (ey := D.bl) (vs := [1]) h5 (ti_tup (te_var (d := (stD v_value)))) (by intro ev1 yy hh; exact ⟨_, tgt_nm, (by obtain ⟨x2, h3, hh⟩ := bE hh; obtain hs := Option.some.inj hh; subst hs; exact .inr ⟨_, rfl, te_c, (te_call0 (te_cons (d := (D.int ev1)) (te_var (d := (D.int ev1))) te_nil) (w_is_integer h3))⟩)⟩)) te_nil) (fun Ω => o_all Ω))))))))) tb_skip) ?_
    obtain hs := Option.some.inj hr
    subst hs
    exact tr_ret (te_bin (z := D.bl (decide (1 ≤ v_value.2.2))) (te_bin (x := (stD v_value)) (z := (D.int v_value.2.2)) (te_var (d := (stD v_value))) te_c) te_c)
theorem w_does_rise {v_before : Int × Int × Int} {v_step : Int × Int × Int} {rr : Bool} (hr : t_does_rise v_before v_step = some rr) : Sp0 F_does_rise [(stD v_before), (stD v_step)] (D.bl rr) := by
  refine fn_0 rfl fun A => ?_
  unfold t_does_rise at hr
  unfold b_does_rise
  obtain hs := Option.some.inj hr
  subst hs
  exact tr_ret (te_and (b := (decide ((v_before.1 + v_before.2.2) ≤ v_step.1))) (b' := (decide ((v_before.2.1 + v_before.2.2) ≤ v_step.2.1))) (te_bin (z := D.bl (decide ((v_before.1 + v_before.2.2) ≤ v_step.1))) (te_bin (x := (stD v_step)) (z := (D.int v_step.1)) (te_var (d := (stD v_step))) te_c) (te_bin (z := D.int (v_before.1 + v_before.2.2)) (te_bin (x := (stD v_before)) (z := (D.int v_before.1)) (te_var (d := (stD v_before))) te_c) (te_bin (x := (stD v_before)) (z := (D.int v_before.2.2)) (te_var (d := (stD v_before))) te_c))) (fun _ => (te_bin (z := D.bl (decide ((v_before.2.1 + v_before.2.2) ≤ v_step.2.1))) (te_bin (x := (stD v_step)) (z := (D.int v_step.2.1)) (te_var (d := (stD v_step))) te_c) (te_bin (z := D.int (v_before.2.1 + v_before.2.2)) (te_bin (x := (stD v_before)) (z := (D.int v_before.2.1)) (te_var (d := (stD v_before))) te_c) (te_bin (x := (stD v_before)) (z := (D.int v_before.2.2)) (te_var (d := (stD v_before))) te_c)))))
theorem w_want_steps {v_steps : List (Int × Int × Int)} {rr : Unit} (hr : t_want_steps v_steps = some rr) : Sp0 F_want_steps [(eL stD v_steps)] D.non := by
  refine fn_0 rfl fun A => ?_
  unfold t_want_steps at hr
  unfold b_want_steps
  obtain ⟨x1, h2, hr⟩ := bE hr
  obtain ⟨c3, h4, hr⟩ := bE hr
  cases c3 with
  | true =>
    rw [ifO_t] at hr
    cases hr
  | false =>
    rw [ifO_f] at hr
    refine tr_seq (tb_ifF (te_castS h4 (tt_not (b := x1) (tt_val (b := x1) (te_call0 (te_cons (d := (eL stD v_steps)) (te_var (d := (eL stD v_steps))) te_nil) (w_is_list h2))))) tb_skip) ?_
    obtain ⟨r19, h20, hr⟩ := bE hr
    refine tr_last ?_
    refine tr_seq (tb_forM (e := (e2 D.int stD)) (fun (s5 : Unit) => [.pl (eL stD v_steps), .un, .un]) (fun (_ : Unit) => A) h20 (ti_en (e := stD) (te_cons (d := (eL stD v_steps)) (te_var (d := (eL stD v_steps))) te_nil)) (by repeat (first | exact Pw.nil | apply Pw.same | apply Pw.un)) ?_) ?_
    · intro ev6 s5 s' hr
      try dsimp only at hr
      refine ⟨_, (tg_t (tgs_cons tg_n (tgs_cons tg_n tgs_nil))), ?_⟩
      unfold b_want_steps_for
      obtain ⟨x7, h8, hr⟩ := bE hr
      obtain ⟨x15, h16, hr⟩ := bE hr
      obtain ⟨c17, h18, hr⟩ := bE hr
      cases c17 with
      | true =>
        rw [ifO_t] at hr
        refine tb_ifT (te_castS h18 (tt_orO (tt_not (b := x7) (tt_val (b := x7) (te_call0 (te_cons (d := (stD ev6.2)) (te_var (d := (stD ev6.2))) te_nil) (w_is_step h8)))) h16 (fun _ hh => by obtain ⟨x13, h14, hh⟩ := bE hh; exact te_castS hh (tt_andO (tt_val (b := decide (0 < ev6.1)) (te_bin (z := D.bl (decide (0 < ev6.1))) (te_var (d := (D.int ev6.1))) te_c)) h14 (fun _ hh => by obtain ⟨x9, h10, hh⟩ := bE hh; obtain ⟨x11, h12, hh⟩ := bE hh; exact te_castS hh (tt_not (b := x11) (tt_val (b := x11) (te_call0 (te_cons (d := (stD x9)) (te_bin (x := (eL stD v_steps)) (z := (stD x9)) (te_var (d := (eL stD v_steps))) (te_bin (z := D.int (ev6.1 - 1)) (te_var (d := (D.int ev6.1))) te_c) (fun Ω => o_ixL (e := stD) h10 Ω)) (te_cons (d := (stD ev6.2)) (te_var (d := (stD ev6.2))) te_nil)) (w_does_rise h12))))))))) ?_
        cases hr
      | false =>
        rw [ifO_f] at hr
        refine tb_ifF (te_castS h18 (tt_orO (tt_not (b := x7) (tt_val (b := x7) (te_call0 (te_cons (d := (stD ev6.2)) (te_var (d := (stD ev6.2))) te_nil) (w_is_step h8)))) h16 (fun _ hh => by obtain ⟨x13, h14, hh⟩ := bE hh; exact te_castS hh (tt_andO (tt_val (b := decide (0 < ev6.1)) (te_bin (z := D.bl (decide (0 < ev6.1))) (te_var (d := (D.int ev6.1))) te_c)) h14 (fun _ hh => by obtain ⟨x9, h10, hh⟩ := bE hh; obtain ⟨x11, h12, hh⟩ := bE hh; exact te_castS hh (tt_not (b := x11) (tt_val (b := x11) (te_call0 (te_cons (d := (stD x9)) (te_bin (x := (eL stD v_steps)) (z := (stD x9)) (te_var (d := (eL stD v_steps))) (te_bin (z := D.int (ev6.1 - 1)) (te_var (d := (D.int ev6.1))) te_c) (fun Ω => o_ixL (e := stD) h10 Ω)) (te_cons (d := (stD ev6.2)) (te_var (d := (stD ev6.2))) te_nil)) (w_does_rise h12))))))))) ?_
        obtain hs := Option.some.inj hr
        subst hs
        exact tb_weak tb_skip (by repeat (first | exact Pw.nil | apply Pw.same | apply Pw.un))
    obtain hs := Option.some.inj hr
    subst hs
    exact tr_nx tb_skip
theorem w_does_go_on {v_step : Int × Int × Int} {v_elder : Int} {v_newer : Int} {rr : Bool} (hr : t_does_go_on v_step v_elder v_newer = some rr) : Sp0 F_does_go_on [(stD v_step), (D.int v_elder), (D.int v_newer)] (D.bl rr) := by
  refine fn_0 rfl fun A => ?_
  unfold t_does_go_on at hr
  unfold b_does_go_on
  obtain hs := Option.some.inj hr
  subst hs
  exact tr_ret (te_and (b := (decide ((v_step.1 + v_step.2.2) = v_elder))) (b' := (decide ((v_step.2.1 + v_step.2.2) = v_newer))) (te_bin (z := D.bl (decide ((v_step.1 + v_step.2.2) = v_elder))) (te_bin (z := D.int (v_step.1 + v_step.2.2)) (te_bin (x := (stD v_step)) (z := (D.int v_step.1)) (te_var (d := (stD v_step))) te_c) (te_bin (x := (stD v_step)) (z := (D.int v_step.2.2)) (te_var (d := (stD v_step))) te_c)) (te_var (d := (D.int v_elder)))) (fun _ => (te_bin (z := D.bl (decide ((v_step.2.1 + v_step.2.2) = v_newer))) (te_bin (z := D.int (v_step.2.1 + v_step.2.2)) (te_bin (x := (stD v_step)) (z := (D.int v_step.2.1)) (te_var (d := (stD v_step))) te_c) (te_bin (x := (stD v_step)) (z := (D.int v_step.2.2)) (te_var (d := (stD v_step))) te_c)) (te_var (d := (D.int v_newer))))))
theorem w_one_form {v_steps : List (Int × Int × Int)} {rr : List (Int × Int × Int)} (hr : t_one_form v_steps = some rr) : Sp0 F_one_form [(eL stD v_steps)] (eT stD rr) := by
  refine fn_0 ((pu_T pu_st) rr) fun A => ?_
  unfold t_one_form at hr
  unfold b_one_form
  refine tr_seq (tb_newL te_nil ((pu_L pu_st) ([] : List (Int × Int × Int)))) ?_
  obtain ⟨r21, h22, hr⟩ := bE hr
  refine tr_seq (tb_forM (e := stD) (fun (s1 : (List (Int × Int × Int))) => [.pl (eL stD v_steps), .ow (.lst (s1.map stD)), .un, .un, .un]) (fun (_ : (List (Int × Int × Int))) => A) h22 (ti_lst (te_var (d := (eL stD v_steps)))) (by repeat (first | exact Pw.nil | apply Pw.same | apply Pw.un)) ?_) ?_
  · intro ev2 s1 s' hr
    try dsimp only at hr
    refine ⟨_, (tg_t (tgs_cons tg_n (tgs_cons tg_n (tgs_cons tg_n tgs_nil)))), ?_⟩
    unfold b_one_form_for
    obtain ⟨x7, h8, hr⟩ := bE hr
    obtain ⟨c9, h10, hr⟩ := bE hr
    cases c9 with
    | true =>
      rw [ifO_t] at hr
      refine tb_ifT (te_castS h10 (tt_andO (tt_val (b := (!decide (s1 = ([] : List (Int × Int × Int))))) (te_owL (i := 1) (z := D.bl (!decide (s1 = ([] : List (Int × Int × Int))))) rfl (te_lst te_nil) (fun Ω n hn => w_ne ex_st s1 ([] : List (Int × Int × Int)) (by decide) Ω n hn))) h8 (fun _ hh => by obtain ⟨x3, h4, hh⟩ := bE hh; obtain ⟨x5, h6, hh⟩ := bE hh; exact te_castS hh (tt_val (b := x5) (te_call0 (te_cons (d := (stD x3)) (te_owL (i := 1) (z := (stD x3)) rfl (te_un (z := D.int (-1)) te_c) (fun Ω n hn => w_ix (e := stD) h4 Ω n hn)) (te_cons (d := (D.int ev2.1)) (te_var (d := (D.int ev2.1))) (te_cons (d := (D.int ev2.2.1)) (te_var (d := (D.int ev2.2.1))) te_nil))) (w_does_go_on h6)))))) ?_
      obtain ⟨x11, h12, hr⟩ := bE hr
      obtain ⟨x13, h14, hr⟩ := bE hr
      obtain ⟨x15, h16, hr⟩ := bE hr
      obtain ⟨x17, h18, hr⟩ := bE hr
      obtain hs := Option.some.inj hr
      subst hs
      exact tb_weak (tb_setix (e := stD) (xs := s1) (a := (x11.1, x13.2.1, (x15.2.2 + ev2.2.2))) (kk := (-1)) pu_st rfl (te_tup (te_cons (d := (D.int x11.1)) (te_bin (x := (stD x11)) (z := (D.int x11.1)) (te_owL (i := 1) (z := (stD x11)) rfl (te_un (z := D.int (-1)) te_c) (fun Ω n hn => w_ix (e := stD) h12 Ω n hn)) te_c) (te_cons (d := (D.int x13.2.1)) (te_bin (x := (stD x13)) (z := (D.int x13.2.1)) (te_owL (i := 1) (z := (stD x13)) rfl (te_un (z := D.int (-1)) te_c) (fun Ω n hn => w_ix (e := stD) h14 Ω n hn)) te_c) (te_cons (d := (D.int (x15.2.2 + ev2.2.2))) (te_bin (z := D.int (x15.2.2 + ev2.2.2)) (te_bin (x := (stD x15)) (z := (D.int x15.2.2)) (te_owL (i := 1) (z := (stD x15)) rfl (te_un (z := D.int (-1)) te_c) (fun Ω n hn => w_ix (e := stD) h16 Ω n hn)) te_c) (te_var (d := (D.int ev2.2.2)))) te_nil)))) (te_un (z := D.int (-1)) te_c) h18) (by repeat (first | exact Pw.nil | apply Pw.same | apply Pw.un))
    | false =>
      rw [ifO_f] at hr
      refine tb_ifF (te_castS h10 (tt_andO (tt_val (b := (!decide (s1 = ([] : List (Int × Int × Int))))) (te_owL (i := 1) (z := D.bl (!decide (s1 = ([] : List (Int × Int × Int))))) rfl (te_lst te_nil) (fun Ω n hn => w_ne ex_st s1 ([] : List (Int × Int × Int)) (by decide) Ω n hn))) h8 (fun _ hh => by obtain ⟨x3, h4, hh⟩ := bE hh; obtain ⟨x5, h6, hh⟩ := bE hh; exact te_castS hh (tt_val (b := x5) (te_call0 (te_cons (d := (stD x3)) (te_owL (i := 1) (z := (stD x3)) rfl (te_un (z := D.int (-1)) te_c) (fun Ω n hn => w_ix (e := stD) h4 Ω n hn)) (te_cons (d := (D.int ev2.1)) (te_var (d := (D.int ev2.1))) (te_cons (d := (D.int ev2.2.1)) (te_var (d := (D.int ev2.2.1))) te_nil))) (w_does_go_on h6)))))) ?_
      obtain ⟨x19, h20, hr⟩ := bE hr
      obtain hs := Option.some.inj hr
      subst hs
      exact tb_weak (tb_appT (e := stD) h20 pu_st rfl (te_tup (te_cons (d := (D.int ev2.1)) (te_var (d := (D.int ev2.1))) (te_cons (d := (D.int ev2.2.1)) (te_var (d := (D.int ev2.2.1))) (te_cons (d := (D.int ev2.2.2)) (te_var (d := (D.int ev2.2.2))) te_nil))))) (by repeat (first | exact Pw.nil | apply Pw.same | apply Pw.un))
  obtain hs := Option.some.inj hr
  subst hs
  exact tr_ret (te_owB (i := 1) (z := (eT stD r21)) rfl (fun Ω n hn => w_tup (e := stD) Ω n hn))
theorem w_clipped {v_step : Int × Int × Int} {v_first : Int} {v_end : Int} {rr : List (Int × Int × Int)} (hr : t_clipped v_step v_first v_end = some rr) : Sp0 F_clipped [(stD v_step), (D.int v_first), (D.int v_end)] (eL stD rr) := by
  refine fn_0 ((pu_L pu_st) rr) fun A => ?_
  unfold t_clipped at hr
  unfold b_clipped
  refine tr_seq (tb_asg (d := (stD v_step)) (te_var (d := (stD v_step))) (tg_t (tgs_cons tg_n (tgs_cons tg_n (tgs_cons tg_n tgs_nil))))) ?_
  refine tr_seq (tb_par2 (te_cons (d := (D.int (maxI v_step.1 v_first))) (te_cb (z := (D.int (maxI v_step.1 v_first))) (te_cons (d := (D.int v_step.1)) (te_var (d := (D.int v_step.1))) (te_cons (d := (D.int v_first)) (te_var (d := (D.int v_first))) te_nil))) (te_cons (d := (D.int (minI (v_step.1 + v_step.2.2) v_end))) (te_cb (z := (D.int (minI (v_step.1 + v_step.2.2) v_end))) (te_cons (d := (D.int (v_step.1 + v_step.2.2))) (te_bin (z := D.int (v_step.1 + v_step.2.2)) (te_var (d := (D.int v_step.1))) (te_var (d := (D.int v_step.2.2)))) (te_cons (d := (D.int v_end)) (te_var (d := (D.int v_end))) te_nil))) te_nil))) ?_
  obtain ⟨x1, h2, hr⟩ := bE hr
  obtain hs := Option.some.inj hr
  subst hs
  exact tr_ret (te_ifO (e := (eL stD)) (tt_val (b := decide ((maxI v_step.1 v_first) < (minI (v_step.1 + v_step.2.2) v_end))) (te_bin (z := D.bl (decide ((maxI v_step.1 v_first) < (minI (v_step.1 + v_step.2.2) v_end)))) (te_var (d := (D.int (maxI v_step.1 v_first)))) (te_var (d := (D.int (minI (v_step.1 + v_step.2.2) v_end)))))) h2 (fun _ hh => by exact te_castE (e := (eL stD)) hh (te_lst (te_cons (d := (stD ((maxI v_step.1 v_first), ((v_step.2.1 + (maxI v_step.1 v_first)) - v_step.1), ((minI (v_step.1 + v_step.2.2) v_end) - (maxI v_step.1 v_first))))) (te_tup (te_cons (d := (D.int (maxI v_step.1 v_first))) (te_var (d := (D.int (maxI v_step.1 v_first)))) (te_cons (d := (D.int ((v_step.2.1 + (maxI v_step.1 v_first)) - v_step.1))) (te_bin (z := D.int ((v_step.2.1 + (maxI v_step.1 v_first)) - v_step.1)) (te_bin (z := D.int (v_step.2.1 + (maxI v_step.1 v_first))) (te_var (d := (D.int v_step.2.1))) (te_var (d := (D.int (maxI v_step.1 v_first))))) (te_var (d := (D.int v_step.1)))) (te_cons (d := (D.int ((minI (v_step.1 + v_step.2.2) v_end) - (maxI v_step.1 v_first)))) (te_bin (z := D.int ((minI (v_step.1 + v_step.2.2) v_end) - (maxI v_step.1 v_first))) (te_var (d := (D.int (minI (v_step.1 + v_step.2.2) v_end)))) (te_var (d := (D.int (maxI v_step.1 v_first))))) te_nil)))) te_nil))) (fun _ hh => by exact te_castE (e := (eL stD)) hh (te_lst te_nil)))
theorem w_joined_ranges {v_ranges : List (Int × Int)} {rr : List (Int × Int)} (hr : t_joined_ranges v_ranges = some rr) : Sp0 F_joined_ranges [(eL prD v_ranges)] (eL prD rr) := by
  refine fn_0 ((pu_L pu_pr) rr) fun A => ?_
  unfold t_joined_ranges at hr
  unfold b_joined_ranges
  refine tr_seq (tb_newL te_nil ((pu_L pu_pr) ([] : List (Int × Int)))) ?_
  obtain ⟨r17, h18, hr⟩ := bE hr
  refine tr_seq (tb_forM (e := prD) (fun (s1 : (List (Int × Int))) => [.pl (eL prD v_ranges), .ow (.lst (s1.map prD)), .un, .un]) (fun (_ : (List (Int × Int))) => A) h18 (ti_lst (te_cb (z := (eL prD (sortP v_ranges))) (te_cons (d := (eL prD v_ranges)) (te_var (d := (eL prD v_ranges))) te_nil) (fun Ω => o_sortP Ω))) (by repeat (first | exact Pw.nil | apply Pw.same | apply Pw.un)) ?_) ?_
  · intro ev2 s1 s' hr
    try dsimp only at hr
    refine ⟨_, (tg_t (tgs_cons tg_n (tgs_cons tg_n tgs_nil))), ?_⟩
    unfold b_joined_ranges_for
    obtain ⟨x5, h6, hr⟩ := bE hr
    obtain ⟨c7, h8, hr⟩ := bE hr
    cases c7 with
    | true =>
      rw [ifO_t] at hr
      refine tb_ifT (te_castS h8 (tt_andO (tt_val (b := (!decide (s1 = ([] : List (Int × Int))))) (te_owL (i := 1) (z := D.bl (!decide (s1 = ([] : List (Int × Int))))) rfl (te_lst te_nil) (fun Ω n hn => w_ne ex_pr s1 ([] : List (Int × Int)) (by decide) Ω n hn))) h6 (fun _ hh => by obtain ⟨x3, h4, hh⟩ := bE hh; exact te_castS hh (tt_val (b := decide (ev2.1 ≤ x3.2)) (te_bin (z := D.bl (decide (ev2.1 ≤ x3.2))) (te_var (d := (D.int ev2.1))) (te_bin (x := (prD x3)) (z := (D.int x3.2)) (te_owL (i := 1) (z := (prD x3)) rfl (te_un (z := D.int (-1)) te_c) (fun Ω n hn => w_ix (e := prD) h4 Ω n hn)) te_c)))))) ?_
      obtain ⟨x9, h10, hr⟩ := bE hr
      obtain ⟨x11, h12, hr⟩ := bE hr
      obtain ⟨x13, h14, hr⟩ := bE hr
      obtain hs := Option.some.inj hr
      subst hs
      exact tb_weak (tb_setix (e := prD) (xs := s1) (a := (x9.1, (maxI x11.2 ev2.2))) (kk := (-1)) pu_pr rfl (te_tup (te_cons (d := (D.int x9.1)) (te_bin (x := (prD x9)) (z := (D.int x9.1)) (te_owL (i := 1) (z := (prD x9)) rfl (te_un (z := D.int (-1)) te_c) (fun Ω n hn => w_ix (e := prD) h10 Ω n hn)) te_c) (te_cons (d := (D.int (maxI x11.2 ev2.2))) (te_cb (z := (D.int (maxI x11.2 ev2.2))) (te_cons (d := (D.int x11.2)) (te_bin (x := (prD x11)) (z := (D.int x11.2)) (te_owL (i := 1) (z := (prD x11)) rfl (te_un (z := D.int (-1)) te_c) (fun Ω n hn => w_ix (e := prD) h12 Ω n hn)) te_c) (te_cons (d := (D.int ev2.2)) (te_var (d := (D.int ev2.2))) te_nil))) te_nil))) (te_un (z := D.int (-1)) te_c) h14) (by repeat (first | exact Pw.nil | apply Pw.same | apply Pw.un))
    | false =>
      rw [ifO_f] at hr
      refine tb_ifF (te_castS h8 (tt_andO (tt_val (b := (!decide (s1 = ([] : List (Int × Int))))) (te_owL (i := 1) (z := D.bl (!decide (s1 = ([] : List (Int × Int))))) rfl (te_lst te_nil) (fun Ω n hn => w_ne ex_pr s1 ([] : List (Int × Int)) (by decide) Ω n hn))) h6 (fun _ hh => by obtain ⟨x3, h4, hh⟩ := bE hh; exact te_castS hh (tt_val (b := decide (ev2.1 ≤ x3.2)) (te_bin (z := D.bl (decide (ev2.1 ≤ x3.2))) (te_var (d := (D.int ev2.1))) (te_bin (x := (prD x3)) (z := (D.int x3.2)) (te_owL (i := 1) (z := (prD x3)) rfl (te_un (z := D.int (-1)) te_c) (fun Ω n hn => w_ix (e := prD) h4 Ω n hn)) te_c)))))) ?_
      obtain ⟨x15, h16, hr⟩ := bE hr
      obtain hs := Option.some.inj hr
      subst hs
      exact tb_weak (tb_appT (e := prD) h16 pu_pr rfl (te_tup (te_cons (d := (D.int ev2.1)) (te_var (d := (D.int ev2.1))) (te_cons (d := (D.int ev2.2)) (te_var (d := (D.int ev2.2))) te_nil)))) (by repeat (first | exact Pw.nil | apply Pw.same | apply Pw.un))
  obtain hs := Option.some.inj hr
  subst hs
  exact tr_own rfl
theorem w_RightStepsD_initD {v_steps : List (Int × Int × Int)} {rr : List (Int × Int × Int)} (hr : t_RightStepsD_initD v_steps = some rr) : SpM "RightSteps" 2 F_RightStepsD_initD [(eL stD v_steps)] (e_RightSteps rr) := by
  refine fn_M (pu_RightSteps rr) rfl fun A n hn => ?_
  unfold t_RightStepsD_initD at hr
  unfold b_RightStepsD_initD
  obtain ⟨x1, h2, hr⟩ := bE hr
  obtain hs := Option.some.inj hr
  subst hs
  exact tr_nx (tb_fld hn rfl (te_call0 (te_cons (d := (eL stD v_steps)) (te_var (d := (eL stD v_steps))) te_nil) (w_one_form h2)) (belowF_cons (f := "told_steps") ((pu_T pu_st) _) rfl))
theorem w_StairD_initD_r {v_steps : List (Int × Int × Int)} {rr : List (Int × Int × Int)} (hr : t_StairD_initD_r v_steps = some rr) : SpM "Stair" 2 F_StairD_initD [(e_RightSteps v_steps)] (e_Stair rr) := by
  refine fn_M (pu_Stair rr) rfl fun A n hn => ?_
  unfold t_StairD_initD_r at hr
  unfold b_StairD_initD
  refine tr_ifT (tt_val (b := true) (te_is (b := true) (te_var (d := (e_RightSteps v_steps))))) ?_
  obtain hs := Option.some.inj hr
  subst hs
  exact tr_nx (tb_fld hn rfl (te_fld (v := (eT stD v_steps)) (te_var (d := (e_RightSteps v_steps)))) (belowF_cons (f := "own_steps") ((pu_T pu_st) _) rfl))
theorem w_StairD_initD_l {v_steps : List (Int × Int × Int)} {rr : List (Int × Int × Int)} (hr : t_StairD_initD_l v_steps = some rr) : SpM "Stair" 2 F_StairD_initD [(eL stD v_steps)] (e_Stair rr) := by
  refine fn_M (pu_Stair rr) rfl fun A n hn => ?_
  unfold t_StairD_initD_l at hr
  unfold b_StairD_initD
  refine tr_ifF (tt_val (b := false) (te_is (b := false) (te_var (d := (eL stD v_steps))))) ?_
  obtain ⟨x1, h2, hr⟩ := bE hr
  refine tr_seq (tb_exp (te_call0 (te_cons (d := (eL stD v_steps)) (te_var (d := (eL stD v_steps))) te_nil) (w_want_steps h2))) ?_
  obtain ⟨c3, h4, hr⟩ := bE hr
  cases c3 with
  | true =>
    rw [ifO_t] at hr
    cases hr
  | false =>
    rw [ifO_f] at hr
    refine tr_seq (tb_ifF (te_castS h4 (tt_val (b := decide (60 < (v_steps.length : Int))) (te_bin (z := D.bl (decide (60 < (v_steps.length : Int)))) (te_cb (z := (D.int (v_steps.length : Int))) (te_cons (d := (eL stD v_steps)) (te_var (d := (eL stD v_steps))) te_nil) (fun Ω => o_lenL (e := stD) Ω)) te_c))) tb_skip) ?_
    obtain ⟨x5, h6, hr⟩ := bE hr
    obtain hs := Option.some.inj hr
    subst hs
    exact tr_nx (tb_fld hn rfl (te_call0 (te_cons (d := (eL stD v_steps)) (te_var (d := (eL stD v_steps))) te_nil) (w_one_form h6)) (belowF_cons (f := "own_steps") ((pu_T pu_st) _) rfl))
theorem w_stair_of {v_steps : List (Int × Int × Int)} {rr : List (Int × Int × Int)} (hr : t_stair_of v_steps = some rr) : Sp0 F_stair_of [(eL stD v_steps)] (e_Stair rr) := by
  refine fn_0 (pu_Stair rr) fun A => ?_
  unfold t_stair_of at hr
  unfold b_stair_of
  obtain ⟨x1, h2, hr⟩ := bE hr
  obtain ⟨x3, h4, hr⟩ := bE hr
  obtain hs := Option.some.inj hr
  subst hs
  exact tr_ret (te_make (te_cons (d := (e_RightSteps x1)) (te_make (te_cons (d := (eL stD v_steps)) (te_var (d := (eL stD v_steps))) te_nil) (w_RightStepsD_initD h2)) te_nil) (w_StairD_initD_r h4))
theorem w_Stair_stay {v_first : Int} {v_length : Int} {rr : List (Int × Int × Int)} (hr : t_Stair_stay v_first v_length = some rr) : Sp0 F_Stair_stay [(D.cl "Stair"), (D.int v_first), (D.int v_length)] (e_Stair rr) := by
  refine fn_0 (pu_Stair rr) fun A => ?_
  unfold t_Stair_stay at hr
  unfold b_Stair_stay
  obtain ⟨x1, h2, hr⟩ := bE hr
  obtain ⟨c3, h4, hr⟩ := bE hr
  cases c3 with
  | true =>
    rw [ifO_t] at hr
    cases hr
  | false =>
    rw [ifO_f] at hr
    refine tr_seq (tb_ifF (te_castS h4 (tt_not (b := x1) (tt_val (b := x1) (te_call0 (te_cons (d := (D.int v_first)) (te_var (d := (D.int v_first))) te_nil) (w_is_integer h2))))) tb_skip) ?_
    obtain ⟨x5, h6, hr⟩ := bE hr
    obtain ⟨c7, h8, hr⟩ := bE hr
    cases c7 with
    | true =>
      rw [ifO_t] at hr
      cases hr
    | false =>
      rw [ifO_f] at hr
      refine tr_seq (tb_ifF (te_castS h8 (tt_or (b := (!x5)) (b' := (decide (v_length < 1))) (tt_not (b := x5) (tt_val (b := x5) (te_call0 (te_cons (d := (D.int v_length)) (te_var (d := (D.int v_length))) te_nil) (w_is_integer h6)))) (fun _ => (tt_val (b := decide (v_length < 1)) (te_bin (z := D.bl (decide (v_length < 1))) (te_var (d := (D.int v_length))) te_c))))) tb_skip) ?_
      obtain ⟨x9, h10, hr⟩ := bE hr
      obtain hs := Option.some.inj hr
      subst hs
      exact tr_ret (te_makeV (te_cons (d := (eL stD ([(v_first, v_first, v_length)]))) (te_lst (te_cons (d := (stD (v_first, v_first, v_length))) (te_tup (te_cons (d := (D.int v_first)) (te_var (d := (D.int v_first))) (te_cons (d := (D.int v_first)) (te_var (d := (D.int v_first))) (te_cons (d := (D.int v_length)) (te_var (d := (D.int v_length))) te_nil)))) te_nil)) te_nil) (w_StairD_initD_l h10))
theorem w_Stair_limited {v_self : List (Int × Int × Int)} {v_first : Int} {v_end : Int} {rr : List (Int × Int × Int)} (hr : t_Stair_limited v_self v_first v_end = some rr) : Sp0 F_Stair_limited [(e_Stair v_self), (D.int v_first), (D.int v_end)] (e_Stair rr) := by
  refine fn_0 (pu_Stair rr) fun A => ?_
  unfold t_Stair_limited at hr
  unfold b_Stair_limited
  obtain ⟨x1, h2, hr⟩ := bE hr
  refine tr_seq (tb_exp (te_call0 (te_cons (d := (D.int v_first)) (te_var (d := (D.int v_first))) (te_cons (d := (D.int v_end)) (te_var (d := (D.int v_end))) te_nil)) (w_want_range h2))) ?_
  refine tr_seq (tb_newL te_nil ((pu_L pu_st) ([] : List (Int × Int × Int)))) ?_
  obtain ⟨r9, h10, hr⟩ := bE hr
  refine tr_seq (tb_forM (e := stD) (fun (s3 : (List (Int × Int × Int))) => [.pl (e_Stair v_self), .pl (D.int v_first), .pl (D.int v_end), .ow (.lst (s3.map stD)), .un]) (fun (_ : (List (Int × Int × Int))) => A) h10 (ti_tup (te_fld (v := (eT stD v_self)) (te_var (d := (e_Stair v_self))))) (by repeat (first | exact Pw.nil | apply Pw.same | apply Pw.un)) ?_) ?_
  · intro ev4 s3 s' hr
    try dsimp only at hr
    refine ⟨_, tg_n, ?_⟩
    unfold b_Stair_limited_for
    obtain ⟨x5, h6, hr⟩ := bE hr
    obtain ⟨x7, h8, hr⟩ := bE hr
    obtain hs := Option.some.inj hr
    subst hs
    exact tb_weak (tb_extT (e := stD) h8 pu_st rfl (te_call0 (te_cons (d := (stD ev4)) (te_var (d := (stD ev4))) (te_cons (d := (D.int v_first)) (te_var (d := (D.int v_first))) (te_cons (d := (D.int v_end)) (te_var (d := (D.int v_end))) te_nil))) (w_clipped h6))) (by repeat (first | exact Pw.nil | apply Pw.same | apply Pw.un))
  refine tr_seq (tb_thaw rfl) ?_
  obtain ⟨x11, h12, hr⟩ := bE hr
  obtain hs := Option.some.inj hr
  subst hs
  exact tr_ret (te_call0 (te_cons (d := (eL stD r9)) (te_var (d := (eL stD r9))) te_nil) (w_stair_of h12))
theorem w_Stair_ranges {v_self : List (Int × Int × Int)} {v_first : Int} {v_end : Int} {rr : List (Int × Int)} (hr : t_Stair_ranges v_self v_first v_end = some rr) : Sp0 F_Stair_ranges [(e_Stair v_self), (D.int v_first), (D.int v_end)] (eL prD rr) := by
  refine fn_0 ((pu_L pu_pr) rr) fun A => ?_
  unfold t_Stair_ranges at hr
  unfold b_Stair_ranges
  obtain ⟨x1, h2, hr⟩ := bE hr
  refine tr_seq (tb_set (d := (e_Stair x1)) (te_meth (te_var (d := (e_Stair v_self))) (te_cons (d := (D.int v_first)) (te_var (d := (D.int v_first))) (te_cons (d := (D.int v_end)) (te_var (d := (D.int v_end))) te_nil)) (w_Stair_limited h2))) ?_
  obtain ⟨x4, h5, hr⟩ := bE hr
  obtain ⟨x6, h7, hr⟩ := bE hr
  obtain hs := Option.some.inj hr
  subst hs
  exact tr_ret (te_call0 (te_cons (d := (eL prD x4)) (te_lcM (e := stD) (ey := prD) (vs := [4, 5, 6]) h5 (ti_tup (te_fld (v := (eT stD x1)) (te_var (d := (e_Stair x1))))) (fun ev3 => ⟨_, tgt_tp, te_c, (te_tup (te_cons (d := (D.int ev3.2.1)) (te_var (d := (D.int ev3.2.1))) (te_cons (d := (D.int (ev3.2.1 + ev3.2.2))) (te_bin (z := D.int (ev3.2.1 + ev3.2.2)) (te_var (d := (D.int ev3.2.1))) (te_var (d := (D.int ev3.2.2)))) te_nil)))⟩)) te_nil) (w_joined_ranges h7))
theorem w_Stair_cut_in {v_self : List (Int × Int × Int)} {v_first : Int} {v_end : Int} {rr : List (Int × Int)} (hr : t_Stair_cut_in v_self v_first v_end = some rr) : Sp0 F_Stair_cut_in [(e_Stair v_self), (D.int v_first), (D.int v_end)] (eL prD rr) := by
  refine fn_0 ((pu_L pu_pr) rr) fun A => ?_
  unfold t_Stair_cut_in at hr
  unfold b_Stair_cut_in
  refine tr_seq (tb_par2a (te_var (d := (D.int v_first)))) ?_
  obtain ⟨x1, h2, hr⟩ := bE hr
  obtain ⟨r13, h14, hr⟩ := bE hr
  refine tr_seq (tb_forM (e := stD) (fun (s3 : (List (Int × Int)) × Int) => [.pl (e_Stair v_self), .pl (D.int v_first), .pl (D.int v_end), .ow (.lst (s3.1.map prD)), .pl (D.int s3.2), .un, .un, .un]) (fun (_ : (List (Int × Int)) × Int) => A) h14 (ti_tup (te_fld (v := (eT stD x1)) (te_meth (te_var (d := (e_Stair v_self))) (te_cons (d := (D.int v_first)) (te_var (d := (D.int v_first))) (te_cons (d := (D.int v_end)) (te_var (d := (D.int v_end))) te_nil)) (w_Stair_limited h2)))) (by repeat (first | exact Pw.nil | apply Pw.same | apply Pw.un)) ?_) ?_
  · intro ev4 s3 s' hr
    try dsimp only at hr
    refine ⟨_, (tg_t (tgs_cons tg_n (tgs_cons tg_n (tgs_cons tg_n tgs_nil)))), ?_⟩
    unfold b_Stair_cut_in_for
    obtain ⟨j9, h10, hr⟩ := bE hr
    refine tb_seq (P1 := [.pl (e_Stair v_self), .pl (D.int v_first), .pl (D.int v_end), .ow (.lst (j9.map prD)), .pl (D.int s3.2), .pl (D.int ev4.1), .pl (D.int ev4.2.1), .pl (D.int ev4.2.2)]) (A1 := A) ?_ ?_
    · have hr := h10
      obtain ⟨c5, h6, hr⟩ := bE hr
      cases c5 with
      | true =>
        rw [ifO_t] at hr
        refine tb_ifT (te_castS h6 (tt_val (b := decide (s3.2 < ev4.1)) (te_bin (z := D.bl (decide (s3.2 < ev4.1))) (te_var (d := (D.int s3.2))) (te_var (d := (D.int ev4.1)))))) ?_
        obtain ⟨x7, h8, hr⟩ := bE hr
        obtain hs := Option.some.inj hr
        subst hs
        exact tb_weak (tb_appT (e := prD) h8 pu_pr rfl (te_tup (te_cons (d := (D.int s3.2)) (te_var (d := (D.int s3.2))) (te_cons (d := (D.int ev4.1)) (te_var (d := (D.int ev4.1))) te_nil)))) (by repeat (first | exact Pw.nil | apply Pw.same | apply Pw.un))
      | false =>
        rw [ifO_f] at hr
        refine tb_ifF (te_castS h6 (tt_val (b := decide (s3.2 < ev4.1)) (te_bin (z := D.bl (decide (s3.2 < ev4.1))) (te_var (d := (D.int s3.2))) (te_var (d := (D.int ev4.1)))))) ?_
        obtain hs := Option.some.inj hr
        subst hs
        exact tb_weak tb_skip (by repeat (first | exact Pw.nil | apply Pw.same | apply Pw.un))
    obtain ⟨x11, h12, hr⟩ := bE hr
    obtain hs := Option.some.inj hr
    subst hs
    exact tb_weak (tb_setE (e := D.int) h12 (te_bin (z := D.int (ev4.1 + ev4.2.2)) (te_var (d := (D.int ev4.1))) (te_var (d := (D.int ev4.2.2))))) (by repeat (first | exact Pw.nil | apply Pw.same | apply Pw.un))
  obtain ⟨x15, h16, hr⟩ := bE hr
  obtain ⟨x17, h18, hr⟩ := bE hr
  obtain hs := Option.some.inj hr
  subst hs
  exact tr_ret (te_owL (i := 3) (z := (eL prD x17)) rfl (te_ifO (e := (eL prD)) (tt_val (b := decide (r13.2 < v_end)) (te_bin (z := D.bl (decide (r13.2 < v_end))) (te_var (d := (D.int r13.2))) (te_var (d := (D.int v_end))))) h16 (fun _ hh => by exact te_castE (e := (eL prD)) hh (te_lst (te_cons (d := (prD (r13.2, v_end))) (te_tup (te_cons (d := (D.int r13.2)) (te_var (d := (D.int r13.2))) (te_cons (d := (D.int v_end)) (te_var (d := (D.int v_end))) te_nil))) te_nil))) (fun _ hh => by exact te_castE (e := (eL prD)) hh (te_lst te_nil))) (fun Ω n hn => w_catL h18 Ω n hn))
theorem w_law_steps {v_most : Int} {q0 q9 : Pot} {rr : List (Int × Int × Int)} {n : Nat} (hr : t_law_steps v_most q0 = some (rr, q9)) : SpP F_law_steps [.ref n, (D.int v_most)] n q0 (eL stD rr) q9 := by
  refine fn_P ((pu_L pu_st) rr) fun A hn => ?_
  unfold t_law_steps at hr
  unfold b_law_steps
  obtain ⟨x1, q2, h3, hr⟩ := b2E hr
  obtain ⟨x4, q5, h6, hr⟩ := b2E hr
  refine tr_seq (tb_par3c (te_bin (z := D.int (x1 - 4)) (te_callP hn (te_cons (d := (D.ref n)) (te_var (d := D.ref n)) (te_cons (d := (D.int 9)) te_c te_nil)) (w_law_draw h3)) te_c) (te_bin (z := D.int (x4 - 4)) (te_callP hn (te_cons (d := (D.ref n)) (te_var (d := D.ref n)) (te_cons (d := (D.int 9)) te_c te_nil)) (w_law_draw h6)) te_c)) ?_
  obtain ⟨x7, q8, h9, hr⟩ := b2E hr
  obtain ⟨x10, h11, hr⟩ := bE hr
  obtain ⟨r33, h34, hr⟩ := bE hr
  refine tr_seq (tb_forM (e := D.int) (fun (s12 : Int × Int × (List (Int × Int × Int)) × Pot) => [.pl (.ref n), .pl (D.int v_most), .pl (D.int s12.1), .pl (D.int s12.2.1), .ow (.lst (s12.2.2.1.map stD)), .un, .un]) (fun (s12 : Int × Int × (List (Int × Int × Int)) × Pot) => pA A n s12.2.2.2) h34 (ti_r1 h11 (te_cons (d := (D.int x7)) (te_callP hn (te_cons (d := (D.ref n)) (te_var (d := D.ref n)) (te_cons (d := (D.int (v_most + 1))) (te_bin (z := D.int (v_most + 1)) (te_var (d := (D.int v_most))) te_c) te_nil)) (w_law_draw h9)) te_nil)) (by repeat (first | exact Pw.nil | apply Pw.same | apply Pw.un)) ?_) ?_
  · intro ev13 s12 s' hr
    try dsimp only at hr
    refine ⟨_, tg_n, ?_⟩
    unfold b_law_steps_for
    obtain ⟨x14, q15, h16, hr⟩ := b2E hr
    refine tb_seq (tb_set (d := (D.int (1 + x14))) (te_bin (z := D.int (1 + x14)) te_c (te_callP hn (te_cons (d := (D.ref n)) (te_var (d := D.ref n)) (te_cons (d := (D.int 4)) te_c te_nil)) (w_law_draw h16)))) ?_
    obtain ⟨x17, h18, hr⟩ := bE hr
    refine tb_seq (tb_appT (e := stD) h18 pu_st rfl (te_tup (te_cons (d := (D.int s12.1)) (te_var (d := (D.int s12.1))) (te_cons (d := (D.int s12.2.1)) (te_var (d := (D.int s12.2.1))) (te_cons (d := (D.int (1 + x14))) (te_var (d := (D.int (1 + x14)))) te_nil))))) ?_
    obtain ⟨x19, q20, h21, hr⟩ := b2E hr
    obtain ⟨x22, h23, hr⟩ := bE hr
    obtain ⟨x24, h25, hr⟩ := bE hr
    refine tb_seq (tb_setE (e := D.int) h25 (te_bin (z := D.int ((s12.1 + (1 + x14)) + x22)) (te_bin (z := D.int (s12.1 + (1 + x14))) (te_var (d := (D.int s12.1))) (te_var (d := (D.int (1 + x14))))) (te_bin (x := (eL D.int ([0, 0, 1, 3]))) (z := (D.int x22)) (te_lst (te_cons (d := (D.int 0)) te_c (te_cons (d := (D.int 0)) te_c (te_cons (d := (D.int 1)) te_c (te_cons (d := (D.int 3)) te_c te_nil))))) (te_callP hn (te_cons (d := (D.ref n)) (te_var (d := D.ref n)) (te_cons (d := (D.int 4)) te_c te_nil)) (w_law_draw h21)) (fun Ω => o_ixL (e := D.int) h23 Ω)))) ?_
    obtain ⟨x26, q27, h28, hr⟩ := b2E hr
    obtain ⟨x29, h30, hr⟩ := bE hr
    obtain ⟨x31, h32, hr⟩ := bE hr
    obtain hs := Option.some.inj hr
    subst hs
    exact tb_weak (tb_setE (e := D.int) h32 (te_bin (z := D.int ((s12.2.1 + (1 + x14)) + x29)) (te_bin (z := D.int (s12.2.1 + (1 + x14))) (te_var (d := (D.int s12.2.1))) (te_var (d := (D.int (1 + x14))))) (te_bin (x := (eL D.int ([0, 0, 1, 2]))) (z := (D.int x29)) (te_lst (te_cons (d := (D.int 0)) te_c (te_cons (d := (D.int 0)) te_c (te_cons (d := (D.int 1)) te_c (te_cons (d := (D.int 2)) te_c te_nil))))) (te_callP hn (te_cons (d := (D.ref n)) (te_var (d := D.ref n)) (te_cons (d := (D.int 4)) te_c te_nil)) (w_law_draw h28)) (fun Ω => o_ixL (e := D.int) h30 Ω)))) (by repeat (first | exact Pw.nil | apply Pw.same | apply Pw.un))
  obtain ⟨hs, hq⟩ := Prod.mk.inj (Option.some.inj hr)
  subst hs
  subst hq
  exact tr_own rfl
/-! ### what is heard -/
theorem hv_law_told {d : D} {s : Pd} (h : tv_law_told d = some s) : HrV FH_law_told d (ePl s) := by
  cases h
  intro c th Ω W hp ht
  refine clean_val (W := W) (fn_rt (Γ1 := [some c, some (.lst [.str "told"]), none]) ?_) rfl hp rfl
  unfold b_law_told
  refine (seq_nx (Γ1 := [some c, some (.lst [.str "told"]), none]) (Ω1 := Ω) rfl).trans ((seq_nx (Γ1 := [some c, some (.lst [.str "told"]), none]) (Ω1 := Ω ++ W) ?_).trans (ret_ok (var_at rfl)))
  have e2 : fAct 0 c th [some c, some (.lst [.str "told"]), none] Ω = some (.ok d, Ω ++ W) := by
    unfold fAct
    exact (if_pos rfl).trans ht
  unfold sTryM sExp
  rw [e2]
  rfl
theorem hx_law_told {e : Xn} {s : Pd} (h : tx_law_told e = some s) : HrX FH_law_told e (ePl s) := by
  intro c th Ω W hp ht
  unfold tx_law_told at h
  obtain ⟨cl, fs⟩ := e
  have e4 : fAct 0 c th [some c, some (.lst [.str "told"]), none] Ω = some (.ex ⟨cl, fs⟩, Ω ++ W) := by
    unfold fAct
    exact (if_pos rfl).trans ht
  have e3 : (sExp (fAct 0 c th)) [some c, some (.lst [.str "told"]), none] Ω = some (.ex ⟨cl, fs⟩, [some c, some (.lst [.str "told"]), none], Ω ++ W) := by
    unfold sExp
    rw [e4]
    rfl
  refine clean_val (W := W) (fn_rt (Γ1 := [some c, some (ePl s), none]) ?_) rfl hp s.h
  unfold b_law_told
  refine (seq_nx (Γ1 := [some c, some (.lst [.str "told"]), none]) (Ω1 := Ω) rfl).trans ((seq_nx (Γ1 := [some c, some (ePl s), none]) (Ω1 := Ω ++ W) ?_).trans (ret_ok (var_at rfl)))
  unfold sTryM
  rw [e3]
  dsimp only
  have hl : 2 < ([some c, some (.lst [.str "told"]), none] : Gm).length := Nat.lt_succ_self 2
  by_cases hc0 : cl = "InvalidSteps"
  · subst hc0
    rw [if_pos rfl] at h
    obtain ⟨x, e1, h⟩ := bE h
    obtain ⟨t, e2, h⟩ := bE h
    cases h
    rw [pick_yes rfl hl]
    dsimp only
    rw [show ([some c, some (D.lst [D.str (Str.ofString "told")]), none] : Gm).set 2 none = [some c, some (D.lst [D.str (Str.ofString "told")]), none] from rfl, set_ok (d := ePl (hdL "steps" t)) (Ω1 := Ω ++ W) (lst3_ok (a := .str "steps") (b := .str t) (c := .bl true) rfl (reprX_ok (fXf_ok e1) e2) (andV_ok fXis_ok fXis_ok))]
    rfl
  rw [if_neg hc0] at h
  by_cases hc1 : cl = "InvalidMark"
  · subst hc1
    rw [if_pos rfl] at h
    obtain ⟨x, e1, h⟩ := bE h
    obtain ⟨t, e2, h⟩ := bE h
    cases h
    rw [pick_no rfl]
    rw [pick_yes rfl hl]
    dsimp only
    rw [show ([some c, some (D.lst [D.str (Str.ofString "told")]), none] : Gm).set 2 none = [some c, some (D.lst [D.str (Str.ofString "told")]), none] from rfl, set_ok (d := ePl (hdL "mark" t)) (Ω1 := Ω ++ W) (lst3_ok (a := .str "mark") (b := .str t) (c := .bl true) rfl (reprX_ok (fXf_ok e1) e2) (fXis_ok))]
    rfl
  rw [if_neg hc1] at h
  by_cases hc2 : cl = "InvalidLength"
  · subst hc2
    rw [if_pos rfl] at h
    obtain ⟨x, e1, h⟩ := bE h
    obtain ⟨t, e2, h⟩ := bE h
    cases h
    rw [pick_no rfl]
    rw [pick_no rfl]
    rw [pick_yes rfl hl]
    dsimp only
    rw [show ([some c, some (D.lst [D.str (Str.ofString "told")]), none] : Gm).set 2 none = [some c, some (D.lst [D.str (Str.ofString "told")]), none] from rfl, set_ok (d := ePl (hdL "length" t)) (Ω1 := Ω ++ W) (lst3_ok (a := .str "length") (b := .str t) (c := .bl true) rfl (reprX_ok (fXf_ok e1) e2) (fXis_ok))]
    rfl
  rw [if_neg hc2] at h
  by_cases hc3 : cl = "InvalidRange"
  · subst hc3
    rw [if_pos rfl] at h
    obtain ⟨x, e1, h⟩ := bE h
    obtain ⟨t, e2, h⟩ := bE h
    cases h
    rw [pick_no rfl]
    rw [pick_no rfl]
    rw [pick_no rfl]
    rw [pick_yes rfl hl]
    dsimp only
    rw [show ([some c, some (D.lst [D.str (Str.ofString "told")]), none] : Gm).set 2 none = [some c, some (D.lst [D.str (Str.ofString "told")]), none] from rfl, set_ok (d := ePl (hdL "range" t)) (Ω1 := Ω ++ W) (lst3_ok (a := .str "range") (b := .str t) (c := .bl true) rfl (reprX_ok (fXf_ok e1) e2) (fXis_ok))]
    rfl
  rw [if_neg hc3] at h
  by_cases hc4 : cl = "TooMany"
  · subst hc4
    rw [if_pos rfl] at h
    dsimp only at h
    split at h
    · rename_i a e0
      obtain ⟨x, e1, h⟩ := bE h
      obtain ⟨t, e2, h⟩ := bE h
      cases h
      rw [pick_no rfl]
      rw [pick_no rfl]
      rw [pick_no rfl]
      rw [pick_no rfl]
      rw [pick_yes rfl hl]
      dsimp only
      rw [show ([some c, some (D.lst [D.str (Str.ofString "told")]), none] : Gm).set 2 none = [some c, some (D.lst [D.str (Str.ofString "told")]), none] from rfl, set_ok (d := ePl (hdL a t)) (Ω1 := Ω ++ W) (lst3_ok (a := .str a) (b := .str t) (c := .bl true) (fXf_ok e0) (reprX_ok (fXf_ok e1) e2) (andV_ok fXis_ok fXis_ok))]
      rfl
    · cases h
  rw [if_neg hc4] at h
  cases h
/-! ### what is refused -/
theorem w_is_integer_d {d : D} (h : okOd d = true) : Sp0 F_is_integer [d] (.bl (isIntD d)) := by
  refine fn_0 rfl fun A => ?_
  unfold b_is_integer
  have no : isIntD d = false → TE A (startP 1 [d]) (fIs (isB CL "int") (fVar 0)) (.bl false) A → TR true A (startP 1 [d]) (sRet (fAndV (fIs (isB CL "int") (fVar 0)) (fNotV (fIs (isB CL "bool") (fVar 0))))) (.bl (isIntD d)) A := fun e z => by
    rw [e]
    exact tr_ret (te_and (b := false) (b' := (!true)) z (fun h => nomatch h))
  cases d with
  | int i => exact tr_ret (te_and (b := true) (b' := (!false)) (te_is (te_var (d := (.int i))) fun Ω => rfl) (fun _ => (te_not (te_is (te_var (d := (.int i))) fun Ω => rfl))))
  | bl x => exact tr_ret (te_and (b := true) (b' := (!true)) (te_is (te_var (d := (.bl x))) fun Ω => rfl) (fun _ => (te_not (te_is (te_var (d := (.bl x))) fun Ω => rfl))))
  | non => exact no rfl (te_is (te_var (d := .non)) fun Ω => rfl)
  | str x => exact no rfl (te_is (te_var (d := (.str x))) fun Ω => rfl)
  | tup x => exact no rfl (te_is (te_var (d := (.tup x))) fun Ω => rfl)
  | lst x => exact no rfl (te_is (te_var (d := (.lst x))) fun Ω => rfl)
  | dct x => exact no rfl (te_is (te_var (d := (.dct x))) fun Ω => rfl)
  | dcT x => exact no rfl (te_is (te_var (d := (.dcT x))) fun Ω => rfl)
  | _ => cases h
theorem w_is_list_q {b : Bool} {xs : List Pd} : Sp0 F_is_list [eLT ePl (b, xs)] (.bl true) := by
  refine fn_0 rfl fun A => ?_
  unfold b_is_list
  cases b <;> exact tr_ret (te_is te_var fun Ω => rfl)
theorem w_is_list_d {d : D} (h : okOb d = true) (hl : isLD d = false) : Sp0 F_is_list [d] (.bl false) := by
  refine fn_0 rfl fun A => ?_
  unfold b_is_list
  cases d with
  | non => exact tr_ret (te_is (te_var (d := .non)) fun Ω => rfl)
  | bl x => exact tr_ret (te_is (te_var (d := (.bl x))) fun Ω => rfl)
  | int x => exact tr_ret (te_is (te_var (d := (.int x))) fun Ω => rfl)
  | str x => exact tr_ret (te_is (te_var (d := (.str x))) fun Ω => rfl)
  | dct x => exact tr_ret (te_is (te_var (d := (.dct x))) fun Ω => rfl)
  | dcT x => exact tr_ret (te_is (te_var (d := (.dcT x))) fun Ω => rfl)
  | obj x y =>
    have : x = "Stair" := of_decide_eq_true h
    subst this
    exact tr_ret (te_is (te_var (d := (.obj "Stair" y))) fun Ω => rfl)
  | tup x => cases hl
  | lst x => cases hl
  | _ => cases h
theorem triD_eq {d : D} {a : Int × Int × Int} (h : triD d = some a) : d = stD a := by
  unfold triD at h
  split at h
  · cases h; rfl
  · cases h
theorem w_is_step_3 {a b c : D} (ha : okOd a = true) (hb : okOd b = true) (hc : okOd c = true) : Sp0 F_is_step [.tup [a, b, c]] (.bl (isIntD a && (isIntD b && isIntD c) && lenD c)) := by
  refine fn_0 rfl fun A => ?_
  unfold b_is_step
  have hall : ∀ z ∈ [a, b, c], okOd z = true := fun z hz => by
    simp only [List.mem_cons, List.not_mem_nil, or_false] at hz
    rcases hz with rfl | rfl | rfl
    · exact ha
    · exact hb
    · exact hc
  have e5 : lcO (β := Bool) (fun z : D => if okOd z = true then some (some (isIntD z)) else none) [a, b, c] = some [isIntD a, isIntD b, isIntD c] :=
    (lcO_map (xs := [a, b, c]) (f := fun z : D => if okOd z = true then some (some (isIntD z)) else none) isIntD (show 3 ≤ 100000 by decide) fun z hz => if_pos (hall z hz)).trans rfl
  have t1 : TE A (startP 2 [.tup [a, b, c]]) (fOr (fNot (fT (fIs (isB CL "tuple") (fVar 0)))) (fOr (fT (fBin dNe (fCB dLen (fCons (fVar 0) fNil)) (fC (.int 3)))) (fNot (fT (fCB dAll (fCons (fLc (fSeq (fVar 0)) (.nm 1) (fC true) (fCall 1 F_is_integer (fCons (fVar 1) fNil)) [1]) fNil)))))) ((!true) || ((!decide ((3 : Int) = 3)) || (!(([isIntD a, isIntD b, isIntD c] : List Bool).all id)))) A :=
    tt_or (tt_not (b := true) (tt_val (b := true) (te_is (b := true) (te_var (d := .tup [a, b, c])) fun Ω => rfl))) (fun _ => tt_or (tt_val (b := (!decide ((3 : Int) = 3))) (te_bin (z := D.bl (!decide ((3 : Int) = 3))) (te_cb (z := (D.int 3)) (te_cons (d := .tup [a, b, c]) (te_var (d := .tup [a, b, c])) te_nil) (fun Ω => rfl)) te_c (fun Ω => rfl))) (fun _ => tt_not (b := ([isIntD a, isIntD b, isIntD c] : List Bool).all id) (tt_val (b := ([isIntD a, isIntD b, isIntD c] : List Bool).all id) (te_cb (z := (D.bl (([isIntD a, isIntD b, isIntD c] : List Bool).all id))) (te_cons (d := (eL D.bl [isIntD a, isIntD b, isIntD c])) (te_lcO (e := fun z : D => z) (ey := D.bl) (vs := [1]) e5 (by rw [List.map_id']; exact ti_tup (te_var (d := .tup [a, b, c]))) (by
        intro z yy hh
        refine ⟨_, tgt_nm, ?_⟩
        obtain ⟨h1, h2⟩ := ite_some hh
        subst h2
        exact .inr ⟨_, rfl, te_c, (te_call0 (te_cons (d := z) (te_var (d := z)) te_nil) (w_is_integer_d h1))⟩)) te_nil) (fun Ω => o_all Ω)))))
  have e6 : (([isIntD a, isIntD b, isIntD c] : List Bool).all id) = (isIntD a && (isIntD b && isIntD c)) := by simp
  rw [e6] at t1
  cases hi : (isIntD a && (isIntD b && isIntD c)) with
  | false =>
    rw [hi] at t1
    exact tr_seqR (tr_ifT t1 (by rw [Bool.false_and]; exact tr_ret te_c))
  | true =>
    rw [hi] at t1
    refine tr_seq (tb_ifF t1 tb_skip) ?_
    have : isIntD c = true := by
      cases h1 : isIntD c with
      | true => rfl
      | false => rw [h1, Bool.and_false, Bool.and_false] at hi; cases hi
    cases c with
    | int l => exact tr_ret (te_bin (z := D.bl (decide (1 ≤ l))) (te_bin (x := .tup [a, b, .int l]) (z := (D.int l)) (te_var (d := .tup [a, b, .int l])) te_c (fun Ω => rfl)) te_c (fun Ω => rfl))
    | _ => cases this
theorem w_is_step_n {d : D} (h : okOd d = true) (ht : ∀ Ω, isB CL "tuple" Ω d = some false) : Sp0 F_is_step [d] (.bl false) := by
  refine fn_0 rfl fun A => ?_
  unfold b_is_step
  exact tr_seqR (tr_ifT (tt_orT (tt_not (b := false) (tt_val (b := false) (te_is (te_var (d := d)) ht)))) (tr_ret te_c))
theorem w_is_step_t {xs : List D} (h : xs.length ≠ 3) : Sp0 F_is_step [.tup xs] (.bl false) := by
  refine fn_0 rfl fun A => ?_
  unfold b_is_step
  have e : (!decide ((xs.length : Int) = 3)) = true := by
    rw [decide_eq_false (by omega)]
    rfl
  exact tr_seqR (tr_ifT (tt_or (b := (!true)) (b' := true) (tt_not (b := true) (tt_val (b := true) (te_is (b := true) (te_var (d := .tup xs)) fun Ω => rfl))) (fun _ => tt_orT (tt_val (b := true) (te_castE (e := D.bl) (congrArg some e) (te_bin (z := D.bl (!decide ((xs.length : Int) = 3))) (te_cb (z := (D.int (xs.length : Int))) (te_cons (d := .tup xs) (te_var (d := .tup xs)) te_nil) (fun Ω => rfl)) te_c (fun Ω => o_ne ex_int _ _ (Ω := Ω))))))) (tr_ret te_c))
theorem w_is_step_d {d : D} {r : Bool} (h : stepD d = some r) : Sp0 F_is_step [d] (.bl r) := by
  cases d with
  | tup xs => match xs, h with
    | [a, b, c], h =>
      obtain ⟨⟨h1, h2, h3⟩, h4⟩ := ite_some (show (if okOd a = true ∧ okOd b = true ∧ okOd c = true then some (isIntD a && (isIntD b && isIntD c) && lenD c) else none) = some r from h)
      rw [← h4]
      exact w_is_step_3 h1 h2 h3
    | [], h => cases h; exact w_is_step_t (by decide)
    | [_], h => cases h; exact w_is_step_t (by simp)
    | [_, _], h => cases h; exact w_is_step_t (by simp)
    | _ :: _ :: _ :: _ :: _, h => cases h; exact w_is_step_t (by simp)
  | non => cases h; exact w_is_step_n rfl fun Ω => rfl
  | bl x => cases h; exact w_is_step_n rfl fun Ω => rfl
  | int x => cases h; exact w_is_step_n rfl fun Ω => rfl
  | str x => cases h; exact w_is_step_n rfl fun Ω => rfl
  | lst x => cases h; exact w_is_step_n rfl fun Ω => rfl
  | dct x => cases h; exact w_is_step_n rfl fun Ω => rfl
  | dcT x => cases h; exact w_is_step_n rfl fun Ω => rfl
  | _ => cases h
theorem step_xn {xs : List Pd} {p : Int × Pd} {e : Xn} (h : x_step xs p = some (some e)) : e = xnP (.int p.1) := by
  unfold x_step at h
  obtain ⟨ok, _, h⟩ := bE h
  cases ok with
  | false => cases h; rfl
  | true =>
    rw [if_pos rfl] at h
    by_cases h0 : 0 < p.1
    · rw [if_pos h0] at h
      obtain ⟨y, _, h⟩ := bE h
      obtain ⟨a, _, h⟩ := bE h
      obtain ⟨b, _, h⟩ := bE h
      by_cases hr : riseB a b = true
      · rw [if_pos hr] at h; cases h
      · rw [if_neg hr] at h; cases h; rfl
    · rw [if_neg h0] at h; cases h
theorem fold_xn {xs : List Pd} {e : Xn} : ∀ {ps : List (Int × Pd)}, foldY (x_step xs) ps = some (some e) → ∃ i : Int, e = xnP (.int i)
  | [], h => by cases h
  | p :: ps, h => by
    unfold foldY at h
    cases q : x_step xs p with
    | none => rw [q] at h; cases h
    | some z =>
      rw [q] at h
      cases z with
      | none => exact fold_xn h
      | some e2 => cases h; exact ⟨p.1, step_xn q⟩
theorem x_body {xs : List Pd} {bq : Bool} {A : Om} {p : Int × Pd} {z : Option Xn} (h : x_step xs p = some z) : XT A [.pl (eLT ePl (bq, xs)), .pl (.int p.1), .pl (ePl p.2)] [.pl (eLT ePl (bq, xs)), .un, .un] b_want_steps_for z := by
  unfold x_step at h
  unfold b_want_steps_for
  obtain ⟨ok, h1, h⟩ := bE h
  have tS : TE A [.pl (eLT ePl (bq, xs)), .pl (.int p.1), .pl (ePl p.2)] (fNot (fT (fCall 1 F_is_step (fCons (fVar 2) fNil)))) (!ok) A := tt_not (b := ok) (tt_val (b := ok) (te_call0 (te_cons (d := ePl p.2) (te_var (d := ePl p.2)) te_nil) (w_is_step_d h1)))
  have bad : XB A [.pl (eLT ePl (bq, xs)), .pl (.int p.1), .pl (ePl p.2)] (sRaise "InvalidSteps" ["position"] (fCons (fVar 1) fNil)) (xnP (.int p.1)) := xb_raise (ds := [.int p.1]) (te_cons (d := .int p.1) (te_var (d := .int p.1)) te_nil)
  have tG : TE A [.pl (eLT ePl (bq, xs)), .pl (.int p.1), .pl (ePl p.2)] (fT (fBin dGt (fVar 1) (fC (.int 0)))) (decide (0 < p.1)) A := tt_val (b := decide (0 < p.1)) (te_bin (z := D.bl (decide (0 < p.1))) (te_var (d := (D.int p.1))) te_c)
  cases ok with
  | false =>
    cases h
    exact xb_ifT (tt_orT tS) bad
  | true =>
    rw [if_pos rfl] at h
    by_cases h0 : 0 < p.1
    · rw [if_pos h0] at h
      obtain ⟨y, h2, h⟩ := bE h
      obtain ⟨a, h3, h⟩ := bE h
      obtain ⟨b, h4, h⟩ := bE h
      rw [decide_eq_true h0] at tG
      have ey := triD_eq h3
      have eb := triD_eq h4
      have tR : TE A [.pl (eLT ePl (bq, xs)), .pl (.int p.1), .pl (ePl p.2)] (fNot (fT (fCall 2 F_does_rise (fCons (fBin dIx (fVar 0) (fBin dSub (fVar 1) (fC (.int 1)))) (fCons (fVar 2) fNil))))) (!riseB a b) A :=
        tt_not (b := riseB a b) (tt_val (b := riseB a b) (te_call0 (te_cons (d := stD a) (by rw [← ey]; exact te_bin (x := (eLT ePl (bq, xs))) (z := ePl y) (te_var (d := (eLT ePl (bq, xs)))) (te_bin (z := D.int (p.1 - 1)) (te_var (d := (D.int p.1))) te_c) (fun Ω => o_ixQ (z := (bq, xs)) h2 Ω)) (te_cons (d := stD b) (by rw [← eb]; exact te_var (d := ePl p.2)) te_nil)) (w_does_rise rfl)))
      have tA := tt_or tS (fun _ => tt_and tG (fun _ => tR))
      by_cases hr : riseB a b = true
      · rw [if_pos hr] at h
        cases h
        rw [hr] at tA
        exact tb_weak (tb_ifF tA tb_skip) (by repeat (first | exact Pw.nil | apply Pw.same | apply Pw.un))
      · rw [if_neg hr] at h
        cases h
        have hr : riseB a b = false := by simpa using hr
        rw [hr] at tA
        exact xb_ifT tA bad
    · rw [if_neg h0] at h
      cases h
      rw [decide_eq_false h0] at tG
      exact tb_weak (tb_ifF (tt_or tS (fun _ => tt_and (b := false) (b' := false) tG (fun h => nomatch h))) tb_skip) (by repeat (first | exact Pw.nil | apply Pw.same | apply Pw.un))
theorem x_iter {xs : List Pd} {bq : Bool} {A : Om} : TE A [.pl (eLT ePl (bq, xs)), .un, .un] (fEnum (fCons (fVar 0) fNil)) ((enumT 0 xs).map (e2 D.int ePl)) A := by
  cases bq with
  | true => exact ti_enT (te_cons te_var te_nil)
  | false => exact ti_en (te_cons te_var te_nil)
theorem x_turn {xs : List Pd} {bq : Bool} {A : Om} (p : Int × Pd) (z : Option Xn) (h : x_step xs p = some z) : ∃ P1, TG (gT 2 (gCons (gN 1) (gCons (gN 2) gNil))) (e2 D.int ePl p) [.pl (eLT ePl (bq, xs)), .un, .un] P1 ∧ XT A P1 [.pl (eLT ePl (bq, xs)), .un, .un] b_want_steps_for z :=
  ⟨_, (tg_t (tgs_cons tg_n (tgs_cons tg_n tgs_nil))), x_body h⟩
theorem w_want_nx {xs : List Pd} {bq : Bool} (h : foldY (x_step xs) (enumT 0 xs) = some none) : Sp0 F_want_steps [eLT ePl (bq, xs)] .non := by
  refine fn_0 rfl fun A => ?_
  unfold b_want_steps
  refine tr_seq (tb_ifF (tt_not (b := true) (tt_val (b := true) (te_call0 (te_cons (d := eLT ePl (bq, xs)) (te_var (d := eLT ePl (bq, xs))) te_nil) w_is_list_q))) tb_skip) ?_
  refine tr_last ?_
  exact tr_seq (tb_forY h x_iter (by repeat (first | exact Pw.nil | apply Pw.same | apply Pw.un)) x_turn) (tr_nx tb_skip)
theorem wx_want_steps {xs : List Pd} {bq : Bool} {e : Xn} (h : foldY (x_step xs) (enumT 0 xs) = some (some e)) : SpX F_want_steps [eLT ePl (bq, xs)] e := by
  obtain ⟨i, ei⟩ := fold_xn h
  refine fn_x0 (by rw [ei]; rfl) fun A => ?_
  unfold b_want_steps
  refine xb_seq2 (tb_ifF (tt_not (b := true) (tt_val (b := true) (te_call0 (te_cons (d := eLT ePl (bq, xs)) (te_var (d := eLT ePl (bq, xs))) te_nil) w_is_list_q))) tb_skip) ?_
  exact xb_forY h x_iter (by repeat (first | exact Pw.nil | apply Pw.same | apply Pw.un)) x_turn
theorem wx_want_odd {d : D} (h : okOb d = true) (hl : isLD d = false) : SpX F_want_steps [d] (xnP .non) := by
  refine fn_x0 rfl fun A => ?_
  unfold b_want_steps
  exact xb_seq1 (xb_ifT (tt_not (b := false) (tt_val (b := false) (te_call0 (te_cons (d := d) (te_var (d := d)) te_nil) (w_is_list_d h hl)))) (xb_raise (ds := [.non]) (te_cons (d := .non) te_c te_nil)))
theorem wx_mkQ {xs : List Pd} {bq : Bool} {e : Xn} (h : x_mk xs = some e) : SpXM F_StairD_initD [eLT ePl (bq, xs)] e := by
  unfold x_mk at h
  cases q : foldY (x_step xs) (enumT 0 xs) with
  | none => rw [q] at h; cases h
  | some z =>
    rw [q] at h
    cases z with
    | some e2 =>
      cases h
      obtain ⟨i, ei⟩ := fold_xn q
      refine ⟨fun k => fn_x0 (by rw [ei]; rfl) fun A => ?_, by rw [ei]; rfl⟩
      unfold b_StairD_initD
      refine xb_ifF (tt_val (b := false) (te_is (b := false) (te_var (d := eLT ePl (bq, xs))) (by cases bq <;> exact fun Ω => rfl))) ?_
      exact xb_seq1 (xb_exp (xe_call (te_cons (d := eLT ePl (bq, xs)) (te_var (d := eLT ePl (bq, xs))) te_nil) (wx_want_steps q)))
    | none =>
      obtain ⟨h6, h7⟩ := ite_some h
      subst h7
      refine ⟨fun k => fn_x0 rfl fun A => ?_, rfl⟩
      unfold b_StairD_initD
      refine xb_ifF (tt_val (b := false) (te_is (b := false) (te_var (d := eLT ePl (bq, xs))) (by cases bq <;> exact fun Ω => rfl))) ?_
      refine xb_seq2 (tb_exp (te_call0 (te_cons (d := eLT ePl (bq, xs)) (te_var (d := eLT ePl (bq, xs))) te_nil) (w_want_nx q))) ?_
      refine xb_seq1 (xb_ifT (te_castS (congrArg some (decide_eq_true h6)) (tt_val (b := decide (60 < (xs.length : Int))) (te_bin (z := D.bl (decide (60 < (xs.length : Int)))) (te_cb (z := (D.int (xs.length : Int))) (te_cons (d := eLT ePl (bq, xs)) (te_var (d := eLT ePl (bq, xs))) te_nil) (by cases bq with
        | true => exact fun Ω => o_lenT (e := ePl) Ω
        | false => exact fun Ω => o_lenL (e := ePl) Ω)) te_c))) ?_)
      exact xb_raise (ds := [.str "steps", .int 60]) (te_cons (d := .str "steps") te_c (te_cons (d := .int 60) te_c te_nil))
theorem wx_mkL {xs : List Pd} {e : Xn} (h : x_mk xs = some e) : SpXM F_StairD_initD [eL ePl xs] e := wx_mkQ (bq := false) h
theorem wx_mkT {xs : List Pd} {e : Xn} (h : x_mk xs = some e) : SpXM F_StairD_initD [eT ePl xs] e := wx_mkQ (bq := true) h
theorem wx_mkO {d : Pd} {e : Xn} (h : x_mkO d = some e) : SpXM F_StairD_initD [ePl d] e := by
  obtain ⟨⟨h1, h2⟩, h4⟩ := ite_some h
  subst h4
  refine ⟨fun k => fn_x0 rfl fun A => ?_, rfl⟩
  unfold b_StairD_initD
  have hi : ∀ Ω, isC CL "RightSteps" Ω (ePl d) = some false := by
    obtain ⟨v, hv⟩ := d
    show ∀ Ω, isC CL "RightSteps" Ω v = some false
    dsimp only at h1 h2
    cases v with
    | obj c fs =>
      have : c = "Stair" := of_decide_eq_true h1
      subst this
      exact fun Ω => rfl
    | non => exact fun Ω => rfl
    | bl x => exact fun Ω => rfl
    | int x => exact fun Ω => rfl
    | str x => exact fun Ω => rfl
    | dct x => exact fun Ω => rfl
    | dcT x => exact fun Ω => rfl
    | tup x => cases h2
    | lst x => cases h2
    | _ => cases h1
  refine xb_ifF (tt_val (b := false) (te_is (b := false) (te_var (d := ePl d)) hi)) ?_
  exact xb_seq1 (xb_exp (xe_call (te_cons (d := ePl d) (te_var (d := ePl d)) te_nil) (wx_want_odd h1 h2)))
theorem t_noI {A : Om} {P : List Sl} {f : Den D} {d : D} {r : Bool} (h : okOd d = true) (hi : isIntD d = r) (hv : TE A P f d A) : TE A P (fNot (fT (fCall 1 F_is_integer (fCons f fNil)))) (!r) A := tt_not (b := r) (tt_val (b := r) (te_call0 (te_cons (d := d) hv te_nil) (by rw [← hi]; exact w_is_integer_d h)))
theorem wx_call {s : List (Int × Int × Int)} {d : Pd} {e : Xn} (h : x_call d = some e) : SpX F_StairD_callD [e_Stair s, ePl d] e := by
  obtain ⟨⟨h1, h2⟩, h3⟩ := ite_some h
  subst h3
  refine fn_x0 (xnV_below d.h) fun A => ?_
  unfold b_StairD_callD
  exact xb_seq1 (xb_ifT (t_noI h1 h2 (te_var (d := ePl d))) (xb_raise (ds := [ePl d]) (te_cons (d := ePl d) (te_var (d := ePl d)) te_nil)))
theorem wx_stay {a b : Pd} {e : Xn} (h : x_stay a b = some e) : SpX F_Stair_stay [.cl "Stair", ePl a, ePl b] e := by
  obtain ⟨⟨h1, h2⟩, h3⟩ := ifE h
  cases hi : isIntD a.v with
  | false =>
    rw [hi, if_neg Bool.false_ne_true] at h3
    cases h3
    refine fn_x0 (xnV_below a.h) fun A => ?_
    unfold b_Stair_stay
    exact xb_seq1 (xb_ifT (t_noI h1 hi (te_var (d := ePl a))) (xb_raise (ds := [ePl a]) (te_cons (d := ePl a) (te_var (d := ePl a)) te_nil)))
  | true =>
    rw [hi, if_pos rfl] at h3
    have key : (isIntD b.v = false ∨ ∃ l, b.v = .int l ∧ l < 1) ∧ e = xnV "InvalidLength" b.v := by
      cases hb : b.v with
      | int l =>
        rw [hb] at h3
        obtain ⟨h4, h5⟩ := ite_some h3
        exact ⟨.inr ⟨l, rfl, h4⟩, h5.symm⟩
      | _ =>
        rw [hb] at h3
        cases h3
        exact ⟨.inl rfl, rfl⟩
    obtain ⟨h4, h5⟩ := key
    subst h5
    refine fn_x0 (xnV_below b.h) fun A => ?_
    unfold b_Stair_stay
    refine xb_seq2 (tb_ifF (t_noI h1 hi (te_var (d := ePl a))) tb_skip) (xb_seq1 (xb_ifT ?_ (xb_raise (ds := [ePl b]) (te_cons (d := ePl b) (te_var (d := ePl b)) te_nil))))
    rcases h4 with h4 | ⟨l, h4, h6⟩
    · exact tt_orT (t_noI h2 h4 (te_var (d := ePl b)))
    · exact te_castS (by rw [show isIntD b.v = true by rw [h4]; rfl, decide_eq_true h6]; rfl) (tt_or (t_noI h2 rfl (te_var (d := ePl b))) (fun _ => tt_val (b := decide (l < 1)) (te_bin (x := .int l) (z := D.bl (decide (l < 1))) (by rw [← h4]; exact te_var (d := ePl b)) te_c)))
theorem pair_below (a b : Pd) : below 0 (.tup [a.v, b.v]) = true := by
  unfold below
  exact belowL_cons a.h (belowL_cons b.h rfl)
theorem range_xn {a b : Pd} {e : Xn} (h : x_range a b = some e) : e = xnV "InvalidRange" (.tup [a.v, b.v]) ∧ okOd a.v = true ∧ okOd b.v = true ∧ ((isIntD a.v = false ∨ isIntD b.v = false) ∨ ∃ i j, a.v = .int i ∧ b.v = .int j ∧ j ≤ i) := by
  obtain ⟨⟨h1, h2⟩, h3⟩ := ifE h
  refine ⟨?_, h1, h2, ?_⟩
  · split at h3
    · exact (ite_some h3).2.symm
    · exact (Option.some.inj h3).symm
  · cases ha : a.v with
    | int i =>
      cases hb : b.v with
      | int j =>
        rw [ha, hb] at h3
        exact .inr ⟨i, j, rfl, rfl, (ite_some h3).1⟩
      | _ => exact .inl (.inr rfl)
    | _ => exact .inl (.inl rfl)
theorem wx_want_range {a b : Pd} {e : Xn} (h : x_range a b = some e) : SpX F_want_range [ePl a, ePl b] e := by
  obtain ⟨h0, h1, h2, h3⟩ := range_xn h
  subst h0
  refine fn_x0 (xnV_below (pair_below a b)) fun A => ?_
  unfold b_want_range
  refine xb_ifT ?_ (xb_raise (ds := [.tup [ePl a, ePl b]]) (te_cons (d := .tup [ePl a, ePl b]) (te_tup (te_cons (d := ePl a) (te_var (d := ePl a)) (te_cons (d := ePl b) (te_var (d := ePl b)) te_nil))) te_nil))
  have key : ∀ c : Bool, isIntD a.v = c → (c = true → TE A (startP 2 [ePl a, ePl b]) (fOr (fNot (fT (fCall 1 F_is_integer (fCons (fVar 1) fNil)))) (fT (fBin dGe (fVar 0) (fVar 1)))) true A) → TE A (startP 2 [ePl a, ePl b]) (fOr (fNot (fT (fCall 1 F_is_integer (fCons (fVar 0) fNil)))) (fOr (fNot (fT (fCall 1 F_is_integer (fCons (fVar 1) fNil)))) (fT (fBin dGe (fVar 0) (fVar 1))))) true A := fun c hc z => by
    cases c with
    | false => exact tt_orT (t_noI h1 hc (te_var (d := ePl a)))
    | true => exact tt_or (b := (!true)) (b' := true) (t_noI h1 hc (te_var (d := ePl a))) (fun _ => z rfl)
  rcases h3 with (h3 | h3) | ⟨i, j, h3, h4, h5⟩
  · exact key _ h3 (fun z => nomatch z)
  · exact key _ rfl (fun _ => tt_orT (t_noI h2 h3 (te_var (d := ePl b))))
  · refine key true (by rw [h3]; rfl) (fun _ => ?_)
    exact tt_or (b := (!true)) (b' := true) (t_noI h2 (by rw [h4]; rfl) (te_var (d := ePl b))) (fun _ => te_castS (congrArg some (decide_eq_true h5)) (tt_val (b := decide (j ≤ i)) (te_bin (x := .int i) (y := .int j) (z := D.bl (decide (j ≤ i))) (by rw [← h3]; exact te_var (d := ePl a)) (by rw [← h4]; exact te_var (d := ePl b)))))
theorem wx_limited {s : List (Int × Int × Int)} {a b : Pd} {e : Xn} (h : x_range a b = some e) : SpX F_Stair_limited [e_Stair s, ePl a, ePl b] e := by
  refine fn_x0 (by rw [(range_xn h).1]; exact xnV_below (pair_below a b)) fun A => ?_
  unfold b_Stair_limited
  exact xb_seq1 (xb_exp (xe_call (te_cons (d := ePl a) (te_var (d := ePl a)) (te_cons (d := ePl b) (te_var (d := ePl b)) te_nil)) (wx_want_range h)))
theorem wx_ranges {s : List (Int × Int × Int)} {a b : Pd} {e : Xn} (h : x_range a b = some e) : SpX F_Stair_ranges [e_Stair s, ePl a, ePl b] e := by
  refine fn_x0 (by rw [(range_xn h).1]; exact xnV_below (pair_below a b)) fun A => ?_
  unfold b_Stair_ranges
  exact xb_seq1 (xb_set (xe_meth (te_var (d := e_Stair s)) (te_cons (d := ePl a) (te_var (d := ePl a)) (te_cons (d := ePl b) (te_var (d := ePl b)) te_nil)) (wx_limited h)))
theorem wx_cut_in {s : List (Int × Int × Int)} {a b : Pd} {e : Xn} (h : x_range a b = some e) : SpX F_Stair_cut_in [e_Stair s, ePl a, ePl b] e := by
  refine fn_x0 (by rw [(range_xn h).1]; exact xnV_below (pair_below a b)) fun A => ?_
  unfold b_Stair_cut_in
  refine xb_seq2 (tb_par2a (te_var (d := ePl a))) (xb_seq1 (xb_for1 (xe_bnd1 (xe_bnd1 ?_))))
  exact xe_meth (te_var (d := e_Stair s)) (te_cons (d := ePl a) (te_var (d := ePl a)) (te_cons (d := ePl b) (te_var (d := ePl b)) te_nil)) (wx_limited h)
theorem p_twoE {α : Type} {f : Int → Int → Option α} {em : α → D} {a b : Pd} {d : D} (h : p_two f em a b = some d) : ∃ i j x, ePl a = .int i ∧ ePl b = .int j ∧ f i j = some x ∧ d = em x := by
  unfold p_two at h
  split at h
  · rename_i i j h1 h2
    obtain ⟨x, h3, h4⟩ := Option.map_eq_some_iff.mp h
    exact ⟨i, j, x, h1, h2, h3, h4.symm⟩
  · cases h
theorem wp_limited {s : List (Int × Int × Int)} {a b : Pd} {d : D} (h : p_limited s a b = some d) : Sp0 F_Stair_limited [e_Stair s, ePl a, ePl b] d := by
  obtain ⟨i, j, x, h1, h2, h3, h4⟩ := p_twoE h
  rw [h1, h2, h4]
  exact w_Stair_limited h3
theorem wp_ranges {s : List (Int × Int × Int)} {a b : Pd} {d : D} (h : p_ranges s a b = some d) : Sp0 F_Stair_ranges [e_Stair s, ePl a, ePl b] d := by
  obtain ⟨i, j, x, h1, h2, h3, h4⟩ := p_twoE h
  rw [h1, h2, h4]
  exact w_Stair_ranges h3
theorem wp_cut_in {s : List (Int × Int × Int)} {a b : Pd} {d : D} (h : p_cut_in s a b = some d) : Sp0 F_Stair_cut_in [e_Stair s, ePl a, ePl b] d := by
  obtain ⟨i, j, x, h1, h2, h3, h4⟩ := p_twoE h
  rw [h1, h2, h4]
  exact w_Stair_cut_in h3

theorem w_law_due {v_word : Str} {v_thing : Pd} {rr : Pd} (hr : t_law_due v_word v_thing = some rr) : Sp0 F_law_due [(D.str v_word), (ePl v_thing)] (ePl rr) := by
  refine fn_0 (pu_Pl rr) fun A => ?_
  unfold t_law_due at hr
  unfold b_law_due
  obtain ⟨x1, h2, hr⟩ := bE hr
  obtain hs := Option.some.inj hr
  subst hs
  exact tr_ret (show TE _ _ _ (ePl (⟨(eL ePl ([(⟨(.str v_word), rfl⟩ : Pd), (⟨(.str x1), rfl⟩ : Pd), (⟨(.bl true), rfl⟩ : Pd)])), (pu_L pu_Pl) ([(⟨(.str v_word), rfl⟩ : Pd), (⟨(.str x1), rfl⟩ : Pd), (⟨(.bl true), rfl⟩ : Pd)])⟩ : Pd)) _ from (te_lst (te_cons (d := (ePl (⟨(.str v_word), rfl⟩ : Pd))) (show TE _ _ _ (ePl (⟨(.str v_word), rfl⟩ : Pd)) _ from (te_var (d := (D.str v_word)))) (te_cons (d := (ePl (⟨(.str x1), rfl⟩ : Pd))) (show TE _ _ _ (ePl (⟨(.str x1), rfl⟩ : Pd)) _ from (te_cb (z := D.str x1) (te_cons (d := (ePl v_thing)) (te_var (d := (ePl v_thing))) te_nil) (fun Ω => o_reprX h2 Ω))) (te_cons (d := (ePl (⟨(.bl true), rfl⟩ : Pd))) (show TE _ _ _ (ePl (⟨(.bl true), rfl⟩ : Pd)) _ from te_c) te_nil)))))
theorem w_law_wrong {v_rows : List (Int × Int × Int)} {q0 q9 : Pot} {rr : (List Pd) × Int} {n : Nat} (hr : t_law_wrong v_rows q0 = some (rr, q9)) : SpP F_law_wrong [.ref n, (eL stD v_rows)] n q0 (e2 (eL ePl) D.int rr) q9 := by
  refine fn_P ((pu_2 (pu_L pu_Pl) pu_int) rr) fun A hn => ?_
  unfold t_law_wrong at hr
  unfold b_law_wrong
  obtain ⟨x1, q2, h3, hr⟩ := b2E hr
  refine tr_seq (tb_set (d := (D.int x1)) (te_callP hn (te_cons (d := (D.ref n)) (te_var (d := D.ref n)) (te_cons (d := (D.int ((v_rows.length : Int) + 1))) (te_bin (z := D.int ((v_rows.length : Int) + 1)) (te_cb (z := (D.int (v_rows.length : Int))) (te_cons (d := (eL stD v_rows)) (te_var (d := (eL stD v_rows))) te_nil) (fun Ω => o_lenL (e := stD) Ω)) te_c) te_nil)) (w_law_draw h3))) ?_
  obtain ⟨x4, h5, hr⟩ := bE hr
  obtain ⟨x6, h7, hr⟩ := bE hr
  refine tr_seq (tb_par3 (te_cons (d := (D.int x4.1)) (te_bin (x := (stD x4)) (z := (D.int x4.1)) (te_bin (x := (eL stD v_rows)) (z := (stD x4)) (te_var (d := (eL stD v_rows))) te_c (fun Ω => o_ixL (e := stD) h5 Ω)) te_c) (te_cons (d := (D.int x6.2.1)) (te_bin (x := (stD x6)) (z := (D.int x6.2.1)) (te_bin (x := (eL stD v_rows)) (z := (stD x6)) (te_var (d := (eL stD v_rows))) te_c (fun Ω => o_ixL (e := stD) h7 Ω)) te_c) (te_cons (d := (D.int 0)) te_c te_nil)))) ?_
  obtain ⟨j22, h23, hr⟩ := bE hr
  refine tr_seq (P1 := [.pl (.ref n), .pl (eL stD v_rows), .pl (D.int x1), .pl (D.int j22.1), .pl (D.int j22.2), .pl (D.int 0), .un]) (A1 := pA A n q2) ?_ ?_
  · have hr := h23
    obtain ⟨c8, h9, hr⟩ := bE hr
    cases c8 with
    | true =>
      rw [ifO_t] at hr
      refine tb_ifT (te_castS h9 (tt_val (b := decide (0 < x1)) (te_bin (z := D.bl (decide (0 < x1))) (te_var (d := (D.int x1))) te_c))) ?_
      obtain ⟨x10, h11, hr⟩ := bE hr
      obtain ⟨x12, h13, hr⟩ := bE hr
      obtain ⟨x14, h15, hr⟩ := bE hr
      refine tb_seq (tb_setE (e := D.int) h15 (te_bin (z := D.int (x10.1 + x12.2.2)) (te_bin (x := (stD x10)) (z := (D.int x10.1)) (te_bin (x := (eL stD v_rows)) (z := (stD x10)) (te_var (d := (eL stD v_rows))) (te_bin (z := D.int (x1 - 1)) (te_var (d := (D.int x1))) te_c) (fun Ω => o_ixL (e := stD) h11 Ω)) te_c) (te_bin (x := (stD x12)) (z := (D.int x12.2.2)) (te_bin (x := (eL stD v_rows)) (z := (stD x12)) (te_var (d := (eL stD v_rows))) (te_bin (z := D.int (x1 - 1)) (te_var (d := (D.int x1))) te_c) (fun Ω => o_ixL (e := stD) h13 Ω)) te_c))) ?_
      obtain ⟨x16, h17, hr⟩ := bE hr
      obtain ⟨x18, h19, hr⟩ := bE hr
      obtain ⟨x20, h21, hr⟩ := bE hr
      obtain hs := Option.some.inj hr
      subst hs
      exact tb_weak (tb_setE (e := D.int) h21 (te_bin (z := D.int (x16.2.1 + x18.2.2)) (te_bin (x := (stD x16)) (z := (D.int x16.2.1)) (te_bin (x := (eL stD v_rows)) (z := (stD x16)) (te_var (d := (eL stD v_rows))) (te_bin (z := D.int (x1 - 1)) (te_var (d := (D.int x1))) te_c) (fun Ω => o_ixL (e := stD) h17 Ω)) te_c) (te_bin (x := (stD x18)) (z := (D.int x18.2.2)) (te_bin (x := (eL stD v_rows)) (z := (stD x18)) (te_var (d := (eL stD v_rows))) (te_bin (z := D.int (x1 - 1)) (te_var (d := (D.int x1))) te_c) (fun Ω => o_ixL (e := stD) h19 Ω)) te_c))) (by repeat (first | exact Pw.nil | apply Pw.same | apply Pw.un))
    | false =>
      rw [ifO_f] at hr
      refine tb_ifF (te_castS h9 (tt_val (b := decide (0 < x1)) (te_bin (z := D.bl (decide (0 < x1))) (te_var (d := (D.int x1))) te_c))) ?_
      obtain hs := Option.some.inj hr
      subst hs
      exact tb_weak tb_skip (by repeat (first | exact Pw.nil | apply Pw.same | apply Pw.un))
  obtain ⟨x24, h25, hr⟩ := bE hr
  refine tr_seq (tb_setE (e := (eL ePl)) h25 (te_lst (te_cons (d := (ePl (⟨.non, rfl⟩ : Pd))) (show TE _ _ _ (ePl (⟨.non, rfl⟩ : Pd)) _ from te_c) (te_cons (d := (ePl (⟨(.int 5), rfl⟩ : Pd))) (show TE _ _ _ (ePl (⟨(.int 5), rfl⟩ : Pd)) _ from te_c) (te_cons (d := (ePl (⟨(.str ("abc" : Str)), rfl⟩ : Pd))) (show TE _ _ _ (ePl (⟨(.str ("abc" : Str)), rfl⟩ : Pd)) _ from te_c) (te_cons (d := (ePl (⟨(eL ePl ([])), (pu_L pu_Pl) ([])⟩ : Pd))) (show TE _ _ _ (ePl (⟨(eL ePl ([])), (pu_L pu_Pl) ([])⟩ : Pd)) _ from (te_lst te_nil)) (te_cons (d := (ePl (⟨(.tup []), rfl⟩ : Pd))) (show TE _ _ _ (ePl (⟨(.tup []), rfl⟩ : Pd)) _ from (te_tup te_nil)) (te_cons (d := (ePl (plT [(⟨(.int ((j22.1, j22.2).1)), rfl⟩ : Pd), (⟨(.int ((j22.1, j22.2).2)), rfl⟩ : Pd)]))) (show TE _ _ _ (ePl (plT [(⟨(.int ((j22.1, j22.2).1)), rfl⟩ : Pd), (⟨(.int ((j22.1, j22.2).2)), rfl⟩ : Pd)])) _ from (te_tup (te_cons (d := (D.int j22.1)) (te_var (d := (D.int j22.1))) (te_cons (d := (D.int j22.2)) (te_var (d := (D.int j22.2))) te_nil)))) (te_cons (d := (ePl (⟨(eL ePl ([(⟨(.int j22.1), rfl⟩ : Pd), (⟨(.int j22.2), rfl⟩ : Pd), (⟨(.int 1), rfl⟩ : Pd)])), (pu_L pu_Pl) ([(⟨(.int j22.1), rfl⟩ : Pd), (⟨(.int j22.2), rfl⟩ : Pd), (⟨(.int 1), rfl⟩ : Pd)])⟩ : Pd))) (show TE _ _ _ (ePl (⟨(eL ePl ([(⟨(.int j22.1), rfl⟩ : Pd), (⟨(.int j22.2), rfl⟩ : Pd), (⟨(.int 1), rfl⟩ : Pd)])), (pu_L pu_Pl) ([(⟨(.int j22.1), rfl⟩ : Pd), (⟨(.int j22.2), rfl⟩ : Pd), (⟨(.int 1), rfl⟩ : Pd)])⟩ : Pd)) _ from (te_lst (te_cons (d := (ePl (⟨(.int j22.1), rfl⟩ : Pd))) (show TE _ _ _ (ePl (⟨(.int j22.1), rfl⟩ : Pd)) _ from (te_var (d := (D.int j22.1)))) (te_cons (d := (ePl (⟨(.int j22.2), rfl⟩ : Pd))) (show TE _ _ _ (ePl (⟨(.int j22.2), rfl⟩ : Pd)) _ from (te_var (d := (D.int j22.2)))) (te_cons (d := (ePl (⟨(.int 1), rfl⟩ : Pd))) (show TE _ _ _ (ePl (⟨(.int 1), rfl⟩ : Pd)) _ from te_c) te_nil))))) (te_cons (d := (ePl (plT [(⟨(.int ((j22.1, j22.2, 0).1)), rfl⟩ : Pd), (⟨(.int ((j22.1, j22.2, 0).2.1)), rfl⟩ : Pd), (⟨(.int ((j22.1, j22.2, 0).2.2)), rfl⟩ : Pd)]))) (show TE _ _ _ (ePl (plT [(⟨(.int ((j22.1, j22.2, 0).1)), rfl⟩ : Pd), (⟨(.int ((j22.1, j22.2, 0).2.1)), rfl⟩ : Pd), (⟨(.int ((j22.1, j22.2, 0).2.2)), rfl⟩ : Pd)])) _ from (te_tup (te_cons (d := (D.int j22.1)) (te_var (d := (D.int j22.1))) (te_cons (d := (D.int j22.2)) (te_var (d := (D.int j22.2))) (te_cons (d := (D.int 0)) te_c te_nil))))) (te_cons (d := (ePl (plT [(⟨(.int ((j22.1, j22.2, (-1)).1)), rfl⟩ : Pd), (⟨(.int ((j22.1, j22.2, (-1)).2.1)), rfl⟩ : Pd), (⟨(.int ((j22.1, j22.2, (-1)).2.2)), rfl⟩ : Pd)]))) (show TE _ _ _ (ePl (plT [(⟨(.int ((j22.1, j22.2, (-1)).1)), rfl⟩ : Pd), (⟨(.int ((j22.1, j22.2, (-1)).2.1)), rfl⟩ : Pd), (⟨(.int ((j22.1, j22.2, (-1)).2.2)), rfl⟩ : Pd)])) _ from (te_tup (te_cons (d := (D.int j22.1)) (te_var (d := (D.int j22.1))) (te_cons (d := (D.int j22.2)) (te_var (d := (D.int j22.2))) (te_cons (d := (D.int (-1))) (te_un (z := D.int (-1)) te_c) te_nil))))) te_nil))))))))))) ?_
  obtain ⟨x26, h27, hr⟩ := bE hr
  refine tr_seq (tb_set (d := (eL ePl x26)) (te_bin (z := (eL ePl x26)) (te_var (d := (eL ePl x24))) (te_lst (te_cons (d := (ePl (plT [(⟨(.int ((j22.1, j22.2, true).1)), rfl⟩ : Pd), (⟨(.int ((j22.1, j22.2, true).2.1)), rfl⟩ : Pd), (⟨(.bl ((j22.1, j22.2, true).2.2)), rfl⟩ : Pd)]))) (show TE _ _ _ (ePl (plT [(⟨(.int ((j22.1, j22.2, true).1)), rfl⟩ : Pd), (⟨(.int ((j22.1, j22.2, true).2.1)), rfl⟩ : Pd), (⟨(.bl ((j22.1, j22.2, true).2.2)), rfl⟩ : Pd)])) _ from (te_tup (te_cons (d := (D.int j22.1)) (te_var (d := (D.int j22.1))) (te_cons (d := (D.int j22.2)) (te_var (d := (D.int j22.2))) (te_cons (d := (D.bl true)) te_c te_nil))))) (te_cons (d := (ePl (plT [(⟨(.bl ((true, 1, 1).1)), rfl⟩ : Pd), (⟨(.int ((true, 1, 1).2.1)), rfl⟩ : Pd), (⟨(.int ((true, 1, 1).2.2)), rfl⟩ : Pd)]))) (show TE _ _ _ (ePl (plT [(⟨(.bl ((true, 1, 1).1)), rfl⟩ : Pd), (⟨(.int ((true, 1, 1).2.1)), rfl⟩ : Pd), (⟨(.int ((true, 1, 1).2.2)), rfl⟩ : Pd)])) _ from (te_tup (te_cons (d := (D.bl true)) te_c (te_cons (d := (D.int 1)) te_c (te_cons (d := (D.int 1)) te_c te_nil))))) (te_cons (d := (ePl (plT [(⟨(.int ((j22.1, (), 1).1)), rfl⟩ : Pd), (⟨.non, rfl⟩ : Pd), (⟨(.int ((j22.1, (), 1).2.2)), rfl⟩ : Pd)]))) (show TE _ _ _ (ePl (plT [(⟨(.int ((j22.1, (), 1).1)), rfl⟩ : Pd), (⟨.non, rfl⟩ : Pd), (⟨(.int ((j22.1, (), 1).2.2)), rfl⟩ : Pd)])) _ from (te_tup (te_cons (d := (D.int j22.1)) (te_var (d := (D.int j22.1))) (te_cons (d := D.non) te_c (te_cons (d := (D.int 1)) te_c te_nil))))) (te_cons (d := (ePl (plT [(⟨(.int ((j22.1, ("1" : Str), 1).1)), rfl⟩ : Pd), (⟨(.str ((j22.1, ("1" : Str), 1).2.1)), rfl⟩ : Pd), (⟨(.int ((j22.1, ("1" : Str), 1).2.2)), rfl⟩ : Pd)]))) (show TE _ _ _ (ePl (plT [(⟨(.int ((j22.1, ("1" : Str), 1).1)), rfl⟩ : Pd), (⟨(.str ((j22.1, ("1" : Str), 1).2.1)), rfl⟩ : Pd), (⟨(.int ((j22.1, ("1" : Str), 1).2.2)), rfl⟩ : Pd)])) _ from (te_tup (te_cons (d := (D.int j22.1)) (te_var (d := (D.int j22.1))) (te_cons (d := (D.str ("1" : Str))) te_c (te_cons (d := (D.int 1)) te_c te_nil))))) (te_cons (d := (ePl (plT [(⟨(.int ((j22.1, j22.2, 1, 1).1)), rfl⟩ : Pd), (⟨(.int ((j22.1, j22.2, 1, 1).2.1)), rfl⟩ : Pd), (⟨(.int ((j22.1, j22.2, 1, 1).2.2.1)), rfl⟩ : Pd), (⟨(.int ((j22.1, j22.2, 1, 1).2.2.2)), rfl⟩ : Pd)]))) (show TE _ _ _ (ePl (plT [(⟨(.int ((j22.1, j22.2, 1, 1).1)), rfl⟩ : Pd), (⟨(.int ((j22.1, j22.2, 1, 1).2.1)), rfl⟩ : Pd), (⟨(.int ((j22.1, j22.2, 1, 1).2.2.1)), rfl⟩ : Pd), (⟨(.int ((j22.1, j22.2, 1, 1).2.2.2)), rfl⟩ : Pd)])) _ from (te_tup (te_cons (d := (D.int j22.1)) (te_var (d := (D.int j22.1))) (te_cons (d := (D.int j22.2)) (te_var (d := (D.int j22.2))) (te_cons (d := (D.int 1)) te_c (te_cons (d := (D.int 1)) te_c te_nil)))))) te_nil)))))) (fun Ω => o_cat h27 Ω))) ?_
  obtain ⟨x28, h29, hr⟩ := bE hr
  refine tr_seq (tb_set (d := (eL ePl x28)) (te_bin (z := (eL ePl x28)) (te_var (d := (eL ePl x26))) (te_lst (te_cons (d := (ePl (plT [(⟨(.int ((j22.1, true, 1).1)), rfl⟩ : Pd), (⟨(.bl ((j22.1, true, 1).2.1)), rfl⟩ : Pd), (⟨(.int ((j22.1, true, 1).2.2)), rfl⟩ : Pd)]))) (show TE _ _ _ (ePl (plT [(⟨(.int ((j22.1, true, 1).1)), rfl⟩ : Pd), (⟨(.bl ((j22.1, true, 1).2.1)), rfl⟩ : Pd), (⟨(.int ((j22.1, true, 1).2.2)), rfl⟩ : Pd)])) _ from (te_tup (te_cons (d := (D.int j22.1)) (te_var (d := (D.int j22.1))) (te_cons (d := (D.bl true)) te_c (te_cons (d := (D.int 1)) te_c te_nil))))) (te_cons (d := (ePl (plT [(⟨(.bl ((true, true, 1).1)), rfl⟩ : Pd), (⟨(.bl ((true, true, 1).2.1)), rfl⟩ : Pd), (⟨(.int ((true, true, 1).2.2)), rfl⟩ : Pd)]))) (show TE _ _ _ (ePl (plT [(⟨(.bl ((true, true, 1).1)), rfl⟩ : Pd), (⟨(.bl ((true, true, 1).2.1)), rfl⟩ : Pd), (⟨(.int ((true, true, 1).2.2)), rfl⟩ : Pd)])) _ from (te_tup (te_cons (d := (D.bl true)) te_c (te_cons (d := (D.bl true)) te_c (te_cons (d := (D.int 1)) te_c te_nil))))) te_nil))) (fun Ω => o_cat h29 Ω))) ?_
  obtain ⟨j38, h39, hr⟩ := bE hr
  refine tr_seq (P1 := [.pl (.ref n), .pl (eL stD v_rows), .pl (D.int x1), .pl (D.int j22.1), .pl (D.int j22.2), .pl (D.int 0), .pl (eL ePl j38)]) (A1 := pA A n q2) ?_ ?_
  · have hr := h39
    obtain ⟨c30, h31, hr⟩ := bE hr
    cases c30 with
    | true =>
      rw [ifO_t] at hr
      refine tb_ifT (te_castS h31 (tt_val (b := decide (0 < x1)) (te_bin (z := D.bl (decide (0 < x1))) (te_var (d := (D.int x1))) te_c))) ?_
      obtain ⟨x32, h33, hr⟩ := bE hr
      obtain ⟨x34, h35, hr⟩ := bE hr
      obtain ⟨x36, h37, hr⟩ := bE hr
      obtain hs := Option.some.inj hr
      subst hs
      exact tb_weak (tb_set (d := (eL ePl x36)) (te_bin (z := (eL ePl x36)) (te_var (d := (eL ePl x28))) (te_bin (z := (eL ePl x34)) (te_lst (te_cons (d := (ePl (plT [(⟨(.int (((j22.1 - 1), j22.2, 1).1)), rfl⟩ : Pd), (⟨(.int (((j22.1 - 1), j22.2, 1).2.1)), rfl⟩ : Pd), (⟨(.int (((j22.1 - 1), j22.2, 1).2.2)), rfl⟩ : Pd)]))) (show TE _ _ _ (ePl (plT [(⟨(.int (((j22.1 - 1), j22.2, 1).1)), rfl⟩ : Pd), (⟨(.int (((j22.1 - 1), j22.2, 1).2.1)), rfl⟩ : Pd), (⟨(.int (((j22.1 - 1), j22.2, 1).2.2)), rfl⟩ : Pd)])) _ from (te_tup (te_cons (d := (D.int (j22.1 - 1))) (te_bin (z := D.int (j22.1 - 1)) (te_var (d := (D.int j22.1))) te_c) (te_cons (d := (D.int j22.2)) (te_var (d := (D.int j22.2))) (te_cons (d := (D.int 1)) te_c te_nil))))) (te_cons (d := (ePl (plT [(⟨(.int ((j22.1, (j22.2 - 1), 1).1)), rfl⟩ : Pd), (⟨(.int ((j22.1, (j22.2 - 1), 1).2.1)), rfl⟩ : Pd), (⟨(.int ((j22.1, (j22.2 - 1), 1).2.2)), rfl⟩ : Pd)]))) (show TE _ _ _ (ePl (plT [(⟨(.int ((j22.1, (j22.2 - 1), 1).1)), rfl⟩ : Pd), (⟨(.int ((j22.1, (j22.2 - 1), 1).2.1)), rfl⟩ : Pd), (⟨(.int ((j22.1, (j22.2 - 1), 1).2.2)), rfl⟩ : Pd)])) _ from (te_tup (te_cons (d := (D.int j22.1)) (te_var (d := (D.int j22.1))) (te_cons (d := (D.int (j22.2 - 1))) (te_bin (z := D.int (j22.2 - 1)) (te_var (d := (D.int j22.2))) te_c) (te_cons (d := (D.int 1)) te_c te_nil))))) (te_cons (d := (ePl (plT [(⟨(.int ((x32.1, (j22.2 + 5), 9).1)), rfl⟩ : Pd), (⟨(.int ((x32.1, (j22.2 + 5), 9).2.1)), rfl⟩ : Pd), (⟨(.int ((x32.1, (j22.2 + 5), 9).2.2)), rfl⟩ : Pd)]))) (show TE _ _ _ (ePl (plT [(⟨(.int ((x32.1, (j22.2 + 5), 9).1)), rfl⟩ : Pd), (⟨(.int ((x32.1, (j22.2 + 5), 9).2.1)), rfl⟩ : Pd), (⟨(.int ((x32.1, (j22.2 + 5), 9).2.2)), rfl⟩ : Pd)])) _ from (te_tup (te_cons (d := (D.int x32.1)) (te_bin (x := (stD x32)) (z := (D.int x32.1)) (te_bin (x := (eL stD v_rows)) (z := (stD x32)) (te_var (d := (eL stD v_rows))) (te_bin (z := D.int (x1 - 1)) (te_var (d := (D.int x1))) te_c) (fun Ω => o_ixL (e := stD) h33 Ω)) te_c) (te_cons (d := (D.int (j22.2 + 5))) (te_bin (z := D.int (j22.2 + 5)) (te_var (d := (D.int j22.2))) te_c) (te_cons (d := (D.int 9)) te_c te_nil))))) te_nil)))) te_c (fun Ω => o_repL (e := ePl) h35 Ω)) (fun Ω => o_cat h37 Ω))) (by repeat (first | exact Pw.nil | apply Pw.same | apply Pw.un))
    | false =>
      rw [ifO_f] at hr
      refine tb_ifF (te_castS h31 (tt_val (b := decide (0 < x1)) (te_bin (z := D.bl (decide (0 < x1))) (te_var (d := (D.int x1))) te_c))) ?_
      obtain hs := Option.some.inj hr
      subst hs
      exact tb_weak tb_skip (by repeat (first | exact Pw.nil | apply Pw.same | apply Pw.un))
  obtain ⟨x40, q41, h42, hr⟩ := b2E hr
  obtain ⟨x43, h44, hr⟩ := bE hr
  obtain ⟨x45, h46, hr⟩ := bE hr
  obtain ⟨hs, hq⟩ := Prod.mk.inj (Option.some.inj hr)
  subst hs
  subst hq
  exact tr_ret (te_tup (te_cons (d := (eL ePl x45)) (te_bin (z := (eL ePl x45)) (te_bin (z := (eL ePl x43)) (te_plM (te_sl (e := stD) (xs := v_rows) (te_var (d := (eL stD v_rows))) to_no (to_pt (te_var (d := (D.int x1)))))) (te_lst (te_cons (d := (ePl x40)) (te_callP hn (te_cons (d := (D.ref n)) (te_var (d := D.ref n)) (te_cons (d := (eL ePl j38)) (te_var (d := (eL ePl j38))) te_nil)) (w_law_pick pu_Pl h42)) te_nil)) (fun Ω => o_cat h44 Ω)) (te_plM (te_sl (e := stD) (xs := v_rows) (te_var (d := (eL stD v_rows))) (to_pt (te_var (d := (D.int x1)))) to_no)) (fun Ω => o_cat h46 Ω)) (te_cons (d := (D.int x1)) (te_var (d := (D.int x1))) te_nil)))
theorem w_law_steps_right {q0 q9 : Pot} {rr : Bool} {n : Nat} (hr : t_law_steps_right  q0 = some (rr, q9)) : SpP F_law_steps_right [.ref n] n q0 (D.bl rr) q9 := by
  refine fn_P rfl fun A hn => ?_
  unfold t_law_steps_right at hr
  unfold b_law_steps_right
  obtain ⟨x1, q2, h3, hr⟩ := b2E hr
  obtain ⟨x4, q5, h6, hr⟩ := b2E hr
  obtain ⟨x7, h8, hr⟩ := bE hr
  refine tr_seq (tb_set (d := (eL stD x7)) (te_bin (z := (eL stD x7)) (te_callP hn (te_cons (d := (D.ref n)) (te_var (d := D.ref n)) (te_cons (d := (D.int 5)) te_c te_nil)) (w_law_steps h3)) (te_lst (te_cons (d := (stD (90, 80, (1 + x4)))) (te_tup (te_cons (d := (D.int 90)) te_c (te_cons (d := (D.int 80)) te_c (te_cons (d := (D.int (1 + x4))) (te_bin (z := D.int (1 + x4)) te_c (te_callP hn (te_cons (d := (D.ref n)) (te_var (d := D.ref n)) (te_cons (d := (D.int 3)) te_c te_nil)) (w_law_draw h6))) te_nil)))) te_nil)) (fun Ω => o_cat h8 Ω))) ?_
  obtain ⟨x9, q10, h11, hr⟩ := b2E hr
  refine tr_seq (tb_asg (d := (e2 (eL ePl) D.int x9)) (te_callP hn (te_cons (d := (D.ref n)) (te_var (d := D.ref n)) (te_cons (d := (eL stD x7)) (te_var (d := (eL stD x7))) te_nil)) (w_law_wrong h11)) (tg_t (tgs_cons tg_n (tgs_cons tg_n tgs_nil)))) ?_
  obtain ⟨x12, q13, h14, hr⟩ := b2E hr
  obtain ⟨x15, h16, hr⟩ := bE hr
  refine tr_seq (tb_set (d := (eL ePl x15)) (te_bin (z := (eL ePl x15)) (te_var (d := (eL ePl x9.1))) (te_lst (te_cons (d := (ePl x12)) (te_callP hn (te_cons (d := (D.ref n)) (te_var (d := D.ref n)) (te_cons (d := (eL ePl ([(⟨.non, rfl⟩ : Pd), (⟨(.tup []), rfl⟩ : Pd), (plT [(⟨(.int ((0, 0, 0).1)), rfl⟩ : Pd), (⟨(.int ((0, 0, 0).2.1)), rfl⟩ : Pd), (⟨(.int ((0, 0, 0).2.2)), rfl⟩ : Pd)]), (⟨(.str ("x" : Str)), rfl⟩ : Pd)]))) (te_lst (te_cons (d := (ePl (⟨.non, rfl⟩ : Pd))) (show TE _ _ _ (ePl (⟨.non, rfl⟩ : Pd)) _ from te_c) (te_cons (d := (ePl (⟨(.tup []), rfl⟩ : Pd))) (show TE _ _ _ (ePl (⟨(.tup []), rfl⟩ : Pd)) _ from (te_tup te_nil)) (te_cons (d := (ePl (plT [(⟨(.int ((0, 0, 0).1)), rfl⟩ : Pd), (⟨(.int ((0, 0, 0).2.1)), rfl⟩ : Pd), (⟨(.int ((0, 0, 0).2.2)), rfl⟩ : Pd)]))) (show TE _ _ _ (ePl (plT [(⟨(.int ((0, 0, 0).1)), rfl⟩ : Pd), (⟨(.int ((0, 0, 0).2.1)), rfl⟩ : Pd), (⟨(.int ((0, 0, 0).2.2)), rfl⟩ : Pd)])) _ from (te_tup (te_cons (d := (D.int 0)) te_c (te_cons (d := (D.int 0)) te_c (te_cons (d := (D.int 0)) te_c te_nil))))) (te_cons (d := (ePl (⟨(.str ("x" : Str)), rfl⟩ : Pd))) (show TE _ _ _ (ePl (⟨(.str ("x" : Str)), rfl⟩ : Pd)) _ from te_c) te_nil))))) te_nil)) (w_law_pick pu_Pl h14)) te_nil)) (fun Ω => o_cat h16 Ω))) ?_
  obtain ⟨x17, h18, hr⟩ := bE hr
  obtain ⟨x19, h20, hr⟩ := bE hr
  obtain ⟨x21, q22, h23, hr⟩ := b2E hr
  refine tr_seq (tb_set (d := (ePl x21)) (te_callP hn (te_cons (d := (D.ref n)) (te_var (d := D.ref n)) (te_cons (d := (eL ePl ([(⟨.non, rfl⟩ : Pd), (⟨(.int 0), rfl⟩ : Pd), (⟨(.int 7), rfl⟩ : Pd), (⟨(.bl true), rfl⟩ : Pd), (⟨(.str ("" : Str)), rfl⟩ : Pd), (⟨(.str ("abc" : Str)), rfl⟩ : Pd), (⟨(.dct []), rfl⟩ : Pd), (⟨.dcT [([.inl 0, .inl 0, .inl 1], .int 1)], rfl⟩ : Pd), (⟨(e_Stair x17), pu_Stair x17⟩ : Pd), (⟨(e_Stair x19), pu_Stair x19⟩ : Pd)]))) (te_lst (te_cons (d := (ePl (⟨.non, rfl⟩ : Pd))) (show TE _ _ _ (ePl (⟨.non, rfl⟩ : Pd)) _ from te_c) (te_cons (d := (ePl (⟨(.int 0), rfl⟩ : Pd))) (show TE _ _ _ (ePl (⟨(.int 0), rfl⟩ : Pd)) _ from te_c) (te_cons (d := (ePl (⟨(.int 7), rfl⟩ : Pd))) (show TE _ _ _ (ePl (⟨(.int 7), rfl⟩ : Pd)) _ from te_c) (te_cons (d := (ePl (⟨(.bl true), rfl⟩ : Pd))) (show TE _ _ _ (ePl (⟨(.bl true), rfl⟩ : Pd)) _ from te_c) (te_cons (d := (ePl (⟨(.str ("" : Str)), rfl⟩ : Pd))) (show TE _ _ _ (ePl (⟨(.str ("" : Str)), rfl⟩ : Pd)) _ from te_c) (te_cons (d := (ePl (⟨(.str ("abc" : Str)), rfl⟩ : Pd))) (show TE _ _ _ (ePl (⟨(.str ("abc" : Str)), rfl⟩ : Pd)) _ from te_c) (te_cons (d := (ePl (⟨(.dct []), rfl⟩ : Pd))) (show TE _ _ _ (ePl (⟨(.dct []), rfl⟩ : Pd)) _ from te_c) (te_cons (d := (ePl (⟨.dcT [([.inl 0, .inl 0, .inl 1], .int 1)], rfl⟩ : Pd))) (te_dispT (y := .tup [.int 0, .int 0, .int 1]) (d := .int 1) (ks := [.inl 0, .inl 0, .inl 1]) (te_tup (te_cons te_c (te_cons te_c (te_cons te_c te_nil)))) te_c rfl) (te_cons (d := (ePl (⟨(e_Stair x17), pu_Stair x17⟩ : Pd))) (show TE _ _ _ (ePl (⟨(e_Stair x17), pu_Stair x17⟩ : Pd)) _ from (te_make (te_cons (d := (eL stD x7)) (te_var (d := (eL stD x7))) te_nil) (w_StairD_initD_l h18))) (te_cons (d := (ePl (⟨(e_Stair x19), pu_Stair x19⟩ : Pd))) (show TE _ _ _ (ePl (⟨(e_Stair x19), pu_Stair x19⟩ : Pd)) _ from (te_make (te_cons (d := (eL stD ([] : List (Int × Int × Int)))) (te_lst te_nil) te_nil) (w_StairD_initD_l h20))) te_nil))))))))))) te_nil)) (w_law_pick pu_Pl h23))) ?_
  obtain ⟨x24, h25, hr⟩ := bE hr
  refine tr_seq (tb_newL (te_cons (d := (ePl x24)) (te_hearG (er := ePl) (fun z : D => z) (fun e hx => xe_make (te_cons (d := (eL ePl x9.1)) (te_var (d := (eL ePl x9.1))) te_nil) (wx_mkL hx)) (hearT_nv) hv_law_told hx_law_told h25) te_nil) ((pu_L pu_Pl) ([x24] : List Pd))) ?_
  obtain ⟨x26, h27, hr⟩ := bE hr
  obtain ⟨x28, h29, hr⟩ := bE hr
  refine tr_seq (tb_appT (e := ePl) h29 pu_Pl rfl (te_hearG (er := ePl) (fun z : D => z) (fun e hx => xe_makeK (te_cons (d := (eT ePl x15)) (te_cb (z := (eT ePl x15)) (te_cons (d := (eL ePl x15)) (te_var (d := (eL ePl x15))) te_nil) (fun Ω => o_tupL (e := ePl) Ω)) te_nil) (wx_mkT hx)) (hearT_nv) hv_law_told hx_law_told h27)) ?_
  obtain ⟨x30, h31, hr⟩ := bE hr
  obtain ⟨x32, h33, hr⟩ := bE hr
  refine tr_seq (tb_appT (e := ePl) h33 pu_Pl rfl (te_hearG (er := ePl) (fun z : D => z) (fun e hx => xe_make (te_cons (d := (ePl x21)) (te_var (d := (ePl x21))) te_nil) (wx_mkO hx)) (hearT_nv) hv_law_told hx_law_told h31)) ?_
  obtain ⟨x34, h35, hr⟩ := bE hr
  obtain ⟨x36, h37, hr⟩ := bE hr
  refine tr_seq (tb_appT (e := ePl) h37 pu_Pl rfl (te_hearG (er := ePl) e_Stair (hearT_no) (fun e hv => te_make (te_cons (d := (eL stD x7)) (te_var (d := (eL stD x7))) te_nil) (w_StairD_initD_l hv)) hv_law_told hx_law_told h35)) ?_
  obtain ⟨x38, h39, hr⟩ := bE hr
  obtain ⟨x40, h41, hr⟩ := bE hr
  obtain ⟨x42, h43, hr⟩ := bE hr
  obtain ⟨x44, h45, hr⟩ := bE hr
  obtain ⟨x46, h47, hr⟩ := bE hr
  obtain ⟨hs, hq⟩ := Prod.mk.inj (Option.some.inj hr)
  subst hs
  subst hq
  exact tr_ret (te_owL (i := 6) (z := D.bl x46) rfl (te_bin (z := (eL ePl x44)) (te_bin (z := (eL ePl x40)) (te_lst (te_cons (d := (ePl x38)) (te_call0 (te_cons (d := (D.str ("steps" : Str))) te_c (te_cons (d := (ePl (⟨(.int x9.2), rfl⟩ : Pd))) (show TE _ _ _ (ePl (⟨(.int x9.2), rfl⟩ : Pd)) _ from (te_var (d := (D.int x9.2)))) te_nil)) (w_law_due h39)) te_nil)) te_c (fun Ω => o_repL (e := ePl) h41 Ω)) (te_lst (te_cons (d := (ePl x42)) (te_call0 (te_cons (d := (D.str ("steps" : Str))) te_c (te_cons (d := (ePl (⟨.non, rfl⟩ : Pd))) (show TE _ _ _ (ePl (⟨.non, rfl⟩ : Pd)) _ from te_c) te_nil)) (w_law_due h43)) (te_cons (d := (ePl (⟨(eL ePl ([(⟨(.str ("told" : Str)), rfl⟩ : Pd)])), (pu_L pu_Pl) ([(⟨(.str ("told" : Str)), rfl⟩ : Pd)])⟩ : Pd))) (show TE _ _ _ (ePl (⟨(eL ePl ([(⟨(.str ("told" : Str)), rfl⟩ : Pd)])), (pu_L pu_Pl) ([(⟨(.str ("told" : Str)), rfl⟩ : Pd)])⟩ : Pd)) _ from (te_lst (te_cons (d := (ePl (⟨(.str ("told" : Str)), rfl⟩ : Pd))) (show TE _ _ _ (ePl (⟨(.str ("told" : Str)), rfl⟩ : Pd)) _ from te_c) te_nil))) te_nil))) (fun Ω => o_cat h45 Ω)) (fun Ω n hn => w_eqPl h47 Ω n hn))
theorem w_law_many_right {q0 q9 : Pot} {rr : Bool} {n : Nat} (hr : t_law_many_right  q0 = some (rr, q9)) : SpP F_law_many_right [.ref n] n q0 (D.bl rr) q9 := by
  refine fn_P rfl fun A hn => ?_
  unfold t_law_many_right at hr
  unfold b_law_many_right
  obtain ⟨x1, q2, h3, hr⟩ := b2E hr
  refine tr_seq (tb_set (d := (D.int x1)) (te_callP hn (te_cons (d := (D.ref n)) (te_var (d := D.ref n)) (te_cons (d := (D.int 2)) te_c te_nil)) (w_law_draw h3))) ?_
  obtain ⟨x4, h5, hr⟩ := bE hr
  obtain ⟨x9, h10, hr⟩ := bE hr
  refine tr_seq (tb_set (d := (eL stD x9)) (te_lcO (e := D.int) (ey := stD) (vs := [5]) h10 (ti_r1 h5 (te_cons (d := (D.int 60)) te_c te_nil)) (by intro ev6 yy hh; exact ⟨_, tgt_nm, (by obtain ⟨x7, h8, hh⟩ := bE hh; obtain hs := Option.some.inj hh; subst hs; exact .inr ⟨_, rfl, te_c, (te_tup (te_cons (d := (D.int x7)) (te_bin (z := D.int x7) (te_bin (z := D.int (1 + x1)) te_c (te_var (d := (D.int x1)))) (te_var (d := (D.int ev6))) (fun Ω => o_mul h8 Ω)) (te_cons (d := (D.int ev6)) (te_var (d := (D.int ev6))) (te_cons (d := (D.int 1)) te_c te_nil))))⟩)⟩))) ?_
  obtain ⟨x11, h12, hr⟩ := bE hr
  obtain ⟨x13, h14, hr⟩ := bE hr
  refine tr_seq (tb_set (d := (eL stD x13)) (te_bin (z := (eL stD x13)) (te_var (d := (eL stD x9))) (te_lst (te_cons (d := (stD (x11, 60, 1))) (te_tup (te_cons (d := (D.int x11)) (te_bin (z := D.int x11) (te_bin (z := D.int (1 + x1)) te_c (te_var (d := (D.int x1)))) te_c (fun Ω => o_mul h12 Ω)) (te_cons (d := (D.int 60)) te_c (te_cons (d := (D.int 1)) te_c te_nil)))) te_nil)) (fun Ω => o_cat h14 Ω))) ?_
  obtain ⟨x15, h16, hr⟩ := bE hr
  refine tr_seq (tb_newL (te_cons (d := (ePl x15)) (te_hearG (er := ePl) e_Stair (hearT_no) (fun e hv => te_make (te_cons (d := (eL stD x9)) (te_var (d := (eL stD x9))) te_nil) (w_StairD_initD_l hv)) hv_law_told hx_law_told h16) te_nil) ((pu_L pu_Pl) ([x15] : List Pd))) ?_
  obtain ⟨x17, h18, hr⟩ := bE hr
  obtain ⟨x19, h20, hr⟩ := bE hr
  refine tr_seq (tb_appT (e := ePl) h20 pu_Pl rfl (te_hearG (er := ePl) (fun z : D => z) (fun e hx => xe_make (te_cons (d := (eL ePl (plM pu_st x13))) (te_plM (te_var (d := (eL stD x13)))) te_nil) (wx_mkL hx)) (hearT_nv) hv_law_told hx_law_told h18)) ?_
  obtain ⟨x23, h24, hr⟩ := bE hr
  obtain ⟨x25, h26, hr⟩ := bE hr
  refine tr_seq (tb_appT (e := ePl) h26 pu_Pl rfl (te_hearG (er := ePl) (fun z : D => z) (fun e hx => by obtain ⟨x21, h22, hx⟩ := bE hx; exact xe_make (te_cons (d := (eL ePl (plM pu_st x21))) (te_plM (te_bin (z := (eL stD x21)) (te_var (d := (eL stD x13))) (te_lst (te_cons (d := (stD (0, 0, 1))) (te_tup (te_cons (d := (D.int 0)) te_c (te_cons (d := (D.int 0)) te_c (te_cons (d := (D.int 1)) te_c te_nil)))) te_nil)) (fun Ω => o_cat h22 Ω))) te_nil) (wx_mkL hx)) (hearT_nv) hv_law_told hx_law_told h24)) ?_
  obtain ⟨x27, h28, hr⟩ := bE hr
  obtain ⟨hs, hq⟩ := Prod.mk.inj (Option.some.inj hr)
  subst hs
  subst hq
  exact tr_ret (te_owL (i := 4) (z := D.bl x27) rfl (te_lst (te_cons (d := (ePl (⟨(eL ePl ([(⟨(.str ("told" : Str)), rfl⟩ : Pd)])), (pu_L pu_Pl) ([(⟨(.str ("told" : Str)), rfl⟩ : Pd)])⟩ : Pd))) (show TE _ _ _ (ePl (⟨(eL ePl ([(⟨(.str ("told" : Str)), rfl⟩ : Pd)])), (pu_L pu_Pl) ([(⟨(.str ("told" : Str)), rfl⟩ : Pd)])⟩ : Pd)) _ from (te_lst (te_cons (d := (ePl (⟨(.str ("told" : Str)), rfl⟩ : Pd))) (show TE _ _ _ (ePl (⟨(.str ("told" : Str)), rfl⟩ : Pd)) _ from te_c) te_nil))) (te_cons (d := (ePl (⟨(eL ePl ([(⟨(.str ("steps" : Str)), rfl⟩ : Pd), (⟨(.str ("60" : Str)), rfl⟩ : Pd), (⟨(.bl true), rfl⟩ : Pd)])), (pu_L pu_Pl) ([(⟨(.str ("steps" : Str)), rfl⟩ : Pd), (⟨(.str ("60" : Str)), rfl⟩ : Pd), (⟨(.bl true), rfl⟩ : Pd)])⟩ : Pd))) (show TE _ _ _ (ePl (⟨(eL ePl ([(⟨(.str ("steps" : Str)), rfl⟩ : Pd), (⟨(.str ("60" : Str)), rfl⟩ : Pd), (⟨(.bl true), rfl⟩ : Pd)])), (pu_L pu_Pl) ([(⟨(.str ("steps" : Str)), rfl⟩ : Pd), (⟨(.str ("60" : Str)), rfl⟩ : Pd), (⟨(.bl true), rfl⟩ : Pd)])⟩ : Pd)) _ from (te_lst (te_cons (d := (ePl (⟨(.str ("steps" : Str)), rfl⟩ : Pd))) (show TE _ _ _ (ePl (⟨(.str ("steps" : Str)), rfl⟩ : Pd)) _ from te_c) (te_cons (d := (ePl (⟨(.str ("60" : Str)), rfl⟩ : Pd))) (show TE _ _ _ (ePl (⟨(.str ("60" : Str)), rfl⟩ : Pd)) _ from te_c) (te_cons (d := (ePl (⟨(.bl true), rfl⟩ : Pd))) (show TE _ _ _ (ePl (⟨(.bl true), rfl⟩ : Pd)) _ from te_c) te_nil))))) (te_cons (d := (ePl (⟨(eL ePl ([(⟨(.str ("steps" : Str)), rfl⟩ : Pd), (⟨(.str ("61" : Str)), rfl⟩ : Pd), (⟨(.bl true), rfl⟩ : Pd)])), (pu_L pu_Pl) ([(⟨(.str ("steps" : Str)), rfl⟩ : Pd), (⟨(.str ("61" : Str)), rfl⟩ : Pd), (⟨(.bl true), rfl⟩ : Pd)])⟩ : Pd))) (show TE _ _ _ (ePl (⟨(eL ePl ([(⟨(.str ("steps" : Str)), rfl⟩ : Pd), (⟨(.str ("61" : Str)), rfl⟩ : Pd), (⟨(.bl true), rfl⟩ : Pd)])), (pu_L pu_Pl) ([(⟨(.str ("steps" : Str)), rfl⟩ : Pd), (⟨(.str ("61" : Str)), rfl⟩ : Pd), (⟨(.bl true), rfl⟩ : Pd)])⟩ : Pd)) _ from (te_lst (te_cons (d := (ePl (⟨(.str ("steps" : Str)), rfl⟩ : Pd))) (show TE _ _ _ (ePl (⟨(.str ("steps" : Str)), rfl⟩ : Pd)) _ from te_c) (te_cons (d := (ePl (⟨(.str ("61" : Str)), rfl⟩ : Pd))) (show TE _ _ _ (ePl (⟨(.str ("61" : Str)), rfl⟩ : Pd)) _ from te_c) (te_cons (d := (ePl (⟨(.bl true), rfl⟩ : Pd))) (show TE _ _ _ (ePl (⟨(.bl true), rfl⟩ : Pd)) _ from te_c) te_nil))))) te_nil)))) (fun Ω n hn => w_eqPl h28 Ω n hn))
theorem w_law_marks_right {v_made : List (Int × Int × Int)} {q0 q9 : Pot} {rr : Bool} {n : Nat} (hr : t_law_marks_right v_made q0 = some (rr, q9)) : SpP F_law_marks_right [.ref n, (e_Stair v_made)] n q0 (D.bl rr) q9 := by
  refine fn_P rfl fun A hn => ?_
  unfold t_law_marks_right at hr
  unfold b_law_marks_right
  obtain ⟨x1, q2, h3, hr⟩ := b2E hr
  refine tr_seq (tb_set (d := (ePl x1)) (te_callP hn (te_cons (d := (D.ref n)) (te_var (d := D.ref n)) (te_cons (d := (eL ePl ([(⟨.non, rfl⟩ : Pd), (⟨(.bl true), rfl⟩ : Pd), (⟨(.bl false), rfl⟩ : Pd), (⟨(.str ("1" : Str)), rfl⟩ : Pd), (⟨(.str ("" : Str)), rfl⟩ : Pd), (plT [(⟨(.int (1)), rfl⟩ : Pd)]), (⟨(eL ePl ([(⟨(.int 1), rfl⟩ : Pd)])), (pu_L pu_Pl) ([(⟨(.int 1), rfl⟩ : Pd)])⟩ : Pd), (⟨(.dct []), rfl⟩ : Pd)]))) (te_lst (te_cons (d := (ePl (⟨.non, rfl⟩ : Pd))) (show TE _ _ _ (ePl (⟨.non, rfl⟩ : Pd)) _ from te_c) (te_cons (d := (ePl (⟨(.bl true), rfl⟩ : Pd))) (show TE _ _ _ (ePl (⟨(.bl true), rfl⟩ : Pd)) _ from te_c) (te_cons (d := (ePl (⟨(.bl false), rfl⟩ : Pd))) (show TE _ _ _ (ePl (⟨(.bl false), rfl⟩ : Pd)) _ from te_c) (te_cons (d := (ePl (⟨(.str ("1" : Str)), rfl⟩ : Pd))) (show TE _ _ _ (ePl (⟨(.str ("1" : Str)), rfl⟩ : Pd)) _ from te_c) (te_cons (d := (ePl (⟨(.str ("" : Str)), rfl⟩ : Pd))) (show TE _ _ _ (ePl (⟨(.str ("" : Str)), rfl⟩ : Pd)) _ from te_c) (te_cons (d := (ePl (plT [(⟨(.int (1)), rfl⟩ : Pd)]))) (show TE _ _ _ (ePl (plT [(⟨(.int (1)), rfl⟩ : Pd)])) _ from (te_tup (te_cons (d := (D.int 1)) te_c te_nil))) (te_cons (d := (ePl (⟨(eL ePl ([(⟨(.int 1), rfl⟩ : Pd)])), (pu_L pu_Pl) ([(⟨(.int 1), rfl⟩ : Pd)])⟩ : Pd))) (show TE _ _ _ (ePl (⟨(eL ePl ([(⟨(.int 1), rfl⟩ : Pd)])), (pu_L pu_Pl) ([(⟨(.int 1), rfl⟩ : Pd)])⟩ : Pd)) _ from (te_lst (te_cons (d := (ePl (⟨(.int 1), rfl⟩ : Pd))) (show TE _ _ _ (ePl (⟨(.int 1), rfl⟩ : Pd)) _ from te_c) te_nil))) (te_cons (d := (ePl (⟨(.dct []), rfl⟩ : Pd))) (show TE _ _ _ (ePl (⟨(.dct []), rfl⟩ : Pd)) _ from te_c) te_nil))))))))) te_nil)) (w_law_pick pu_Pl h3))) ?_
  obtain ⟨x4, h5, hr⟩ := bE hr
  obtain ⟨x6, q7, h8, hr⟩ := b2E hr
  refine tr_seq (tb_set (d := (ePl x6)) (te_callP hn (te_cons (d := (D.ref n)) (te_var (d := D.ref n)) (te_cons (d := (eL ePl ([(⟨(.int 0), rfl⟩ : Pd), (⟨(.int (-1)), rfl⟩ : Pd), (⟨(.bl true), rfl⟩ : Pd), (⟨.non, rfl⟩ : Pd), (⟨(.str ("3" : Str)), rfl⟩ : Pd), (plT [(⟨(.int (2)), rfl⟩ : Pd)]), (⟨(.int (-x4)), rfl⟩ : Pd)]))) (te_lst (te_cons (d := (ePl (⟨(.int 0), rfl⟩ : Pd))) (show TE _ _ _ (ePl (⟨(.int 0), rfl⟩ : Pd)) _ from te_c) (te_cons (d := (ePl (⟨(.int (-1)), rfl⟩ : Pd))) (show TE _ _ _ (ePl (⟨(.int (-1)), rfl⟩ : Pd)) _ from (te_un (z := D.int (-1)) te_c)) (te_cons (d := (ePl (⟨(.bl true), rfl⟩ : Pd))) (show TE _ _ _ (ePl (⟨(.bl true), rfl⟩ : Pd)) _ from te_c) (te_cons (d := (ePl (⟨.non, rfl⟩ : Pd))) (show TE _ _ _ (ePl (⟨.non, rfl⟩ : Pd)) _ from te_c) (te_cons (d := (ePl (⟨(.str ("3" : Str)), rfl⟩ : Pd))) (show TE _ _ _ (ePl (⟨(.str ("3" : Str)), rfl⟩ : Pd)) _ from te_c) (te_cons (d := (ePl (plT [(⟨(.int (2)), rfl⟩ : Pd)]))) (show TE _ _ _ (ePl (plT [(⟨(.int (2)), rfl⟩ : Pd)])) _ from (te_tup (te_cons (d := (D.int 2)) te_c te_nil))) (te_cons (d := (ePl (⟨(.int (-x4)), rfl⟩ : Pd))) (show TE _ _ _ (ePl (⟨(.int (-x4)), rfl⟩ : Pd)) _ from (te_un (z := D.int (-x4)) (te_bin (z := D.int x4) te_c te_c (fun Ω => o_pow h5 Ω)))) te_nil)))))))) te_nil)) (w_law_pick pu_Pl h8))) ?_
  obtain ⟨x9, q10, h11, hr⟩ := b2E hr
  obtain ⟨x12, q13, h14, hr⟩ := b2E hr
  refine tr_seq (tb_asg (d := (prD ((x9 - 9), (x12 - 9)))) (te_tup (te_cons (d := (D.int (x9 - 9))) (te_bin (z := D.int (x9 - 9)) (te_callP hn (te_cons (d := (D.ref n)) (te_var (d := D.ref n)) (te_cons (d := (D.int 40)) te_c te_nil)) (w_law_draw h11)) te_c) (te_cons (d := (D.int (x12 - 9))) (te_bin (z := D.int (x12 - 9)) (te_callP hn (te_cons (d := (D.ref n)) (te_var (d := D.ref n)) (te_cons (d := (D.int 40)) te_c te_nil)) (w_law_draw h14)) te_c) te_nil))) (tg_t (tgs_cons tg_n (tgs_cons tg_n tgs_nil)))) ?_
  obtain ⟨x15, h16, hr⟩ := bE hr
  refine tr_seq (tb_newL (te_cons (d := (ePl x15)) (te_hearG (er := ePl) (fun z : D => z) (fun e hx => xe_callO (te_var (d := (e_Stair v_made))) (te_var (d := (ePl x1))) (wx_call hx)) (hearT_nv) hv_law_told hx_law_told h16) te_nil) ((pu_L pu_Pl) ([x15] : List Pd))) ?_
  obtain ⟨x17, h18, hr⟩ := bE hr
  obtain ⟨x19, h20, hr⟩ := bE hr
  refine tr_seq (tb_appT (e := ePl) h20 pu_Pl rfl (te_hearG (er := ePl) (fun z : D => z) (fun e hx => xe_cmeth (te_cons (d := (ePl x1)) (te_var (d := (ePl x1))) (te_cons (d := (ePl x6)) (te_var (d := (ePl x6))) te_nil)) (wx_stay hx)) (hearT_nv) hv_law_told hx_law_told h18)) ?_
  obtain ⟨x21, h22, hr⟩ := bE hr
  obtain ⟨x23, h24, hr⟩ := bE hr
  refine tr_seq (tb_appT (e := ePl) h24 pu_Pl rfl (te_hearG (er := ePl) (fun z : D => z) (fun e hx => xe_cmeth (te_cons (d := (ePl (⟨(.int 3), rfl⟩ : Pd))) (show TE _ _ _ (ePl (⟨(.int 3), rfl⟩ : Pd)) _ from te_c) (te_cons (d := (ePl x6)) (te_var (d := (ePl x6))) te_nil)) (wx_stay hx)) (hearT_nv) hv_law_told hx_law_told h22)) ?_
  obtain ⟨x27, h28, hr⟩ := bE hr
  obtain ⟨x29, h30, hr⟩ := bE hr
  refine tr_seq (tb_appT (e := ePl) h30 pu_Pl rfl (te_hearG (er := ePl) e_Stair (hearT_no) (fun a hv => by obtain ⟨x25, h26, hv⟩ := bE hv; cases hv; exact (te_cmethK (te_cons (d := (D.int 1)) te_c (te_cons (d := (D.int (x9 - 9))) (te_var (d := (D.int (x9 - 9)))) te_nil)) (w_Stair_stay h26))) hv_law_told hx_law_told h28)) ?_
  obtain ⟨x31, h32, hr⟩ := bE hr
  obtain ⟨x33, h34, hr⟩ := bE hr
  obtain ⟨x35, h36, hr⟩ := bE hr
  obtain ⟨x37, h38, hr⟩ := bE hr
  refine tr_seq (tb_set (d := (eL ePl x37)) (te_bin (z := (eL ePl x37)) (te_bin (z := (eL ePl x33)) (te_lst (te_cons (d := (ePl x31)) (te_call0 (te_cons (d := (D.str ("mark" : Str))) te_c (te_cons (d := (ePl x1)) (te_var (d := (ePl x1))) te_nil)) (w_law_due h32)) te_nil)) te_c (fun Ω => o_repL (e := ePl) h34 Ω)) (te_lst (te_cons (d := (ePl x35)) (te_call0 (te_cons (d := (D.str ("length" : Str))) te_c (te_cons (d := (ePl x6)) (te_var (d := (ePl x6))) te_nil)) (w_law_due h36)) (te_cons (d := (ePl (⟨(eL ePl ([(⟨(.str ("told" : Str)), rfl⟩ : Pd)])), (pu_L pu_Pl) ([(⟨(.str ("told" : Str)), rfl⟩ : Pd)])⟩ : Pd))) (show TE _ _ _ (ePl (⟨(eL ePl ([(⟨(.str ("told" : Str)), rfl⟩ : Pd)])), (pu_L pu_Pl) ([(⟨(.str ("told" : Str)), rfl⟩ : Pd)])⟩ : Pd)) _ from (te_lst (te_cons (d := (ePl (⟨(.str ("told" : Str)), rfl⟩ : Pd))) (show TE _ _ _ (ePl (⟨(.str ("told" : Str)), rfl⟩ : Pd)) _ from te_c) te_nil))) te_nil))) (fun Ω => o_cat h38 Ω))) ?_
  obtain ⟨x39, h40, hr⟩ := bE hr
  refine tr_seq (tb_setE (e := (eL (e3 ePl ePl D.int))) h40 (te_lst (te_cons (d := (e3 ePl ePl D.int ((⟨(.int (x9 - 9)), rfl⟩ : Pd), x1, 1))) (te_tup (te_cons (d := (ePl (⟨(.int (x9 - 9)), rfl⟩ : Pd))) (show TE _ _ _ (ePl (⟨(.int (x9 - 9)), rfl⟩ : Pd)) _ from (te_var (d := (D.int (x9 - 9))))) (te_cons (d := (ePl x1)) (te_var (d := (ePl x1))) (te_cons (d := (D.int 1)) te_c te_nil)))) (te_cons (d := (e3 ePl ePl D.int (x1, (⟨(.int (x12 - 9)), rfl⟩ : Pd), 1))) (te_tup (te_cons (d := (ePl x1)) (te_var (d := (ePl x1))) (te_cons (d := (ePl (⟨(.int (x12 - 9)), rfl⟩ : Pd))) (show TE _ _ _ (ePl (⟨(.int (x12 - 9)), rfl⟩ : Pd)) _ from (te_var (d := (D.int (x12 - 9))))) (te_cons (d := (D.int 1)) te_c te_nil)))) (te_cons (d := (e3 ePl ePl D.int ((⟨(.int (x9 - 9)), rfl⟩ : Pd), (⟨(.int (x9 - 9)), rfl⟩ : Pd), 1))) (te_tup (te_cons (d := (ePl (⟨(.int (x9 - 9)), rfl⟩ : Pd))) (show TE _ _ _ (ePl (⟨(.int (x9 - 9)), rfl⟩ : Pd)) _ from (te_var (d := (D.int (x9 - 9))))) (te_cons (d := (ePl (⟨(.int (x9 - 9)), rfl⟩ : Pd))) (show TE _ _ _ (ePl (⟨(.int (x9 - 9)), rfl⟩ : Pd)) _ from (te_var (d := (D.int (x9 - 9))))) (te_cons (d := (D.int 1)) te_c te_nil)))) (te_cons (d := (e3 ePl ePl D.int ((⟨(.int (maxI (x9 - 9) (x12 - 9))), rfl⟩ : Pd), (⟨(.int (minI (x9 - 9) (x12 - 9))), rfl⟩ : Pd), 1))) (te_tup (te_cons (d := (ePl (⟨(.int (maxI (x9 - 9) (x12 - 9))), rfl⟩ : Pd))) (show TE _ _ _ (ePl (⟨(.int (maxI (x9 - 9) (x12 - 9))), rfl⟩ : Pd)) _ from (te_cb (z := (D.int (maxI (x9 - 9) (x12 - 9)))) (te_cons (d := (D.int (x9 - 9))) (te_var (d := (D.int (x9 - 9)))) (te_cons (d := (D.int (x12 - 9))) (te_var (d := (D.int (x12 - 9)))) te_nil)))) (te_cons (d := (ePl (⟨(.int (minI (x9 - 9) (x12 - 9))), rfl⟩ : Pd))) (show TE _ _ _ (ePl (⟨(.int (minI (x9 - 9) (x12 - 9))), rfl⟩ : Pd)) _ from (te_cb (z := (D.int (minI (x9 - 9) (x12 - 9)))) (te_cons (d := (D.int (x9 - 9))) (te_var (d := (D.int (x9 - 9)))) (te_cons (d := (D.int (x12 - 9))) (te_var (d := (D.int (x12 - 9)))) te_nil)))) (te_cons (d := (D.int 1)) te_c te_nil)))) (te_cons (d := (e3 ePl ePl D.int ((⟨(.int (x9 - 9)), rfl⟩ : Pd), (⟨(.bl true), rfl⟩ : Pd), 1))) (te_tup (te_cons (d := (ePl (⟨(.int (x9 - 9)), rfl⟩ : Pd))) (show TE _ _ _ (ePl (⟨(.int (x9 - 9)), rfl⟩ : Pd)) _ from (te_var (d := (D.int (x9 - 9))))) (te_cons (d := (ePl (⟨(.bl true), rfl⟩ : Pd))) (show TE _ _ _ (ePl (⟨(.bl true), rfl⟩ : Pd)) _ from te_c) (te_cons (d := (D.int 1)) te_c te_nil)))) te_nil))))))) ?_
  obtain ⟨x41, h42, hr⟩ := bE hr
  obtain ⟨r65, h66, hr⟩ := bE hr
  refine tr_seq (tb_forM (e := (e3 ePl ePl D.int)) (fun (s43 : (List Pd) × (List Pd)) => [.pl (.ref n), .pl (e_Stair v_made), .pl (ePl x1), .pl (ePl x6), .pl (D.int (x9 - 9)), .pl (D.int (x12 - 9)), .ow (.lst (s43.1.map ePl)), .pl (eL ePl s43.2), .pl (eL (e3 ePl ePl D.int) x39), .un, .un, .un]) (fun (s43 : (List Pd) × (List Pd)) => pA A n q13) h66 (ti_lst (te_bin (z := (eL (e3 ePl ePl D.int) x41)) (te_var (d := (eL (e3 ePl ePl D.int) x39))) (te_lst (te_cons (d := (e3 ePl ePl D.int ((⟨(.int (x9 - 9)), rfl⟩ : Pd), (⟨(.int ((x9 - 9) + 1)), rfl⟩ : Pd), 0))) (te_tup (te_cons (d := (ePl (⟨(.int (x9 - 9)), rfl⟩ : Pd))) (show TE _ _ _ (ePl (⟨(.int (x9 - 9)), rfl⟩ : Pd)) _ from (te_var (d := (D.int (x9 - 9))))) (te_cons (d := (ePl (⟨(.int ((x9 - 9) + 1)), rfl⟩ : Pd))) (show TE _ _ _ (ePl (⟨(.int ((x9 - 9) + 1)), rfl⟩ : Pd)) _ from (te_bin (z := D.int ((x9 - 9) + 1)) (te_var (d := (D.int (x9 - 9)))) te_c)) (te_cons (d := (D.int 0)) te_c te_nil)))) te_nil)) (fun Ω => o_cat h42 Ω))) (by repeat (first | exact Pw.nil | apply Pw.same | apply Pw.un)) ?_) ?_
  · intro ev44 s43 s' hr
    try dsimp only at hr
    refine ⟨_, (tg_t (tgs_cons tg_n (tgs_cons tg_n (tgs_cons tg_n tgs_nil)))), ?_⟩
    unfold b_law_marks_right_for
    obtain ⟨x45, h46, hr⟩ := bE hr
    obtain ⟨x47, h48, hr⟩ := bE hr
    refine tb_seq (tb_appT (e := ePl) h48 pu_Pl rfl (te_hearG (er := ePl) (fun z : D => z) (fun e hx => xe_meth (te_var (d := (e_Stair v_made))) (te_cons (d := (ePl ev44.1)) (te_var (d := (ePl ev44.1))) (te_cons (d := (ePl ev44.2.1)) (te_var (d := (ePl ev44.2.1))) te_nil)) (wx_limited hx)) (fun e hv => te_meth (te_var (d := (e_Stair v_made))) (te_cons (d := (ePl ev44.1)) (te_var (d := (ePl ev44.1))) (te_cons (d := (ePl ev44.2.1)) (te_var (d := (ePl ev44.2.1))) te_nil)) (wp_limited hv)) hv_law_told hx_law_told h46)) ?_
    obtain ⟨x49, h50, hr⟩ := bE hr
    obtain ⟨x51, h52, hr⟩ := bE hr
    refine tb_seq (tb_appT (e := ePl) h52 pu_Pl rfl (te_hearG (er := ePl) (fun z : D => z) (fun e hx => xe_methK (te_var (d := (e_Stair v_made))) (te_cons (d := (ePl ev44.2.1)) (te_var (d := (ePl ev44.2.1))) (te_cons (d := (ePl ev44.1)) (te_var (d := (ePl ev44.1))) te_nil)) (wx_ranges hx)) (fun e hv => te_methK (te_var (d := (e_Stair v_made))) (te_cons (d := (ePl ev44.2.1)) (te_var (d := (ePl ev44.2.1))) (te_cons (d := (ePl ev44.1)) (te_var (d := (ePl ev44.1))) te_nil)) (wp_ranges hv)) hv_law_told hx_law_told h50)) ?_
    obtain ⟨x53, h54, hr⟩ := bE hr
    obtain ⟨x55, h56, hr⟩ := bE hr
    refine tb_seq (tb_appT (e := ePl) h56 pu_Pl rfl (te_hearG (er := ePl) (fun z : D => z) (fun e hx => xe_meth (te_var (d := (e_Stair v_made))) (te_cons (d := (ePl ev44.1)) (te_var (d := (ePl ev44.1))) (te_cons (d := (ePl ev44.2.1)) (te_var (d := (ePl ev44.2.1))) te_nil)) (wx_cut_in hx)) (fun e hv => te_meth (te_var (d := (e_Stair v_made))) (te_cons (d := (ePl ev44.1)) (te_var (d := (ePl ev44.1))) (te_cons (d := (ePl ev44.2.1)) (te_var (d := (ePl ev44.2.1))) te_nil)) (wp_cut_in hv)) hv_law_told hx_law_told h54)) ?_
    obtain ⟨x59, h60, hr⟩ := bE hr
    obtain ⟨x61, h62, hr⟩ := bE hr
    obtain ⟨x63, h64, hr⟩ := bE hr
    obtain hs := Option.some.inj hr
    subst hs
    exact tb_weak (tb_set (d := (eL ePl x63)) (te_bin (z := (eL ePl x63)) (te_var (d := (eL ePl s43.2))) (te_bin (z := (eL ePl x61)) (te_lst (te_cons (d := (ePl x59)) (te_ifO (e := ePl) (tt_val (b := decide (0 < ev44.2.2)) (te_bin (z := D.bl (decide (0 < ev44.2.2))) (te_var (d := (D.int ev44.2.2))) te_c)) h60 (fun _ hh => by obtain ⟨x57, h58, hh⟩ := bE hh; exact te_castE (e := ePl) hh (te_call0 (te_cons (d := (D.str ("range" : Str))) te_c (te_cons (d := (ePl (plT [(ev44.1, ev44.2.1).1, (ev44.1, ev44.2.1).2]))) (show TE _ _ _ (ePl (plT [(ev44.1, ev44.2.1).1, (ev44.1, ev44.2.1).2])) _ from (te_tup (te_cons (d := (ePl ev44.1)) (te_var (d := (ePl ev44.1))) (te_cons (d := (ePl ev44.2.1)) (te_var (d := (ePl ev44.2.1))) te_nil)))) te_nil)) (w_law_due h58))) (fun _ hh => by exact te_castE (e := ePl) hh (show TE _ _ _ (ePl (⟨(eL ePl ([(⟨(.str ("told" : Str)), rfl⟩ : Pd)])), (pu_L pu_Pl) ([(⟨(.str ("told" : Str)), rfl⟩ : Pd)])⟩ : Pd)) _ from (te_lst (te_cons (d := (ePl (⟨(.str ("told" : Str)), rfl⟩ : Pd))) (show TE _ _ _ (ePl (⟨(.str ("told" : Str)), rfl⟩ : Pd)) _ from te_c) te_nil))))) te_nil)) te_c (fun Ω => o_repL (e := ePl) h62 Ω)) (fun Ω => o_cat h64 Ω))) (by repeat (first | exact Pw.nil | apply Pw.same | apply Pw.un))
  obtain ⟨x67, h68, hr⟩ := bE hr
  obtain ⟨hs, hq⟩ := Prod.mk.inj (Option.some.inj hr)
  subst hs
  subst hq
  exact tr_ret (te_owL (i := 6) (z := D.bl x67) rfl (te_var (d := (eL ePl r65.2))) (fun Ω n hn => w_eqPl h68 Ω n hn))
theorem w_law_right {q0 q9 : Pot} {rr : Bool} {n : Nat} (hr : t_law_right  q0 = some (rr, q9)) : SpP F_law_right [.ref n] n q0 (D.bl rr) q9 := by
  refine fn_P rfl fun A hn => ?_
  unfold t_law_right at hr
  unfold b_law_right
  obtain ⟨x1, q2, h3, hr⟩ := b2E hr
  obtain ⟨x4, h5, hr⟩ := bE hr
  refine tr_seq (tb_set (d := (e_Stair x4)) (te_make (te_cons (d := (eL stD x1)) (te_callP hn (te_cons (d := (D.ref n)) (te_var (d := D.ref n)) (te_cons (d := (D.int 5)) te_c te_nil)) (w_law_steps h3)) te_nil) (w_StairD_initD_l h5))) ?_
  obtain ⟨x6, h7, hr⟩ := bE hr
  refine tr_seq (tb_set (d := (D.str x6)) (te_cb (z := D.str x6) (te_cons (d := (e_Stair x4)) (te_var (d := (e_Stair x4))) te_nil) (fun Ω => o_repr1 h7 Ω))) ?_
  obtain ⟨x8, h9, hr⟩ := bE hr
  obtain ⟨z25, h24, hr⟩ := bE hr
  refine tr_forS (e := D.int) (fun (s10 : Pot) => [.pl (.ref n), .pl (e_Stair x4), .pl (D.str x6), .un]) (fun (s10 : Pot) => pA A n s10) (fun (r : Bool × Pot) => (D.bl r.1)) (Sum.elim (fun (s10 : Pot) => pA A n s10) (fun r => pA A n r.2)) (fun _ => rfl) h24 (ti_r1 h9 (te_cons (d := (D.int 6)) te_c te_nil)) (by repeat (first | exact Pw.nil | apply Pw.same | apply Pw.un)) ?_ ?_
  · intro ev11 s10 zz hr
    try dsimp only at hr
    refine ⟨_, tg_n, ?_⟩
    unfold b_law_right_for
    obtain ⟨x12, q13, h14, hr⟩ := b2E hr
    obtain ⟨x18, q19, h20, hr⟩ := b2E hr
    obtain ⟨c21, h22, hr⟩ := bE hr
    cases c21 with
    | true =>
      rw [ifO_t] at hr
      refine tb_ifT (te_castS h22 (tt_orP (tt_not (b := x12) (tt_val (b := x12) (te_callP hn (te_cons (d := (D.ref n)) (te_var (d := D.ref n)) te_nil) (w_law_steps_right h14)))) h20 (fun _ hh => by obtain ⟨x15, q16, h17, hh⟩ := b2E hh; obtain ⟨hs, hq⟩ := Prod.mk.inj (Option.some.inj hh); subst hq; exact te_castS (congrArg some hs) (tt_not (b := x15) (tt_val (b := x15) (te_callP hn (te_cons (d := (D.ref n)) (te_var (d := D.ref n)) (te_cons (d := (e_Stair x4)) (te_var (d := (e_Stair x4))) te_nil)) (w_law_marks_right h17))))))) ?_
      obtain hs := Option.some.inj hr
      subst hs
      exact tb_ret te_c
    | false =>
      rw [ifO_f] at hr
      refine tb_ifF (te_castS h22 (tt_orP (tt_not (b := x12) (tt_val (b := x12) (te_callP hn (te_cons (d := (D.ref n)) (te_var (d := D.ref n)) te_nil) (w_law_steps_right h14)))) h20 (fun _ hh => by obtain ⟨x15, q16, h17, hh⟩ := b2E hh; obtain ⟨hs, hq⟩ := Prod.mk.inj (Option.some.inj hh); subst hq; exact te_castS (congrArg some hs) (tt_not (b := x15) (tt_val (b := x15) (te_callP hn (te_cons (d := (D.ref n)) (te_var (d := D.ref n)) (te_cons (d := (e_Stair x4)) (te_var (d := (e_Stair x4))) te_nil)) (w_law_marks_right h17))))))) ?_
      obtain hs := Option.some.inj hr
      subst hs
      exact tb_weak tb_skip (by repeat (first | exact Pw.nil | apply Pw.same | apply Pw.un))
  cases z25 with
  | inr v26 =>
    obtain hs := Option.some.inj hr
    subst hs
    exact ⟨rfl, rfl⟩
  | inl r23 =>
    obtain ⟨x27, q28, h29, hr⟩ := b2E hr
    obtain ⟨x32, h33, hr⟩ := bE hr
    obtain ⟨hs, hq⟩ := Prod.mk.inj (Option.some.inj hr)
    subst hs
    subst hq
    exact tr_ret (te_andO (te_callP hn (te_cons (d := (D.ref n)) (te_var (d := D.ref n)) te_nil) (w_law_many_right h29)) h33 (fun _ hh => by obtain ⟨x30, h31, hh⟩ := bE hh; exact te_castE (e := D.bl) hh (te_bin (z := D.bl (decide (x30 = x6))) (te_cb (z := D.str x30) (te_cons (d := (e_Stair x4)) (te_var (d := (e_Stair x4))) te_nil) (fun Ω => o_repr1 h31 Ω)) (te_var (d := (D.str x6))))))
end K10


set_option Elab.async false
set_option linter.all false
/-! StMath: steps, units, the one form; no program in sight. -/
namespace Stairs
abbrev Stp := Int × Int × Int
def push (acc : List Stp) (s : Stp) : List Stp := match acc.getLast? with
  | some z => if z.1 + z.2.2 = s.1 ∧ z.2.1 + z.2.2 = s.2.1 then acc.dropLast ++ [(z.1, z.2.1, z.2.2 + s.2.2)] else acc ++ [s]
  | none => [s]
theorem push_nil (s : Stp) : push [] s = [s] := rfl
theorem push_snoc (ys : List Stp) (z s : Stp) : push (ys ++ [z]) s = if z.1 + z.2.2 = s.1 ∧ z.2.1 + z.2.2 = s.2.1 then ys ++ [(z.1, z.2.1, z.2.2 + s.2.2)] else ys ++ [z] ++ [s] := by
  unfold push
  simp
theorem snoc_or {α : Type} (xs : List α) : xs = [] ∨ ∃ ys z, xs = ys ++ [z] := by
  rcases List.eq_nil_or_concat xs with h | ⟨ys, z, h⟩
  · exact .inl h
  · exact .inr ⟨ys, z, by rw [h]; simp⟩
def oneForm (xs : List Stp) : List Stp := xs.foldl push []
def unitsOf (s : Stp) : List (Int × Int) := (List.range s.2.2.toNat).map fun (i : Nat) => (s.1 + (i : Int), s.2.1 + (i : Int))
def U (xs : List Stp) : List (Int × Int) := xs.flatMap unitsOf
def u1 (p : Int × Int) : Stp := (p.1, p.2, 1)
def Pos1 (xs : List Stp) : Prop := ∀ s ∈ xs, 1 ≤ s.2.2
def Rise (ps : List (Int × Int)) : Prop := ps.Pairwise fun p q => p.1 < q.1 ∧ p.2 < q.2
theorem U_nil : U [] = [] := rfl
theorem U_cons (s : Stp) (xs : List Stp) : U (s :: xs) = unitsOf s ++ U xs := by unfold U; simp
theorem U_append (xs ys : List Stp) : U (xs ++ ys) = U xs ++ U ys := by unfold U; simp
theorem mem_units {s : Stp} {p : Int × Int} : p ∈ unitsOf s ↔ s.1 ≤ p.1 ∧ p.1 < s.1 + s.2.2 ∧ p.2 - p.1 = s.2.1 - s.1 := by
  unfold unitsOf
  rw [List.mem_map]
  obtain ⟨e, n, l⟩ := s
  obtain ⟨a, b⟩ := p
  constructor
  · rintro ⟨i, hi, h⟩
    rw [List.mem_range] at hi
    simp only [Prod.mk.injEq] at h
    dsimp only at *
    omega
  · rintro ⟨h1, h2, h3⟩
    dsimp only at *
    refine ⟨(a - e).toNat, List.mem_range.mpr (by omega), ?_⟩
    simp only [Prod.mk.injEq]
    omega
theorem units_add {e n l k : Int} (hl : 0 ≤ l) (hk : 0 ≤ k) : unitsOf (e, n, l + k) = unitsOf (e, n, l) ++ unitsOf (e + l, n + l, k) := by
  unfold unitsOf
  dsimp only
  rw [show (l + k).toNat = l.toNat + k.toNat by omega, List.range_add, List.map_append, List.map_map]
  congr 1
  refine List.map_congr_left fun i _ => ?_
  simp only [Function.comp_apply, Prod.mk.injEq]
  omega
theorem units_one {e n : Int} : unitsOf (e, n, 1) = [(e, n)] := by simp [unitsOf]
theorem push_push (acc : List Stp) (e n l k : Int) : push (push acc (e, n, l)) (e + l, n + l, k) = push acc (e, n, l + k) := by
  rcases snoc_or acc with rfl | ⟨ys, z, rfl⟩
  · rw [push_nil, push_nil]
    rw [show [(e, n, l)] = ([] : List Stp) ++ [(e, n, l)] from rfl, push_snoc]
    simp
  · rw [push_snoc, push_snoc]
    dsimp only
    by_cases h : z.1 + z.2.2 = e ∧ z.2.1 + z.2.2 = n
    · rw [if_pos h, if_pos h, push_snoc]
      dsimp only
      rw [if_pos (by omega)]
      simp
      omega
    · rw [if_neg h, if_neg h, push_snoc]
      simp
theorem fold_units (e n : Int) : ∀ (k : Nat) (acc : List Stp), ((unitsOf (e, n, (k : Int) + 1)).map u1).foldl push acc = push acc (e, n, (k : Int) + 1)
  | 0, acc => by
    rw [show ((0 : Nat) : Int) + 1 = 1 from rfl, units_one]
    rfl
  | k + 1, acc => by
    rw [show ((k + 1 : Nat) : Int) + 1 = ((k : Int) + 1) + 1 by omega, units_add (by omega) (by omega), units_one, List.map_append, List.foldl_append, fold_units e n k acc]
    exact push_push acc e n _ 1
theorem form_units : ∀ (xs : List Stp) (acc : List Stp), Pos1 xs → ((U xs).map u1).foldl push acc = xs.foldl push acc
  | [], acc, _ => rfl
  | (e, n, l) :: xs, acc, h => by
    rw [U_cons, List.map_append, List.foldl_append]
    have h1 : 1 ≤ l := h (e, n, l) (by simp)
    have h2 := fold_units e n (l - 1).toNat acc
    rw [show (((l - 1).toNat : Nat) : Int) + 1 = l by omega] at h2
    rw [h2, form_units xs _ fun s hs => h s (by simp [hs])]
    rfl
theorem oneForm_units {xs : List Stp} (h : Pos1 xs) : oneForm ((U xs).map u1) = oneForm xs := form_units xs [] h
theorem pos_push {acc : List Stp} {s : Stp} (h : Pos1 acc) (hs : 1 ≤ s.2.2) : Pos1 (push acc s) := by
  rcases snoc_or acc with rfl | ⟨ys, z, rfl⟩
  · intro t ht
    rw [push_nil, List.mem_singleton] at ht
    rw [ht]; exact hs
  · have hz : 1 ≤ z.2.2 := h z (by simp)
    intro t ht
    rw [push_snoc] at ht
    split at ht
    · rcases List.mem_append.mp ht with ht | ht
      · exact h t (by simp [ht])
      · rw [List.mem_singleton] at ht
        rw [ht]
        dsimp only
        omega
    · rcases List.mem_append.mp ht with ht | ht
      · exact h t ht
      · rw [List.mem_singleton] at ht
        rw [ht]; exact hs
theorem U_push {acc : List Stp} {s : Stp} (h : Pos1 acc) (hs : 1 ≤ s.2.2) : U (push acc s) = U acc ++ unitsOf s := by
  rcases snoc_or acc with rfl | ⟨ys, z, rfl⟩
  · rw [push_nil, U_cons, U_nil]; simp
  · have hz : 1 ≤ z.2.2 := h z (by simp)
    rw [push_snoc]
    obtain ⟨a, b, c⟩ := z
    obtain ⟨e, n, l⟩ := s
    dsimp only at *
    split
    · rename_i q
      rw [U_append, U_append, U_cons, U_cons, U_nil, units_add (by omega) (by omega), q.1, q.2]
      simp
    · rw [U_append, U_cons, U_nil]
      simp
theorem fold_push : ∀ (xs acc : List Stp), Pos1 xs → Pos1 acc → Pos1 (xs.foldl push acc) ∧ U (xs.foldl push acc) = U acc ++ U xs
  | [], acc, _, h => ⟨h, by rw [U_nil]; simp⟩
  | s :: xs, acc, h1, h2 => by
    have hs := h1 s (by simp)
    obtain ⟨a, b⟩ := fold_push xs (push acc s) (fun t ht => h1 t (by simp [ht])) (pos_push h2 hs)
    refine ⟨a, ?_⟩
    rw [List.foldl_cons, b, U_push h2 hs, U_cons]
    simp
theorem pos_nil : Pos1 [] := fun _ h => by cases h
theorem pos_oneForm {xs : List Stp} (h : Pos1 xs) : Pos1 (oneForm xs) := (fold_push xs [] h pos_nil).1
theorem U_oneForm {xs : List Stp} (h : Pos1 xs) : U (oneForm xs) = U xs := by
  have := (fold_push xs [] h pos_nil).2
  rw [U_nil, List.nil_append] at this
  exact this
/-- the one form is told by the units -/
theorem oneForm_of_U {xs ys : List Stp} (hx : Pos1 xs) (hy : Pos1 ys) (h : U xs = U ys) : oneForm xs = oneForm ys := by
  rw [← oneForm_units hx, ← oneForm_units hy, h]
theorem oneForm_oneForm {xs : List Stp} (h : Pos1 xs) : oneForm (oneForm xs) = oneForm xs := oneForm_of_U (pos_oneForm h) h (U_oneForm h)
theorem push_len (acc : List Stp) (s : Stp) : (push acc s).length ≤ acc.length + 1 := by
  rcases snoc_or acc with rfl | ⟨ys, z, rfl⟩
  · simp [push_nil]
  · rw [push_snoc]
    split <;> simp
theorem fold_len : ∀ (xs acc : List Stp), (xs.foldl push acc).length ≤ acc.length + xs.length
  | [], acc => by simp
  | s :: xs, acc => by
    have h1 := fold_len xs (push acc s)
    have h2 := push_len acc s
    rw [List.foldl_cons, List.length_cons]
    omega
theorem oneForm_len (xs : List Stp) : (oneForm xs).length ≤ xs.length := by
  have := fold_len xs []
  simpa [oneForm] using this
theorem len_U : ∀ {xs : List Stp}, Pos1 xs → xs.length ≤ (U xs).length
  | [], _ => by simp
  | s :: xs, h => by
    have h1 := h s (by simp)
    have h2 := len_U (xs := xs) fun t ht => h t (by simp [ht])
    rw [U_cons, List.length_append, List.length_cons]
    have h3 : 1 ≤ (unitsOf s).length := by
      unfold unitsOf
      rw [List.length_map, List.length_range]
      omega
    omega
/-! ### sorted lists -/
theorem sorted_ext : ∀ {xs ys : List (Int × Int)}, xs.Pairwise (fun p q => p.1 < q.1) → ys.Pairwise (fun p q => p.1 < q.1) → (∀ p, p ∈ xs ↔ p ∈ ys) → xs = ys
  | [], [], _, _, _ => rfl
  | [], y :: ys, _, _, h => absurd ((h y).mpr (by simp)) (by simp)
  | x :: xs, [], _, _, h => absurd ((h x).mp (by simp)) (by simp)
  | x :: xs, y :: ys, hx, hy, h => by
    rw [List.pairwise_cons] at hx hy
    have e : x = y := by
      rcases List.mem_cons.mp ((h x).mp (by simp)) with e | m1
      · exact e
      · rcases List.mem_cons.mp ((h y).mpr (by simp)) with e | m2
        · exact e.symm
        · have a := hy.1 x m1
          have b := hx.1 y m2
          omega
    subst e
    rw [sorted_ext hx.2 hy.2 fun p => ?_]
    constructor
    · intro hp
      rcases List.mem_cons.mp ((h p).mp (by simp [hp])) with e | m
      · subst e
        have := hx.1 p hp
        omega
      · exact m
    · intro hp
      rcases List.mem_cons.mp ((h p).mpr (by simp [hp])) with e | m
      · subst e
        have := hy.1 p hp
        omega
      · exact m
theorem Rise.fst {ps : List (Int × Int)} (h : Rise ps) : ps.Pairwise (fun p q => p.1 < q.1) := List.Pairwise.imp (fun h => h.1) h
theorem rise_units (s : Stp) : Rise (unitsOf s) := by
  unfold Rise unitsOf
  rw [List.pairwise_map]
  refine List.Pairwise.imp ?_ (List.pairwise_lt_range (n := s.2.2.toNat))
  intro a b hab
  dsimp only
  omega
/-! ### cut at both ends -/
def clip (s : Stp) (a b : Int) : List Stp := if max s.1 a < min (s.1 + s.2.2) b then [(max s.1 a, s.2.1 + max s.1 a - s.1, min (s.1 + s.2.2) b - max s.1 a)] else []
def inR (a b : Int) (p : Int × Int) : Bool := decide (a ≤ p.1 ∧ p.1 < b)
theorem pos_clip (s : Stp) (a b : Int) : Pos1 (clip s a b) := by
  intro t ht
  unfold clip at ht
  split at ht
  · rw [List.mem_singleton] at ht
    rw [ht]
    dsimp only
    omega
  · cases ht
theorem U_clip (s : Stp) (a b : Int) : U (clip s a b) = (unitsOf s).filter (inR a b) := by
  refine sorted_ext ?_ (List.Pairwise.filter _ (rise_units s).fst) fun p => ?_
  · unfold clip
    split
    · rw [U_cons, U_nil, List.append_nil]
      exact (rise_units _).fst
    · exact List.Pairwise.nil
  · rw [List.mem_filter, mem_units]
    unfold clip inR
    obtain ⟨e, n, l⟩ := s
    obtain ⟨x, y⟩ := p
    dsimp only
    rw [decide_eq_true_iff]
    split
    · rw [U_cons, U_nil, List.append_nil, mem_units]
      dsimp only
      omega
    · rw [U_nil]
      simp only [List.not_mem_nil, false_iff]
      omega
def cutS (xs : List Stp) (a b : Int) : List Stp := xs.flatMap fun s => clip s a b
theorem pos_cut (xs : List Stp) (a b : Int) : Pos1 (cutS xs a b) := fun t ht => by
  obtain ⟨s, _, h⟩ := List.mem_flatMap.mp ht
  exact pos_clip s a b t h
theorem U_cut (a b : Int) : ∀ xs : List Stp, U (cutS xs a b) = (U xs).filter (inR a b)
  | [] => rfl
  | s :: xs => by
    have ih := U_cut a b xs
    unfold cutS at ih ⊢
    rw [List.flatMap_cons, U_append, ih, U_clip, U_cons, List.filter_append]
def lim (xs : List Stp) (a b : Int) : List Stp := oneForm (cutS xs a b)
theorem U_lim (xs : List Stp) (a b : Int) : U (lim xs a b) = (U xs).filter (inR a b) := by
  unfold lim
  rw [U_oneForm (pos_cut xs a b), U_cut]
theorem pos_lim (xs : List Stp) (a b : Int) : Pos1 (lim xs a b) := pos_oneForm (pos_cut xs a b)
theorem clip_len (s : Stp) (a b : Int) : (clip s a b).length ≤ 1 := by unfold clip; split <;> simp
theorem cut_len (a b : Int) : ∀ xs : List Stp, (cutS xs a b).length ≤ xs.length
  | [] => by simp [cutS]
  | s :: xs => by
    have h1 := cut_len a b xs
    have h2 := clip_len s a b
    unfold cutS at h1 ⊢
    rw [List.flatMap_cons, List.length_append, List.length_cons]
    omega
/-! ### a stair's steps rise -/
def goesUp (a b : Stp) : Bool := decide (a.1 + a.2.2 ≤ b.1) && decide (a.2.1 + a.2.2 ≤ b.2.1)
def Steps : List Stp → Prop
  | [] => True
  | [s] => 1 ≤ s.2.2
  | s :: t :: r => 1 ≤ s.2.2 ∧ goesUp s t = true ∧ Steps (t :: r)
theorem steps_of : ∀ {xs : List Stp}, Pos1 xs → Rise (U xs) → Steps xs
  | [], _, _ => trivial
  | [s], h, _ => h s (by simp)
  | s :: t :: r, h, hr => by
    have hs := h s (by simp)
    have ht := h t (by simp)
    rw [U_cons] at hr
    unfold Rise at hr
    rw [List.pairwise_append] at hr
    refine ⟨hs, ?_, steps_of (fun x hx => h x (by simp at hx ⊢; exact .inr hx)) hr.2.1⟩
    have m1 : (s.1 + s.2.2 - 1, s.2.1 + s.2.2 - 1) ∈ unitsOf s := mem_units.mpr ⟨by dsimp only; omega, by dsimp only; omega, by dsimp only; omega⟩
    have m2 : (t.1, t.2.1) ∈ U (t :: r) := by
      rw [U_cons]
      exact List.mem_append_left _ (mem_units.mpr ⟨by dsimp only; omega, by dsimp only; omega, rfl⟩)
    have q := hr.2.2 _ m1 _ m2
    dsimp only at q
    unfold goesUp
    simp only [Bool.and_eq_true, decide_eq_true_eq]
    omega
/-! ### ranges -/
end Stairs


set_option linter.all false
/-! StMore: the mathematics of back, then, both. -/
namespace Stairs
def swp (s : Stp) : Stp := (s.2.1, s.1, s.2.2)
def sw (p : Int × Int) : Int × Int := (p.2, p.1)
theorem foldl_flat {α β : Type} (g : α → List β) : ∀ (xs : List α) (acc : List β), xs.foldl (fun acc t => acc ++ g t) acc = acc ++ xs.flatMap g
  | [], acc => by simp
  | x :: xs, acc => by rw [List.foldl_cons, foldl_flat g xs]; simp
theorem foldl_clip (s : List Stp) (a b : Int) : s.foldl (fun acc t => acc ++ clip t a b) [] = cutS s a b := by
  rw [foldl_flat]
  rfl
theorem units_swp (s : Stp) : unitsOf (swp s) = (unitsOf s).map sw := by
  unfold unitsOf swp sw
  rw [List.map_map]
  rfl
theorem U_swp : ∀ xs : List Stp, U (xs.map swp) = (U xs).map sw
  | [] => rfl
  | s :: xs => by rw [List.map_cons, U_cons, U_cons, units_swp, U_swp xs, List.map_append]
theorem pos_swp {xs : List Stp} (h : Pos1 xs) : Pos1 (xs.map swp) := fun s hs => by
  obtain ⟨t, ht, rfl⟩ := List.mem_map.mp hs
  exact h t ht
theorem rise_sw {ps : List (Int × Int)} (h : Rise ps) : Rise (ps.map sw) := List.pairwise_map.mpr (h.imp fun h => ⟨h.2, h.1⟩)
theorem U_flat {α : Type} (g : α → List Stp) : ∀ xs : List α, U (xs.flatMap g) = xs.flatMap fun x => U (g x)
  | [] => rfl
  | x :: xs => by rw [List.flatMap_cons, U_append, U_flat g xs, List.flatMap_cons]
theorem U_eq (xs : List Stp) : U xs = xs.flatMap unitsOf := rfl
theorem mem_U {xs : List Stp} {p : Int × Int} : p ∈ U xs ↔ ∃ s ∈ xs, p ∈ unitsOf s := by
  unfold U
  rw [List.mem_flatMap]
theorem pos_flat {α : Type} {g : α → List Stp} (h : ∀ x, Pos1 (g x)) (xs : List α) : Pos1 (xs.flatMap g) := fun s hs => by
  obtain ⟨x, _, h2⟩ := List.mem_flatMap.mp hs
  exact h x s h2
theorem filter_rise {ps : List (Int × Int)} (h : Rise ps) (f : Int × Int → Bool) : Rise (ps.filter f) := List.Pairwise.filter _ h
/-! ### both -/
def both1 (s t : Stp) : List Stp := if t.2.1 - t.1 = s.2.1 - s.1 then clip t s.1 (s.1 + s.2.2) else []
def bothS (S T : List Stp) : List Stp := S.flatMap fun s => T.flatMap fun t => both1 s t
theorem pos_both1 (s t : Stp) : Pos1 (both1 s t) := by
  unfold both1
  split
  · exact pos_clip _ _ _
  · exact pos_nil
theorem U_both1 (s t : Stp) : U (both1 s t) = (unitsOf t).filter fun p => decide (p ∈ unitsOf s) := by
  unfold both1
  split
  · rename_i h
    rw [U_clip]
    refine List.filter_congr fun p hp => ?_
    have h1 := mem_units.mp hp
    unfold inR
    rw [decide_eq_decide, mem_units]
    omega
  · rename_i h
    rw [U_nil]
    symm
    rw [List.filter_eq_nil_iff]
    intro p hp
    have h1 := mem_units.mp hp
    rw [decide_eq_true_iff, mem_units]
    omega
theorem filter_flat {α β : Type} (f : β → Bool) (g : α → List β) : ∀ xs : List α, (xs.flatMap g).filter f = xs.flatMap fun x => (g x).filter f
  | [] => rfl
  | x :: xs => by rw [List.flatMap_cons, List.filter_append, filter_flat f g xs, List.flatMap_cons]
theorem U_bothS1 (s : Stp) (T : List Stp) : U (T.flatMap fun t => both1 s t) = (U T).filter fun p => decide (p ∈ unitsOf s) := by
  rw [U_flat, U_eq T, filter_flat]
  congr 1
  funext t
  exact U_both1 s t
theorem filter_swap {ps qs : List (Int × Int)} (hp : Rise ps) (hq : Rise qs) : (qs.filter fun p => decide (p ∈ ps)) = ps.filter fun p => decide (p ∈ qs) := by
  refine sorted_ext (filter_rise hq _).fst (filter_rise hp _).fst fun p => ?_
  simp only [List.mem_filter, decide_eq_true_eq]
  exact ⟨fun h => ⟨h.2, h.1⟩, fun h => ⟨h.2, h.1⟩⟩
theorem U_both {S T : List Stp} (hT : Rise (U T)) : U (bothS S T) = (U S).filter fun p => decide (p ∈ U T) := by
  unfold bothS
  rw [U_flat, U_eq S, filter_flat]
  congr 1
  funext s
  rw [U_bothS1, filter_swap (rise_units s) hT]
theorem pos_both (S T : List Stp) : Pos1 (bothS S T) := pos_flat (fun s => pos_flat (fun t => pos_both1 s t) T) S
/-! ### then -/
/-! ### stairs: what is known of one in one form -/
structure Stair (S : List Stp) (ps : List (Int × Int)) : Prop where
  u : U S = ps
  pos : Pos1 S
  rise : Rise ps
  one : oneForm S = S
theorem stair_rows {rows : List Stp} (hp : Pos1 rows) (hr : Rise (U rows)) : Stair (oneForm rows) (U rows) := ⟨U_oneForm hp, pos_oneForm hp, hr, oneForm_oneForm hp⟩
theorem Stair.form {S : List Stp} {ps : List (Int × Int)} (h : Stair S ps) : oneForm (ps.map u1) = S := by rw [← h.u, oneForm_units h.pos, h.one]
theorem Stair.eq {S T : List Stp} {ps qs : List (Int × Int)} (h : Stair S ps) (k : Stair T qs) : S = T ↔ ps = qs := by
  constructor
  · rintro rfl
    rw [← h.u, k.u]
  · rintro rfl
    rw [← h.form, ← k.form]
theorem Stair.both {S T : List Stp} {ps qs : List (Int × Int)} (h : Stair S ps) (k : Stair T qs) : Stair (oneForm (bothS S T)) (ps.filter fun p => decide (p ∈ qs)) := by
  have hT : Rise (U T) := by rw [k.u]; exact k.rise
  refine ⟨?_, pos_oneForm (pos_both S T), filter_rise h.rise _, oneForm_oneForm (pos_both S T)⟩
  rw [U_oneForm (pos_both S T), U_both hT, h.u, k.u]
theorem Stair.back {S : List Stp} {ps : List (Int × Int)} (h : Stair S ps) : Stair (oneForm (S.map swp)) (ps.map sw) := by
  have hp := pos_swp h.pos
  refine ⟨by rw [U_oneForm hp, U_swp, h.u], pos_oneForm hp, rise_sw h.rise, oneForm_oneForm hp⟩
theorem Stair.lim {S : List Stp} {ps : List (Int × Int)} (h : Stair S ps) (a b : Int) : Stair (Stairs.lim S a b) (ps.filter (inR a b)) :=
  ⟨by rw [U_lim, h.u], pos_lim S a b, filter_rise h.rise _, oneForm_oneForm (pos_cut S a b)⟩
theorem Stair.len {S : List Stp} {ps : List (Int × Int)} (h : Stair S ps) : S.length ≤ ps.length := by rw [← h.u]; exact len_U h.pos
/-! ### gaps -/
end Stairs


set_option Elab.async false
set_option linter.all false
set_option maxRecDepth 100000
set_option maxHeartbeats 1000000
/-! what the typed functions of stairs come to -/
namespace K10
open PySem PySem.Spec PyProof.Rows L2 Dn Tn Stairs
theorem p_is_integer (i : Int) : t_is_integer i = some true := rfl
theorem p_is_list (xs : List Stp) : t_is_list xs = some true := rfl
theorem p_does_rise (a b : Stp) : t_does_rise a b = some (goesUp a b) := by
  unfold t_does_rise goesUp
  rfl
theorem p_is_step {s : Stp} (h : 1 ≤ s.2.2) : t_is_step s = some true := by
  unfold t_is_step
  rw [lcO_map (fun _ => true) (by simp) (fun x _ => by simp [p_is_integer])]
  simp [orO_f, ifO_f, h]
theorem p_does_go_on (a : Stp) (e n : Int) : t_does_go_on a e n = some (decide (a.1 + a.2.2 = e) && decide (a.2.1 + a.2.2 = n)) := by
  unfold t_does_go_on
  rfl
theorem p_one_form {xs : List Stp} (h : xs.length ≤ 50000) : t_one_form xs = some (oneForm xs) := by
  unfold t_one_form
  refine bind_foldN push (fun k s => s.length ≤ k) (by simp) (fun x hx j s hj hs => ?_) fun _ => rfl
  · refine ⟨?_, Nat.le_trans (push_len s x) (by omega)⟩
    rcases snoc_or s with rfl | ⟨ys, z, rfl⟩
    · simp [andO_f, ifO_f, appT_of, push_nil]
    · have hl : ys.length + 1 < 100000 := by simp at hs; omega
      rw [push_snoc]
      by_cases h1 : z.1 + z.2.2 = x.1 <;> by_cases h2 : z.2.1 + z.2.2 = x.2.1 <;> simp [andO_t, p_does_go_on, h1, h2, ifO_t, ifO_f, setT_last, appT, hl]
theorem p_clipped (s : Stp) (a b : Int) : t_clipped s a b = some (clip s a b) := by
  unfold t_clipped clip
  simp only [maxI_eq, minI_eq]
  by_cases h : max s.1 a < min (s.1 + s.2.2) b
  · simp [h, ifO_t]
  · simp [h, ifO_f]
theorem p_want_range {a b : Int} (h : a < b) : t_want_range a b = some () := by
  unfold t_want_range
  have : ¬ b ≤ a := by omega
  simp [p_is_integer, orO_f, this, ifO_f]
theorem p_rs {xs : List Stp} (h : xs.length ≤ 50000) : t_RightStepsD_initD xs = some (oneForm xs) := by
  unfold t_RightStepsD_initD
  simp [p_one_form h]
theorem p_stair_of {xs : List Stp} (h : xs.length ≤ 50000) : t_stair_of xs = some (oneForm xs) := by
  unfold t_stair_of
  simp [p_rs h, t_StairD_initD_r]
theorem steps_at : ∀ {ys : List Stp}, Steps ys → (∀ (i : Nat) (s : Stp), ys[i]? = some s → 1 ≤ s.2.2) ∧ (∀ (i : Nat) (p s : Stp), ys[i]? = some p → ys[i + 1]? = some s → goesUp p s = true)
  | [], _ => ⟨fun i s h => by simp at h, fun i p s h => by simp at h⟩
  | [x], h => ⟨fun i s e => by
      cases i with
      | zero => simp at e; rw [← e]; exact h
      | succ i => simp at e, fun i p s e1 e2 => by simp at e2⟩
  | x :: y :: r, h => by
    obtain ⟨h1, h2, h3⟩ := h
    obtain ⟨a, b⟩ := steps_at (ys := y :: r) h3
    refine ⟨fun i s e => ?_, fun i p s e1 e2 => ?_⟩
    · cases i with
      | zero => simp at e; rw [← e]; exact h1
      | succ i => exact a i s (by simpa using e)
    · cases i with
      | zero => simp at e1 e2; rw [← e1, ← e2]; exact h2
      | succ i => exact b i p s (by simpa using e1) (by simpa using e2)
theorem mem_enumT {α : Type} : ∀ (xs : List α) (k : Nat) (p : Int × α), p ∈ enumT k xs → ∃ i : Nat, xs[i]? = some p.2 ∧ p.1 = ((k + i : Nat) : Int)
  | [], k, p, h => by cases h
  | x :: xs, k, p, h => by
    unfold enumT at h
    rcases List.mem_cons.mp h with rfl | h
    · exact ⟨0, rfl, rfl⟩
    · obtain ⟨i, h1, h2⟩ := mem_enumT xs (k + 1) p h
      exact ⟨i + 1, by simpa using h1, by rw [h2]; congr 1; omega⟩
theorem p_want_steps {ys : List Stp} (h : Steps ys) : t_want_steps ys = some () := by
  obtain ⟨h1, h2⟩ := steps_at h
  unfold t_want_steps
  rw [p_is_list, Option.bind_some, Option.bind_some, show (!true) = false from rfl, ifO_f]
  refine bind_foldN (fun _ _ => ()) (fun _ _ => True) trivial (fun p hp j s _ _ => ?_) fun _ => rfl
  · refine ⟨?_, trivial⟩
    obtain ⟨i, e1, e2⟩ := mem_enumT ys 0 p hp
    obtain ⟨pi, ps⟩ := p
    dsimp only at e1 e2
    subst e2
    cases i with
    | zero => simp [p_is_step (h1 0 ps e1), orO_f, andO_f, ifO_f]
    | succ i =>
      have hlt : i < ys.length := by
        have := (List.getElem?_eq_some_iff.mp e1).1
        omega
      have hq : ys[i]? = some ys[i] := List.getElem?_eq_getElem hlt
      have hr : t_does_rise ys[i] ps = some true := by rw [p_does_rise, h2 i _ ps hq e1]
      have e0 : (0 : Int) < (i : Int) + 1 := by omega
      simp [p_is_step (h1 _ ps e1), orO_f, e0, andO_t, hlt, hr, ifO_f]
theorem p_init {ys : List Stp} (h : Steps ys) (hl : ys.length ≤ 60) : t_StairD_initD_l ys = some (oneForm ys) := by
  unfold t_StairD_initD_l
  have : ¬ (60 : Int) < (ys.length : Int) := by omega
  simp [p_want_steps h, this, ifO_f, p_one_form (xs := ys) (by omega)]
theorem q_limited {s : List Stp} (h : s.length ≤ 50000) {a b : Int} (hab : a < b) : t_Stair_limited s a b = some (lim s a b) := by
  unfold t_Stair_limited
  rw [p_want_range hab, Option.bind_some]
  refine bind_foldN (fun acc t => acc ++ clip t a b) (fun k acc => acc.length ≤ k) (by simp) (fun t ht j acc hj hs => ?_) fun _ => ?_
  · have hc := clip_len t a b
    refine ⟨?_, by simp; omega⟩
    rw [p_clipped, Option.bind_some, extT_of (by omega)]
    rfl
  · have hl := cut_len a b s
    rw [foldl_clip, p_stair_of (by omega)]
    rfl
end K10


set_option Elab.async false
set_option linter.all false
set_option maxRecDepth 100000
set_option maxHeartbeats 1000000
/-! the law's own helpers: draws, steps, marks, forms -/
namespace K10
open PySem PySem.Spec PyProof.Rows L2 Dn Tn Stairs
theorem ok_draw {size : Int} {q : Pot} (hq : PotOk q) (h1 : 0 < size) (h2 : size < 1073741824) : Ok (t_law_draw size q) fun z => (0 ≤ z.1 ∧ z.1 < size) ∧ PotOk z.2 := by
  obtain ⟨d, q', e, a, b, c⟩ := draw_spec hq h1 h2
  exact ⟨(d, q'), e, ⟨a, b⟩, c⟩
theorem ok_pick {α : Type} {xs : List α} {q : Pot} (hq : PotOk q) (h1 : xs ≠ []) (h2 : xs.length < 1073741824) : Ok (t_law_pick xs q) fun z => z.1 ∈ xs ∧ PotOk z.2 := by
  have hp : 0 < xs.length := List.length_pos_iff.mpr h1
  unfold t_law_pick
  refine ok_b2 (Q := fun a c => (0 ≤ a ∧ a < (xs.length : Int)) ∧ PotOk c) (ok_draw hq (by omega) (by omega)) fun d q' h => ?_
  obtain ⟨a, e, ha, _⟩ := atI_get h.1.1 h.1.2
  exact ok_val e (ok_some ⟨ha, h.2⟩)
/-- rows drawn -/
structure RowsInv (k : Nat) (rows : List Stp) (el nw : Int) : Prop where
  len : rows.length = k
  pos : Pos1 rows
  rise : Rise (U rows)
  lt : ∀ p ∈ U rows, -4 ≤ p.1 ∧ p.1 < el ∧ -4 ≤ p.2 ∧ p.2 < nw
  few : (U rows).length ≤ 4 * k
  lo : -4 ≤ el
  hi : el ≤ 4 + 7 * (k : Int)
  lo2 : -4 ≤ nw
  hi2 : nw ≤ 4 + 6 * (k : Int)
  ends : ∀ s ∈ rows, -4 ≤ s.1 ∧ s.1 + s.2.2 ≤ 1 + 7 * (k : Int) ∧ s.2.2 ≤ 4
theorem RowsInv.step {k : Nat} {rows : List Stp} {el nw sz g h : Int} (r : RowsInv k rows el nw) (hs : 1 ≤ sz) (hs4 : sz ≤ 4) (hg : 0 ≤ g) (hg3 : g ≤ 3) (hh : 0 ≤ h) (hh2 : h ≤ 2) : RowsInv (k + 1) (rows ++ [(el, nw, sz)]) (el + sz + g) (nw + sz + h) := by
  have hlo := r.lo
  have hhi := r.hi
  have hlo2 := r.lo2
  have hhi2 := r.hi2
  have eU : U (rows ++ [(el, nw, sz)]) = U rows ++ unitsOf (el, nw, sz) := by rw [U_append, U_cons, U_nil, List.append_nil]
  refine ⟨by simp [r.len], fun s hs' => ?_, ?_, fun p hp => ?_, ?_, by omega, by push_cast; omega, by omega, by push_cast; omega, fun s hs' => ?_⟩
  · rcases List.mem_append.mp hs' with h1 | h1
    · exact r.pos s h1
    · rw [List.mem_singleton.mp h1]; exact hs
  · rw [eU]
    refine List.pairwise_append.mpr ⟨r.rise, rise_units _, fun p hp q hq => ?_⟩
    have h1 := r.lt p hp
    have h2 := mem_units.mp hq
    dsimp only at h2
    omega
  · rw [eU] at hp
    rcases List.mem_append.mp hp with h1 | h1
    · have h2 := r.lt p h1
      omega
    · have h2 := mem_units.mp h1
      dsimp only at h2
      omega
  · rw [eU, List.length_append]
    have h1 := r.few
    have h2 : (unitsOf (el, nw, sz)).length ≤ 4 := by
      unfold Stairs.unitsOf
      rw [List.length_map, List.length_range]
      dsimp only
      omega
    omega
  · rcases List.mem_append.mp hs' with h1 | h1
    · have h2 := r.ends s h1
      push_cast
      omega
    · rw [List.mem_singleton.mp h1]
      dsimp only
      push_cast
      omega
theorem ix3 {d : Int} (h : 0 ≤ d ∧ d < 4) : ∃ g : Int, L2.atI ([0, 0, 1, 3] : List Int) d = some g ∧ 0 ≤ g ∧ g ≤ 3 := by
  have e : d = 0 ∨ d = 1 ∨ d = 2 ∨ d = 3 := by omega
  rcases e with rfl | rfl | rfl | rfl <;> exact ⟨_, rfl, by decide, by decide⟩
theorem ix2 {d : Int} (h : 0 ≤ d ∧ d < 4) : ∃ g : Int, L2.atI ([0, 0, 1, 2] : List Int) d = some g ∧ 0 ≤ g ∧ g ≤ 2 := by
  have e : d = 0 ∨ d = 1 ∨ d = 2 ∨ d = 3 := by omega
  rcases e with rfl | rfl | rfl | rfl <;> exact ⟨_, rfl, by decide, by decide⟩
theorem ok_steps {q : Pot} (hq : PotOk q) {most : Int} (h1 : 0 ≤ most) (h2 : most ≤ 1000) : Ok (t_law_steps most q) fun z => (∃ (k : Nat) (el nw : Int), (k : Int) ≤ most ∧ RowsInv k z.1 el nw) ∧ PotOk z.2 := by
  unfold t_law_steps
  refine ok_b2 (Q := fun a c => (0 ≤ a ∧ a < 9) ∧ PotOk c) (ok_draw hq (by decide) (by decide)) fun d1 q1 ⟨a1, p1⟩ => ?_
  refine ok_b2 (Q := fun a c => (0 ≤ a ∧ a < 9) ∧ PotOk c) (ok_draw p1 (by decide) (by decide)) fun d2 q2 ⟨a2, p2⟩ => ?_
  refine ok_b2 (Q := fun a c => (0 ≤ a ∧ a < most + 1) ∧ PotOk c) (ok_draw p2 (by omega) (by omega)) fun d3 q3 ⟨a3, p3⟩ => ?_
  refine ok_val (range1_of a3.1 (by omega)) ?_
  refine ok_foldN (fun k s => RowsInv k s.2.2.1 s.1 s.2.1 ∧ PotOk s.2.2.2) ⟨⟨rfl, pos_nil, List.Pairwise.nil, fun p hp => (by cases hp), by simp [U_nil], by dsimp only; omega, by dsimp only; omega, by dsimp only; omega, by dsimp only; omega, fun s hs => (by cases hs)⟩, p3⟩ (fun x hx j s hj hs => ?_) fun s hs => ?_
  · obtain ⟨el, nw, rows, q⟩ := s
    obtain ⟨hR, hq⟩ := hs
    dsimp only at hR hq ⊢
    rw [rangeI_length] at hj
    have hl := hR.len
    refine ok_b2 (Q := fun a c => (0 ≤ a ∧ a < 4) ∧ PotOk c) (ok_draw hq (by decide) (by decide)) fun e1 r1 ⟨b1, u1⟩ => ?_
    refine ok_val (appT_of (by omega)) ?_
    refine ok_b2 (Q := fun a c => (0 ≤ a ∧ a < 4) ∧ PotOk c) (ok_draw u1 (by decide) (by decide)) fun e2 r2 ⟨b2, u2⟩ => ?_
    obtain ⟨g, hg, hg1, hg2⟩ := ix3 b2
    refine ok_val hg (ok_val rfl ?_)
    refine ok_b2 (Q := fun a c => (0 ≤ a ∧ a < 4) ∧ PotOk c) (ok_draw u2 (by decide) (by decide)) fun e3 r3 ⟨b3, u3⟩ => ?_
    obtain ⟨h, hh, hh1, hh2⟩ := ix2 b3
    refine ok_val hh (ok_val rfl (ok_some ?_))
    exact ⟨hR.step (by omega) (by omega) hg1 hg2 hh1 hh2, u3⟩
  · rw [rangeI_length] at hs
    exact ok_some ⟨⟨_, _, _, by omega, hs.1⟩, hs.2⟩
end K10


set_option Elab.async false
set_option linter.all false
set_option maxRecDepth 100000
set_option maxHeartbeats 1000000
/-! what is refused: the first step that is wrong; marks, lengths, ranges -/
namespace K10
open PySem PySem.Spec PyProof.Rows L2 Dn Tn Stairs
section
variable {α : Type} {f : α → Option (Option Xn)}
theorem foldY_all : ∀ {ps : List α}, (∀ p ∈ ps, f p = some none) → foldY f ps = some none
  | [], _ => rfl
  | p :: ps, h => by
    unfold foldY
    rw [h p (List.mem_cons_self ..)]
    exact foldY_all fun q hq => h q (List.mem_cons_of_mem _ hq)
theorem foldY_at {q : α} {e : Xn} {r : List α} (h2 : f q = some (some e)) : ∀ {ps : List α}, (∀ p ∈ ps, f p = some none) → foldY f (ps ++ q :: r) = some (some e)
  | [], _ => by
    rw [List.nil_append]
    unfold foldY
    rw [h2]
  | p :: ps, h => by
    rw [List.cons_append]
    unfold foldY
    rw [h p (List.mem_cons_self ..)]
    exact foldY_at h2 fun q hq => h q (List.mem_cons_of_mem _ hq)
theorem enumT_app : ∀ (xs ys : List α) (k : Nat), enumT k (xs ++ ys) = enumT k xs ++ enumT (k + xs.length) ys
  | [], ys, k => rfl
  | x :: xs, ys, k => by
    rw [List.cons_append]
    unfold enumT
    rw [enumT_app xs ys (k + 1), List.cons_append, List.length_cons, show k + 1 + xs.length = k + (xs.length + 1) by omega]
    cases ys with
    | nil => rfl
    | cons y ys => rfl
end
def pdS (s : Stp) : Pd := ⟨stD s, pu_st s⟩
theorem stepD_st {s : Stp} (h : 1 ≤ s.2.2) : stepD (stD s) = some true := by
  show (if True ∧ True ∧ True then some (true && (true && true) && decide (1 ≤ s.2.2)) else none) = _ <;> simp [h]
theorem triD_st (s : Stp) : triD (stD s) = some s := rfl
section
variable {ys : List Stp} {post : List Pd}
theorem at_map (i : Nat) {s : Stp} (h : ys[i]? = some s) : (ys.map pdS ++ post)[i]? = some (pdS s) := by
  rw [List.getElem?_append_left (by rw [List.length_map]; exact (List.getElem?_eq_some_iff.mp h).1), List.getElem?_map, h]
  rfl
theorem good_step (h1 : ∀ (i : Nat) (s : Stp), ys[i]? = some s → 1 ≤ s.2.2) (h2 : ∀ (i : Nat) (p s : Stp), ys[i]? = some p → ys[i + 1]? = some s → goesUp p s = true) : ∀ p ∈ enumT 0 (ys.map pdS), x_step (ys.map pdS ++ post) p = some none := fun p hp => by
  obtain ⟨i, e1, e2⟩ := mem_enumT _ 0 p hp
  obtain ⟨pi, pd⟩ := p
  dsimp only at e1 e2
  rw [Nat.zero_add] at e2
  subst e2
  rw [List.getElem?_map] at e1
  obtain ⟨s, e3, e4⟩ := Option.map_eq_some_iff.mp e1
  subst e4
  unfold x_step
  dsimp only
  rw [show (pdS s).v = stD s from rfl, stepD_st (h1 i s e3), Option.bind_some, if_pos rfl]
  cases i with
  | zero => rw [if_neg (by decide)]
  | succ i =>
    have hlt : i < ys.length := by
      have := (List.getElem?_eq_some_iff.mp e3).1
      omega
    have hq : ys[i]? = some ys[i] := List.getElem?_eq_getElem hlt
    rw [if_pos (by omega), show ((i + 1 : Nat) : Int) - 1 = (i : Int) by omega, Dn.atI_nat, at_map i hq, Option.bind_some, show (pdS ys[i]).v = stD ys[i] from rfl, triD_st, Option.bind_some, triD_st, Option.bind_some, show riseB ys[i] s = goesUp ys[i] s from rfl, h2 i _ s hq e3, if_pos rfl]
end
/-- no step, or one that does not rise -/
def Bad (rs : List Stp) (n : Nat) (o : Pd) : Prop := stepD o.v = some false ∨ ∃ (j : Nat) (s t : Stp), n = j + 1 ∧ rs[j]? = some s ∧ o.v = stD t ∧ 1 ≤ t.2.2 ∧ goesUp s t = false
theorem x_bad {rs : List Stp} (hS : Steps rs) {n : Nat} (hn : n ≤ rs.length) {o : Pd} (hb : Bad rs n o) (post : List Pd) : x_mk ((rs.take n).map pdS ++ o :: post) = some (xnP (.int (n : Int))) := by
  obtain ⟨h1, h2⟩ := steps_at hS
  have t1 : ∀ (i : Nat) (s : Stp), (rs.take n)[i]? = some s → i < n ∧ rs[i]? = some s := fun i s h => by
    have hi : i < n := by
      have := (List.getElem?_eq_some_iff.mp h).1
      rw [List.length_take] at this
      omega
    rw [List.getElem?_take, if_pos hi] at h
    exact ⟨hi, h⟩
  have hl : ((rs.take n).map pdS).length = n := by rw [List.length_map, List.length_take]; omega
  have hg := good_step (ys := rs.take n) (post := o :: post) (fun i s h => h1 i s (t1 i s h).2) (fun i p s h h' => h2 i p s (t1 i p h).2 (t1 _ s h').2)
  have hq : x_step ((rs.take n).map pdS ++ o :: post) ((n : Int), o) = some (some (xnP (.int (n : Int)))) := by
    unfold x_step
    dsimp only
    rcases hb with hb | ⟨j, s, t, rfl, e1, e2, e3, e4⟩
    · rw [hb]
      rfl
    · rw [e2, stepD_st e3, Option.bind_some, if_pos rfl, if_pos (by omega), show ((j + 1 : Nat) : Int) - 1 = (j : Int) by omega, Dn.atI_nat, at_map j (by rw [List.getElem?_take, if_pos (by omega)]; exact e1), Option.bind_some, show (pdS s).v = stD s from rfl, triD_st, Option.bind_some, triD_st, Option.bind_some, show riseB s t = goesUp s t from rfl, e4, if_neg Bool.false_ne_true]
  have hE : enumT 0 ((rs.take n).map pdS ++ o :: post) = enumT 0 ((rs.take n).map pdS) ++ ((n : Int), o) :: enumT (n + 1) post := by
    rw [enumT_app, hl, Nat.zero_add]
    rfl
  unfold x_mk
  rw [hE, foldY_at hq hg]
theorem x_good {rs : List Stp} (hS : Steps rs) : x_mk (rs.map pdS) = if 60 < (rs.length : Int) then some xnM else none := by
  obtain ⟨h1, h2⟩ := steps_at hS
  have hg := good_step (ys := rs) (post := []) h1 h2
  rw [List.append_nil] at hg
  unfold x_mk
  rw [foldY_all hg]
  dsimp only
  rw [List.length_map]
/-! ### what is heard, compared -/
def HdOk (p : Pd) : Prop := ∃ q, toPg (fun _ => none) p.v = some q ∧ q.canLay0 = true ∧ q.depth ≤ 1
theorem hd_ok {a t : Str} (ha : PyData.strOk a = true) (ht : PyData.strOk t = true) : HdOk (hdL a t) := ⟨.list [.str a, .str t, .bool true], rfl, by simp [PyData.canLay0, PyData.canLayAll0, ha, ht], by simp [PyData.depth, PyData.depthAll]⟩
def told : Pd := ⟨.lst [.str "told"], rfl⟩
theorem told_ok : HdOk told := ⟨.list [.str "told"], rfl, by decide +kernel, by simp [PyData.depth, PyData.depthAll]⟩
theorem eq_list {ps : List Pd} (h : ∀ p ∈ ps, HdOk p) : eqPl (eL ePl ps) (eL ePl ps) = some true := by
  have key : ∀ ps : List Pd, (∀ p ∈ ps, HdOk p) → ∃ qs, toPLg (fun _ => none) (ps.map ePl) = some qs ∧ PyData.canLayAll0 qs = true ∧ PyData.depthAll qs ≤ 1 := by
    intro ps
    induction ps with
    | nil => intro _; exact ⟨[], rfl, rfl, by simp [PyData.depthAll]⟩
    | cons p ps ih =>
      intro h
      obtain ⟨q, e1, e2, e3⟩ := h p (List.mem_cons_self ..)
      obtain ⟨qs, f1, f2, f3⟩ := ih fun p hp => h p (List.mem_cons_of_mem _ hp)
      refine ⟨q :: qs, ?_, ?_, ?_⟩
      · rw [List.map_cons]
        unfold toPLg
        rw [show toPg (fun _ => none) (ePl p) = some q from e1]
        dsimp only
        rw [f1]
      · unfold PyData.canLayAll0
        rw [e2, f2]
        rfl
      · unfold PyData.depthAll
        exact Nat.max_le.mpr ⟨e3, f3⟩
  obtain ⟨qs, f1, f2, f3⟩ := key ps h
  have e : toPg (fun _ => none) (eL ePl ps) = some (.list qs) := by
    unfold eL toPg
    rw [f1]
    rfl
  have hs : SeqAt.shaped (.list qs) = true := by
    unfold SeqAt.shaped
    simp [PyData.canLay0, f2, PyData.depth]
    omega
  unfold eqPl
  rw [e]
  dsimp only
  rw [if_pos ⟨hs, hs⟩]
  refine congrArg some (PySem.SeqAt.eqv_refl _ ?_)
  simp only [PyData.canLay0]
  exact f2
/-- the text of a datum is there, and is text -/
def rpOk (d : D) : Bool := match reprX d with
  | some t => PyData.strOk t
  | none => false
theorem rp_of {d : D} (h : rpOk d = true) : ∃ t, reprX d = some t ∧ PyData.strOk t = true := by
  unfold rpOk at h
  split at h
  · rename_i t e
    exact ⟨t, e, h⟩
  · cases h
theorem ok_steps' : PyData.strOk ("steps" : Str) = true := by decide +kernel
theorem ok_mark' : PyData.strOk ("mark" : Str) = true := by decide +kernel
theorem ok_length' : PyData.strOk ("length" : Str) = true := by decide +kernel
theorem ok_range' : PyData.strOk ("range" : Str) = true := by decide +kernel
theorem due_is {w t : Str} {d : Pd} (h : reprX d.v = some t) : t_law_due w d = some (hdL w t) := by
  unfold t_law_due
  rw [show reprX (ePl d) = some t from h]
  rfl
section
variable {v : Option D}
theorem heard_steps {d : D} {t : Str} (h : reprX d = some t) : hearG (fun z : D => tv_law_told z) tx_law_told (some (xnP d)) v = some (hdL "steps" t) := by
  show hdX "steps" "position" (xnP d) = _
  show Option.bind (reprX d) _ = _
  rw [h]
  rfl
theorem heard_V {c w : Str} {d : D} {t : Str} (hx : tx_law_told (xnV c d) = hdX w "value" (xnV c d)) (h : reprX d = some t) : hearG (fun z : D => tv_law_told z) tx_law_told (some (xnV c d)) v = some (hdL w t) := by
  show tx_law_told (xnV c d) = _
  rw [hx]
  show Option.bind (reprX d) _ = _
  rw [h]
  rfl
end
theorem heard_M : hearG (fun z : D => tv_law_told z) tx_law_told (some xnM) none = some (hdL "steps" "60") := by
  show hdX "steps" "limit" xnM = _
  unfold hdX
  rw [show List.lookup ("limit" : Str) xnM.fs = some (.int 60) from rfl, Option.bind_some]
  rw [show reprX (.int 60) = some "60" by decide +kernel]
  rfl

/-! ### steps with a wrong one among them -/
theorem rows_bounds {rows : List Stp} (hne : rows ≠ []) : ∃ r, L2.atI rows 0 = some r := by
  cases rows with
  | nil => exact absurd rfl hne
  | cons r rs => exact ⟨r, by rw [show (0 : Int) = ((0 : Nat) : Int) from rfl, Dn.atI_nat]; rfl⟩
theorem cut_head {α : Type} (xs : List α) (n : Nat) : cutT xs none (some (n : Int)) = xs.take n := by
  unfold cutT
  have h2 : HT.sIx xs.length xs.length (some (n : Int)) = min n xs.length := HT.sIx_nat _ _ n
  rw [h2]
  have h1 : HT.sIx xs.length 0 none = 0 := rfl
  rw [h1]
  simp
theorem cut_tail {α : Type} (xs : List α) (n : Nat) (h : n ≤ xs.length) : cutT xs (some (n : Int)) none = xs.drop n := by
  unfold cutT
  have h2 : HT.sIx xs.length 0 (some (n : Int)) = min n xs.length := HT.sIx_nat _ _ n
  rw [h2, HT.sIx_none, Nat.min_eq_left h]
  exact List.take_of_length_le (by rw [List.length_drop]; omega)
theorem rep3 {α : Type} (xs : List α) (h : xs.length ≤ 1000) : repLT xs 3 = some (xs ++ (xs ++ (xs ++ []))) := by
  unfold repLT
  rw [if_pos ⟨by decide, by show xs.length * 3 ≤ 100000; omega⟩]
  rfl
theorem rep2 {α : Type} (xs : List α) (h : xs.length ≤ 1000) : repLT xs 2 = some (xs ++ (xs ++ [])) := by
  unfold repLT
  rw [if_pos ⟨by decide, by show xs.length * 2 ≤ 100000; omega⟩]
  rfl
theorem no_len {a b c : Int} (h : c < 1) : stepD (.tup [.int a, .int b, .int c]) = some false := by
  show some (decide (1 ≤ c)) = _
  rw [decide_eq_false (by omega)]
theorem ok_wrong {rows : List Stp} (hS : Steps rows) (h6 : rows.length ≤ 6) (hne : rows ≠ []) {q : Pot} (hq : PotOk q) : Ok (t_law_wrong rows q) fun z => (∃ (n : Nat) (o : Pd), n ≤ rows.length ∧ z.1 = ((rows.take n).map pdS ++ o :: (rows.drop n).map pdS, (n : Int)) ∧ Bad rows n o) ∧ PotOk z.2 := by
  obtain ⟨s1, s2⟩ := steps_at hS
  unfold t_law_wrong
  refine ok_b2 (Q := fun a c => (0 ≤ a ∧ a < (rows.length : Int) + 1) ∧ PotOk c) (ok_draw hq (by omega) (by omega)) fun x1 q2 ⟨hx, p2⟩ => ?_
  obtain ⟨n, rfl⟩ : ∃ n : Nat, x1 = (n : Int) := ⟨x1.toNat, by omega⟩
  have hn : n ≤ rows.length := by omega
  obtain ⟨r, hr⟩ := rows_bounds hne
  refine ok_val hr (ok_val hr ?_)
  have hprev : (0 : Int) < (n : Int) → ∃ (j : Nat) (p : Stp), n = j + 1 ∧ rows[j]? = some p ∧ 1 ≤ p.2.2 ∧ L2.atI rows ((n : Int) - 1) = some p := fun h0 => by
    obtain ⟨j, rfl⟩ : ∃ j, n = j + 1 := ⟨n - 1, by omega⟩
    have hj : rows[j]? = some rows[j] := List.getElem?_eq_getElem (by omega)
    exact ⟨j, rows[j], rfl, hj, s1 j _ hj, by rw [show ((j + 1 : Nat) : Int) - 1 = (j : Int) by omega, Dn.atI_nat]; exact hj⟩
  refine ok_bind (Q := fun j : Int × Int => ∀ p : Stp, (0 : Int) < (n : Int) → L2.atI rows ((n : Int) - 1) = some p → j = (p.1 + p.2.2, p.2.1 + p.2.2)) ?_ fun j22 hj22 => ?_
  · refine ok_val rfl ?_
    by_cases h0 : (0 : Int) < (n : Int)
    · rw [decide_eq_true h0, ifO_t]
      obtain ⟨j, p, _, _, _, e⟩ := hprev h0
      refine ok_val e (ok_val e (ok_val rfl (ok_val e (ok_val e (ok_val rfl (ok_some fun p' _ e' => ?_))))))
      rw [e] at e'
      cases e'
      rfl
    · rw [decide_eq_false h0, ifO_f]
      exact ok_some fun p h _ => absurd h h0
  obtain ⟨b, e⟩ := j22
  dsimp only at hj22 ⊢
  refine ok_val rfl (ok_val (catT_of (by simp)) (ok_val (catT_of (by simp)) ?_))
  refine ok_bind (Q := fun xs : List Pd => (∀ o ∈ xs, Bad rows n o) ∧ xs ≠ [] ∧ xs.length ≤ 100) ?_ fun some38 h38 => ?_
  · have hall : ∀ xs : List Pd, (∀ o ∈ xs, stepD o.v = some false) → ∀ o ∈ xs, Bad rows n o := fun xs h o ho => .inl (h o ho)
    have h28 : ∀ o ∈ (([(⟨.non, rfl⟩ : Pd), (⟨(.int 5), rfl⟩ : Pd), (⟨(.str ("abc" : Str)), rfl⟩ : Pd), (⟨(eL ePl ([])), (pu_L pu_Pl) ([])⟩ : Pd), (⟨(.tup []), rfl⟩ : Pd), (plT [(⟨(.int b), rfl⟩ : Pd), (⟨(.int e), rfl⟩ : Pd)]), (⟨(eL ePl ([(⟨(.int b), rfl⟩ : Pd), (⟨(.int e), rfl⟩ : Pd), (⟨(.int 1), rfl⟩ : Pd)])), (pu_L pu_Pl) ([(⟨(.int b), rfl⟩ : Pd), (⟨(.int e), rfl⟩ : Pd), (⟨(.int 1), rfl⟩ : Pd)])⟩ : Pd), (plT [(⟨(.int b), rfl⟩ : Pd), (⟨(.int e), rfl⟩ : Pd), (⟨(.int 0), rfl⟩ : Pd)]), (plT [(⟨(.int b), rfl⟩ : Pd), (⟨(.int e), rfl⟩ : Pd), (⟨(.int (-1)), rfl⟩ : Pd)])] ++
        [(plT [(⟨(.int b), rfl⟩ : Pd), (⟨(.int e), rfl⟩ : Pd), (⟨(.bl true), rfl⟩ : Pd)]), (plT [(⟨(.bl true), rfl⟩ : Pd), (⟨(.int 1), rfl⟩ : Pd), (⟨(.int 1), rfl⟩ : Pd)]), (plT [(⟨(.int b), rfl⟩ : Pd), (⟨.non, rfl⟩ : Pd), (⟨(.int 1), rfl⟩ : Pd)]), (plT [(⟨(.int b), rfl⟩ : Pd), (⟨(.str ("1" : Str)), rfl⟩ : Pd), (⟨(.int 1), rfl⟩ : Pd)]), (plT [(⟨(.int b), rfl⟩ : Pd), (⟨(.int e), rfl⟩ : Pd), (⟨(.int 1), rfl⟩ : Pd), (⟨(.int 1), rfl⟩ : Pd)])]) ++
        [(plT [(⟨(.int b), rfl⟩ : Pd), (⟨(.bl true), rfl⟩ : Pd), (⟨(.int 1), rfl⟩ : Pd)]), (plT [(⟨(.bl true), rfl⟩ : Pd), (⟨(.bl true), rfl⟩ : Pd), (⟨(.int 1), rfl⟩ : Pd)])]), stepD o.v = some false := by
      intro o ho
      simp only [List.mem_append, List.mem_cons, List.not_mem_nil, or_false] at ho
      rcases ho with ((rfl | rfl | rfl | rfl | rfl | rfl | rfl | rfl | rfl) | (rfl | rfl | rfl | rfl | rfl)) | (rfl | rfl)
      all_goals first
        | rfl
        | exact no_len (by decide)
    refine ok_val rfl ?_
    by_cases h0 : (0 : Int) < (n : Int)
    · rw [decide_eq_true h0, ifO_t]
      obtain ⟨j, p, ej, e1, e2, e3⟩ := hprev h0
      have hb := hj22 p h0 e3
      obtain ⟨hb1, hb2⟩ := Prod.mk.inj hb
      refine ok_val e3 (ok_val (rep3 _ (by simp)) (ok_val (catT_of (by simp)) (ok_some ⟨fun o ho => ?_, by simp, by simp⟩)))
      rcases List.mem_append.mp ho with ho | ho
      · exact .inl (h28 o ho)
      · have key : ∀ t : Stp, 1 ≤ t.2.2 → goesUp p t = false → ∀ o : Pd, o.v = stD t → Bad rows n o := fun t ht hg o ho => .inr ⟨j, p, t, ej, e1, ho, ht, hg⟩
        have g1 : goesUp p (b - 1, e, 1) = false := by
          unfold goesUp
          rw [decide_eq_false (by dsimp only; omega)]
          rfl
        have g2 : goesUp p (b, e - 1, 1) = false := by
          unfold goesUp
          rw [Bool.and_eq_false_iff]
          exact .inr (decide_eq_false (by dsimp only; omega))
        have g3 : goesUp p (p.1, e + 5, 9) = false := by
          unfold goesUp
          rw [decide_eq_false (by dsimp only; omega)]
          rfl
        simp only [List.mem_append, List.mem_cons, List.not_mem_nil, or_false] at ho
        rcases ho with (rfl | rfl | rfl) | (rfl | rfl | rfl) | (rfl | rfl | rfl)
        · exact key _ (show (1 : Int) ≤ 1 by decide) g1 _ rfl
        · exact key _ (show (1 : Int) ≤ 1 by decide) g2 _ rfl
        · exact key _ (show (1 : Int) ≤ 9 by decide) g3 _ rfl
        · exact key _ (show (1 : Int) ≤ 1 by decide) g1 _ rfl
        · exact key _ (show (1 : Int) ≤ 1 by decide) g2 _ rfl
        · exact key _ (show (1 : Int) ≤ 9 by decide) g3 _ rfl
        · exact key _ (show (1 : Int) ≤ 1 by decide) g1 _ rfl
        · exact key _ (show (1 : Int) ≤ 1 by decide) g2 _ rfl
        · exact key _ (show (1 : Int) ≤ 9 by decide) g3 _ rfl
    · rw [decide_eq_false h0, ifO_f]
      exact ok_some ⟨hall _ h28, by simp, by simp⟩
  refine ok_b2 (Q := fun a c => a ∈ some38 ∧ PotOk c) (ok_pick p2 h38.2.1 (by omega)) fun o q41 ⟨ho, p41⟩ => ?_
  rw [cut_head, cut_tail rows n hn]
  refine ok_val (catT_of (by unfold plM; rw [List.length_map, List.length_take, List.length_singleton]; omega)) (ok_val (catT_of (by unfold plM; rw [List.length_append, List.length_map, List.length_take, List.length_singleton, List.length_map, List.length_drop]; omega)) (ok_some ⟨⟨n, o, hn, ?_, h38.1 o ho⟩, p41⟩))
  show (((rows.take n).map pdS ++ [o]) ++ (rows.drop n).map pdS, (n : Int)) = _
  rw [List.append_assoc]
  rfl
structure Few (S : List Stp) (ps : List (Int × Int)) : Prop where
  st : Stair S ps
  few : ps.length ≤ 300
  near : ∀ p ∈ ps, (-900 ≤ p.1 ∧ p.1 ≤ 900) ∧ (-900 ≤ p.2 ∧ p.2 ≤ 900)
theorem Few.len {S : List Stp} {ps : List (Int × Int)} (h : Few S ps) : S.length ≤ 300 := Nat.le_trans h.st.len h.few
theorem num_shw {i : Int} (h : -9000 ≤ i ∧ i ≤ 9000) : Shw (.int i) 5 0 := shw_intS 4 (by decide) (by omega) (by
  by_cases h0 : i.natAbs = 0
  · rw [h0]; decide
  · have h1 : i.natAbs.log2 < 14 := (Nat.log2_lt h0).mpr (by omega)
    omega)
theorem few_comp {S : List Stp} {ps : List (Int × Int)} (h : Few S ps) {s : Stp} (hs : s ∈ S) : (-900 ≤ s.1 ∧ s.1 ≤ 900) ∧ (-900 ≤ s.2.1 ∧ s.2.1 ≤ 900) ∧ 1 ≤ s.2.2 ∧ s.2.2 ≤ 1900 := by
  have h1 := h.st.pos s hs
  have m1 : (s.1, s.2.1) ∈ ps := by
    rw [← h.st.u]
    exact mem_U.mpr ⟨s, hs, mem_units.mpr ⟨by dsimp only; omega, by dsimp only; omega, by dsimp only⟩⟩
  have m2 : (s.1 + s.2.2 - 1, s.2.1 + s.2.2 - 1) ∈ ps := by
    rw [← h.st.u]
    exact mem_U.mpr ⟨s, hs, mem_units.mpr ⟨by dsimp only; omega, by dsimp only; omega, by dsimp only; omega⟩⟩
  have a := h.near _ m1
  have b := h.near _ m2
  dsimp only at a b
  omega
theorem steps_shw {S : List Stp} {ps : List (Int × Int)} (h : Few S ps) : Shw (eL stD S) (2 + S.length * 26) 2 := by
  refine shw_L (n := 24) (k := 1) fun s hs => ?_
  obtain ⟨h1, h2, h3, h4⟩ := few_comp h hs
  have z := toPL_tup (ds := [.int s.1, .int s.2.1, .int s.2.2]) (n := 5) (k := 0) (fun d hd => by
    simp only [List.mem_cons, List.not_mem_nil, or_false] at hd
    rcases hd with rfl | rfl | rfl <;> exact num_shw (by omega))
  exact z
theorem obj_text {S : List Stp} {ps : List (Int × Int)} (h : Few S ps) : ∃ t, objT "Stair" "own_steps" "Stair(" ")" (e_Stair S) = some t ∧ t.length ≤ 10000 := by
  obtain ⟨p, e, r⟩ := steps_shw h
  have hl := h.len
  have e' : (toPLg (fun _ => none) (S.map stD)).map PyData.list = some p := by
    have : toPg (fun _ => none) (.lst (S.map stD)) = some p := e
    unfold toPg at this
    exact this
  cases e2 : toPLg (fun _ => none) (S.map stD) with
  | none => rw [e2] at e'; cases e'
  | some ds =>
    rw [e2] at e'
    have e3 : PyData.list ds = p := Option.some.inj e'
    have hln := r.ln
    have hdp := r.dp
    have h1 : (Str.ofString "Stair(").length = 6 := by decide
    have h2 : (Str.ofString ")").length = 1 := by decide
    have h0 : (Str.empty).length = 0 := rfl
    refine ⟨Str.empty ++ "Stair(" ++ (PyData.list ds).shown ++ ")", ?_, ?_⟩
    · have hlk : List.lookup ("own_steps" : Str) [(("own_steps" : Str), eT stD S)] = some (D.tup (S.map stD)) := rfl
      show objT "Stair" "own_steps" "Stair(" ")" (D.obj "Stair" [("own_steps", eT stD S)]) = _
      unfold objT
      dsimp only
      rw [if_pos rfl, hlk]
      dsimp only
      rw [e2]
      dsimp only
      rw [if_pos]
      refine ⟨?_, ?_, ?_⟩
      · rw [e3]
        unfold okRep
        have : p.shown.length ≤ 100000 := by omega
        simp [r.sh, r.nd]
        omega
      · rw [str_app_len, str_app_len, h0, h1, e3]
        omega
      · rw [str_app_len, str_app_len, str_app_len, h0, h1, h2, e3]
        omega
    · rw [str_app_len, str_app_len, str_app_len, h0, h1, h2, e3]
      omega

theorem rows_few {k : Nat} {rows : List Stp} {el nw : Int} (h : RowsInv k rows el nw) (hk : k ≤ 5) : Few (oneForm rows) (U rows) :=
  ⟨stair_rows h.pos h.rise, by have := h.few; omega, fun p hp => by
    have h1 := h.lt p hp
    have h2 := h.hi
    have h3 := h.hi2
    omega⟩
theorem rows_steps {k : Nat} {rows : List Stp} {el nw : Int} (h : RowsInv k rows el nw) : Steps rows := steps_of h.pos h.rise
theorem rows_more {k : Nat} {rows : List Stp} {el nw : Int} (h : RowsInv k rows el nw) (hk : k ≤ 5) {d : Int} (hd : 0 ≤ d) : Steps (rows ++ [(90, 80, 1 + d)]) := by
  have eU : U (rows ++ [(90, 80, 1 + d)]) = U rows ++ unitsOf (90, 80, 1 + d) := by rw [U_append, U_cons, U_nil, List.append_nil]
  refine steps_of (fun s hs => ?_) ?_
  · rcases List.mem_append.mp hs with h1 | h1
    · exact h.pos s h1
    · rw [List.mem_singleton.mp h1]; show 1 ≤ 1 + d; omega
  · rw [eU]
    refine List.pairwise_append.mpr ⟨h.rise, rise_units _, fun p hp q hq => ?_⟩
    have h1 := h.lt p hp
    have h2 := mem_units.mp hq
    have h3 := h.hi
    have h4 := h.hi2
    dsimp only at h2
    omega
/-! ### the parts of the law -/
theorem small_rp : ((List.range 8).all fun n => rpOk (.int (n : Int))) = true := by decide +kernel
theorem odd_ok (x17 x19 : List Stp) : ∀ o ∈ ([(⟨.non, rfl⟩ : Pd), (⟨(.int 0), rfl⟩ : Pd), (⟨(.int 7), rfl⟩ : Pd), (⟨(.bl true), rfl⟩ : Pd), (⟨(.str ("" : Str)), rfl⟩ : Pd), (⟨(.str ("abc" : Str)), rfl⟩ : Pd), (⟨(.dct []), rfl⟩ : Pd), (⟨.dcT [([.inl 0, .inl 0, .inl 1], .int 1)], rfl⟩ : Pd), (⟨(e_Stair x17), pu_Stair x17⟩ : Pd), (⟨(e_Stair x19), pu_Stair x19⟩ : Pd)] : List Pd), x_mkO o = some (xnP .non) := by
  intro o ho
  simp only [List.mem_cons, List.not_mem_nil, or_false] at ho
  rcases ho with rfl | rfl | rfl | rfl | rfl | rfl | rfl | rfl | rfl | rfl
  all_goals exact if_pos ⟨rfl, rfl⟩
theorem none_rp : reprX .non = some "None" := by decide +kernel
theorem ok_steps_right {q : Pot} (hq : PotOk q) : Ok (t_law_steps_right q) fun z => z.1 = true ∧ PotOk z.2 := by
  unfold t_law_steps_right
  refine ok_b2 (Q := fun (a : List Stp) c => (∃ (k : Nat) (el nw : Int), (k : Int) ≤ 5 ∧ RowsInv k a el nw) ∧ PotOk c) (ok_steps hq (by decide) (by decide)) fun x1 q2 ⟨⟨k, el, nw, hk, hR⟩, p2⟩ => ?_
  refine ok_b2 (Q := fun a c => (0 ≤ a ∧ a < 3) ∧ PotOk c) (ok_draw p2 (by decide) (by decide)) fun x4 q5 ⟨hx4, p5⟩ => ?_
  have hl := hR.len
  refine ok_val (catT_of (by rw [List.length_singleton]; omega)) ?_
  have hS := rows_more hR (by omega) hx4.1
  have hlen : (x1 ++ [(90, 80, 1 + x4)]).length ≤ 6 := by rw [List.length_append, List.length_singleton]; omega
  refine ok_b2 (Q := fun a c => (∃ (n : Nat) (o : Pd), n ≤ (x1 ++ [(90, 80, 1 + x4)]).length ∧ a = (((x1 ++ [(90, 80, 1 + x4)]).take n).map pdS ++ o :: ((x1 ++ [(90, 80, 1 + x4)]).drop n).map pdS, (n : Int)) ∧ Bad (x1 ++ [(90, 80, 1 + x4)]) n o) ∧ PotOk c) (ok_wrong hS hlen (by simp) p5) fun x9 q10 ⟨⟨n, o, hn, e9, hb⟩, p10⟩ => ?_
  subst e9
  generalize x1 ++ [(90, 80, 1 + x4)] = rows at hS hlen hn hb ⊢
  dsimp only
  refine ok_b2 (Q := fun (a : Pd) c => PotOk c) ?_ fun x12 q13 p13 => ?_
  · obtain ⟨z, e, _, h2⟩ := ok_pick (xs := ([(⟨.non, rfl⟩ : Pd), (⟨(.tup []), rfl⟩ : Pd), (plT [(⟨(.int ((0, 0, 0).1)), rfl⟩ : Pd), (⟨(.int ((0, 0, 0).2.1)), rfl⟩ : Pd), (⟨(.int ((0, 0, 0).2.2)), rfl⟩ : Pd)]), (⟨(.str ("x" : Str)), rfl⟩ : Pd)] : List Pd)) p10 (by simp) (by simp)
    exact ⟨z, e, h2⟩
  have hl2 : (List.map pdS (rows.take n) ++ o :: List.map pdS (rows.drop n)).length ≤ 7 := by
    rw [List.length_append, List.length_cons, List.length_map, List.length_map, List.length_take, List.length_drop]
    omega
  refine ok_val (catT_of (by rw [List.length_singleton]; omega)) ?_
  refine ok_val (p_init hS (by omega)) (ok_val (p_init (ys := []) trivial (by decide)) ?_)
  refine ok_b2 (Q := fun (a : Pd) c => x_mkO a = some (xnP .non) ∧ PotOk c) ?_ fun x21 q22 ⟨h21, p22⟩ => ?_
  · obtain ⟨z, e, h1, h2⟩ := ok_pick (xs := ([(⟨.non, rfl⟩ : Pd), (⟨(.int 0), rfl⟩ : Pd), (⟨(.int 7), rfl⟩ : Pd), (⟨(.bl true), rfl⟩ : Pd), (⟨(.str ("" : Str)), rfl⟩ : Pd), (⟨(.str ("abc" : Str)), rfl⟩ : Pd), (⟨(.dct []), rfl⟩ : Pd), (⟨.dcT [([.inl 0, .inl 0, .inl 1], .int 1)], rfl⟩ : Pd), (⟨(e_Stair (oneForm rows)), pu_Stair (oneForm rows)⟩ : Pd), (⟨(e_Stair (oneForm [])), pu_Stair (oneForm [])⟩ : Pd)] : List Pd)) p13 (by simp) (by simp)
    exact ⟨z, e, odd_ok _ _ _ h1, h2⟩
  have hrp : rpOk (.int (n : Int)) = true := List.all_eq_true.mp small_rp n (List.mem_range.mpr (by omega))
  obtain ⟨t, ht, hts⟩ := rp_of hrp
  have a1 := x_bad hS hn hb ((rows.drop n).map pdS)
  have a2 := x_bad hS hn hb ((rows.drop n).map pdS ++ [x12])
  refine ok_val (a := hdL "steps" t) (by rw [a1]; exact heard_steps ht) ?_
  refine ok_val (a := hdL "steps" t) (by rw [List.append_assoc, List.cons_append, a2]; exact heard_steps ht) ?_
  refine ok_val (show appT [hdL "steps" t] (hdL "steps" t) = some [hdL "steps" t, hdL "steps" t] from rfl) ?_
  refine ok_val (a := hdL "steps" "None") (by rw [h21]; exact heard_steps none_rp) ?_
  refine ok_val (show appT [hdL "steps" t, hdL "steps" t] (hdL "steps" "None") = some [hdL "steps" t, hdL "steps" t, hdL "steps" "None"] from rfl) ?_
  refine ok_val (a := told) (by rw [p_init hS (by omega)]; rfl) ?_
  refine ok_val (show appT [hdL "steps" t, hdL "steps" t, hdL "steps" "None"] told = some [hdL "steps" t, hdL "steps" t, hdL "steps" "None", told] from rfl) ?_
  refine ok_val (due_is (d := ⟨.int (n : Int), rfl⟩) ht) (ok_val (rep2 _ (by simp)) (ok_val (due_is (d := ⟨.non, rfl⟩) none_rp) (ok_val (catT_of (by simp)) ?_)))
  have eq := eq_list (ps := [hdL "steps" t, hdL "steps" t, hdL "steps" "None", told]) (fun p hp => by
    simp only [List.mem_cons, List.not_mem_nil, or_false] at hp
    rcases hp with rfl | rfl | rfl | rfl
    · exact hd_ok ok_steps' hts
    · exact hd_ok ok_steps' hts
    · exact hd_ok ok_steps' (by decide +kernel)
    · exact told_ok)
  exact ok_val eq (ok_some ⟨rfl, p22⟩)
end K10


set_option Elab.async false
set_option linter.all false
set_option maxRecDepth 100000
set_option maxHeartbeats 1000000
/-! the texts of what is told -/
namespace K10
open PySem PySem.Spec PyProof.Rows L2 Dn Tn Stairs
/-! ### marks, lengths, ranges -/
def wrongs : List Pd := [(⟨.non, rfl⟩ : Pd), (⟨(.bl true), rfl⟩ : Pd), (⟨(.bl false), rfl⟩ : Pd), (⟨(.str ("1" : Str)), rfl⟩ : Pd), (⟨(.str ("" : Str)), rfl⟩ : Pd), (plT [(⟨(.int (1)), rfl⟩ : Pd)]), (⟨(eL ePl ([(⟨(.int 1), rfl⟩ : Pd)])), (pu_L pu_Pl) ([(⟨(.int 1), rfl⟩ : Pd)])⟩ : Pd), (⟨(.dct []), rfl⟩ : Pd)]
def lens : List Pd := [(⟨(.int 0), rfl⟩ : Pd), (⟨(.int (-1)), rfl⟩ : Pd), (⟨(.bl true), rfl⟩ : Pd), (⟨.non, rfl⟩ : Pd), (⟨(.str ("3" : Str)), rfl⟩ : Pd), (plT [(⟨(.int (2)), rfl⟩ : Pd)]), (⟨(.int (-100000000000000000000)), rfl⟩ : Pd)]
theorem wrongs_rp : (wrongs.all fun d => rpOk d.v) = true := by decide +kernel
theorem lens_rp : (lens.all fun d => rpOk d.v) = true := by decide +kernel
theorem pair1_rp : ((List.range 40).all fun k => wrongs.all fun d => rpOk (.tup [.int ((k : Int) - 9), d.v]) && rpOk (.tup [d.v, .int ((k : Int) - 9)])) = true := by decide +kernel
theorem pair2_rp : ((List.range 40).all fun k => (List.range 40).all fun l => rpOk (.tup [.int ((k : Int) - 9), .int ((l : Int) - 9)])) = true := by decide +kernel
end K10


set_option Elab.async false
set_option linter.all false
set_option maxRecDepth 100000
set_option maxHeartbeats 1000000
/-! many steps; marks, lengths, ranges -/
namespace K10
open PySem PySem.Spec PyProof.Rows L2 Dn Tn Stairs
def stepsB : List Stp → Bool
  | [] => true
  | [s] => decide (1 ≤ s.2.2)
  | s :: t :: r => decide (1 ≤ s.2.2) && goesUp s t && stepsB (t :: r)
theorem stepsB_ok : ∀ {xs : List Stp}, stepsB xs = true → Steps xs
  | [], _ => trivial
  | [s], h => show 1 ≤ s.2.2 from of_decide_eq_true (show decide (1 ≤ s.2.2) = true from h)
  | s :: t :: r, h => by
    unfold stepsB at h
    rw [Bool.and_eq_true, Bool.and_eq_true] at h
    exact ⟨of_decide_eq_true h.1.1, h.1.2, stepsB_ok h.2⟩
def rowsM (g : Int) : List Stp := (rangeI 0 60).map fun k => ((1 + g) * k, k, 1)
theorem rowsM_0 : stepsB (rowsM 0 ++ [(60, 60, 1)]) = true ∧ stepsB (rowsM 0) = true := by decide +kernel
theorem rowsM_1 : stepsB (rowsM 1 ++ [(120, 60, 1)]) = true ∧ stepsB (rowsM 1) = true := by decide +kernel
theorem rowsM_len (g : Int) : (rowsM g).length = 60 := by unfold rowsM; rw [List.length_map, rangeI_length]
theorem ok_many_right {q : Pot} (hq : PotOk q) : Ok (t_law_many_right q) fun z => z.1 = true ∧ PotOk z.2 := by
  unfold t_law_many_right
  refine ok_b2 (Q := fun a c => (0 ≤ a ∧ a < 2) ∧ PotOk c) (ok_draw hq (by decide) (by decide)) fun x1 q2 ⟨hx, p2⟩ => ?_
  refine ok_val (range1_of (j := 60) (by decide) (by decide)) ?_
  rw [show (60 : Int).toNat = 60 from rfl]
  obtain ⟨w, hw, hS1, hS0, hm⟩ : ∃ w : Int, mulT (1 + x1) 60 = some w ∧ Steps (rowsM x1 ++ [(w, 60, 1)]) ∧ Steps (rowsM x1) ∧ lcO (β := Int × Int × Int) (fun (ev6 : Int) => Option.bind (mulT (1 + x1) ev6) fun x7 => some (some (x7, ev6, 1))) (rangeI 0 60) = some (rowsM x1) := by
    have : x1 = 0 ∨ x1 = 1 := by omega
    rcases this with rfl | rfl
    · exact ⟨60, by decide +kernel, stepsB_ok rowsM_0.1, stepsB_ok rowsM_0.2, by decide +kernel⟩
    · exact ⟨120, by decide +kernel, stepsB_ok rowsM_1.1, stepsB_ok rowsM_1.2, by decide +kernel⟩
  have hl := rowsM_len x1
  refine ok_val hm (ok_val hw (ok_val (catT_of (by rw [hl, List.length_singleton]; decide)) ?_))
  have hl1 : (rowsM x1 ++ [(w, 60, 1)]).length = 61 := by rw [List.length_append, hl, List.length_singleton]
  refine ok_val (a := told) (by rw [p_init hS0 (by omega)]; rfl) ?_
  generalize er : rowsM x1 ++ [(w, 60, 1)] = R at hS1 hl1 ⊢
  have g1 : x_mk (plM pu_st R) = some xnM := by
    show x_mk (R.map pdS) = _
    rw [x_good hS1, if_pos (by omega)]
  refine ok_val (a := hdL "steps" "60") (by rw [g1]; exact heard_M) ?_
  refine ok_val (show appT [told] (hdL "steps" "60") = some [told, hdL "steps" "60"] from rfl) ?_
  have hlast : R[60]? = some (w, 60, 1) := by
    rw [← er, List.getElem?_append_right (by omega), hl]
    rfl
  have hb : Bad R 61 (pdS (0, 0, 1)) := .inr ⟨60, (w, 60, 1), (0, 0, 1), rfl, hlast, rfl, (show (1 : Int) ≤ 1 by decide), by
    unfold goesUp
    rw [Bool.and_eq_false_iff]
    exact .inr (decide_eq_false (by dsimp only; omega))⟩
  have g2 := x_bad hS1 (n := 61) (by omega) hb []
  rw [List.take_of_length_le (by omega)] at g2
  have g3 : (Option.bind (catT R ([(0, 0, 1)])) fun x21 => x_mk (plM pu_st x21)) = some (xnP (.int 61)) := by
    rw [catT_of (by rw [hl1, List.length_singleton]; decide), Option.bind_some]
    show x_mk ((R ++ [(0, 0, 1)]).map pdS) = _
    rw [List.map_append]
    exact g2
  refine ok_val (a := hdL "steps" "61") (by rw [g3]; exact heard_steps (by decide +kernel)) ?_
  refine ok_val (show appT [told, hdL "steps" "60"] (hdL "steps" "61") = some [told, hdL "steps" "60", hdL "steps" "61"] from rfl) ?_
  have eq := eq_list (ps := [told, hdL "steps" "60", hdL "steps" "61"]) (fun p hp => by
    simp only [List.mem_cons, List.not_mem_nil, or_false] at hp
    rcases hp with rfl | rfl | rfl
    · exact told_ok
    · exact hd_ok ok_steps' (by decide +kernel)
    · exact hd_ok ok_steps' (by decide +kernel))
  exact ok_val eq (ok_some ⟨rfl, p2⟩)
theorem wrongs_odd : ∀ d ∈ wrongs, okOd d.v = true ∧ isIntD d.v = false := by
  intro d hd
  unfold wrongs at hd
  simp only [List.mem_cons, List.not_mem_nil, or_false] at hd
  rcases hd with rfl | rfl | rfl | rfl | rfl | rfl | rfl | rfl <;> exact ⟨rfl, rfl⟩
theorem lens_odd : ∀ d ∈ lens, okOd d.v = true ∧ ((match d.v with
  | .int l => if l < 1 then some (xnV "InvalidLength" d.v) else none
  | _ => some (xnV "InvalidLength" d.v)) = some (xnV "InvalidLength" d.v)) := by
  intro d hd
  unfold lens at hd
  simp only [List.mem_cons, List.not_mem_nil, or_false] at hd
  rcases hd with rfl | rfl | rfl | rfl | rfl | rfl | rfl <;> exact ⟨rfl, rfl⟩
def Ent (M : List Stp) (ev : Pd × Pd × Int) : Prop := ∃ pd : Pd, HdOk pd ∧ hearG (fun z => tv_law_told ((fun z : D => z) z)) tx_law_told (x_range ev.1 ev.2.1) (p_limited M ev.1 ev.2.1) = some pd ∧ hearG (fun z => tv_law_told ((fun z : D => z) z)) tx_law_told (x_range ev.1 ev.2.1) (p_ranges M ev.1 ev.2.1) = some pd ∧
  hearG (fun z => tv_law_told ((fun z : D => z) z)) tx_law_told (x_range ev.1 ev.2.1) (p_cut_in M ev.1 ev.2.1) = some pd ∧ ifO (decide (0 < ev.2.2)) (Option.bind (t_law_due ("range" : Str) (plT [(ev.1, ev.2.1).1, (ev.1, ev.2.1).2])) fun x57 => some x57) (some (⟨(eL ePl ([(⟨(.str ("told" : Str)), rfl⟩ : Pd)])), (pu_L pu_Pl) ([(⟨(.str ("told" : Str)), rfl⟩ : Pd)])⟩ : Pd)) = some pd
theorem ent_bad {M : List Stp} {a b : Pd} (hx : x_range a b = some (xnV "InvalidRange" (.tup [a.v, b.v]))) (hr : rpOk (.tup [a.v, b.v]) = true) : Ent M (a, b, 1) := by
  obtain ⟨t, ht, hts⟩ := rp_of hr
  refine ⟨hdL "range" t, hd_ok ok_range' hts, ?_, ?_, ?_, ?_⟩
  · dsimp only
    rw [hx]
    exact heard_V (w := "range") rfl ht
  · dsimp only
    rw [hx]
    exact heard_V (w := "range") rfl ht
  · dsimp only
    rw [hx]
    exact heard_V (w := "range") rfl ht
  · show ifO true _ _ = _
    rw [ifO_t]
    dsimp only
    rw [due_is (d := plT [a, b]) (t := t) ht]
    rfl
theorem ok_joined {xs : List (Int × Int)} (hl : xs.length ≤ 1000) : Ok (t_joined_ranges xs) fun _ => True := by
  unfold t_joined_ranges
  refine ok_foldN (fun j (s : List (Int × Int)) => s.length ≤ j) (Nat.le_refl 0) (fun p hp j acc hj hs => ?_) fun s _ => ok_some trivial
  have hsl : (sortP xs).length = xs.length := List.length_mergeSort _
  rcases List.eq_nil_or_concat acc with rfl | ⟨ys, z, rfl⟩
  · refine ok_val (a := false) rfl (ok_val rfl ?_)
    rw [ifO_f]
    exact ok_val (show appT [] p = some [p] from rfl) (ok_some (by simp))
  · rw [List.concat_eq_append] at hs ⊢
    have hlen : ys.length + 1 < 100000 := by simp at hs; omega
    have e1 : L2.atI (ys ++ [z]) (-1) = some z := by
      unfold L2.atI
      rw [List.length_append, List.length_singleton, ixN_last]
      simp
    refine ok_val (a := decide (p.1 ≤ z.2)) ?_ (ok_val rfl ?_)
    · rw [decide_eq_false (by simp), Bool.not_false, andO_t, e1, Option.bind_some]
    · cases decide (p.1 ≤ z.2) with
      | true =>
        rw [ifO_t]
        refine ok_val e1 (ok_val e1 (ok_val setT_last (ok_some ?_)))
        simp at hs ⊢
        omega
      | false =>
        rw [ifO_f]
        refine ok_val (show appT (ys ++ [z]) _ = some _ from if_pos (by simp; omega)) (ok_some ?_)
        simp at hs ⊢
        omega
theorem ok_cut {M : List Stp} (h : M.length ≤ 300) {a b : Int} (hab : a < b) : (Ok (t_Stair_ranges M a b) fun _ => True) ∧ Ok (t_Stair_cut_in M a b) fun _ => True := by
  have hlim := q_limited (s := M) (by omega) hab
  have hln : (lim M a b).length ≤ 300 := Nat.le_trans (oneForm_len _) (Nat.le_trans (cut_len a b M) h)
  constructor
  · unfold t_Stair_ranges
    rw [hlim, Option.bind_some, lcM_map _ (by omega), Option.bind_some]
    exact ok_bind (ok_joined (xs := (lim M a b).map fun ev3 => (ev3.2.1, ev3.2.1 + ev3.2.2)) (by rw [List.length_map]; omega)) fun r _ => ok_some trivial
  · unfold t_Stair_cut_in
    rw [hlim, Option.bind_some]
    refine ok_foldN (fun j (s : List (Int × Int) × Int) => s.1.length ≤ j) (Nat.le_refl 0) (fun p hp j acc hj hs => ?_) fun s hs => ?_
    · refine ok_bind (Q := fun z : List (Int × Int) => z.length ≤ j + 1) ?_ fun z hz => ok_val rfl (ok_some hz)
      refine ok_val rfl ?_
      cases decide (acc.2 < p.1) with
      | true =>
        rw [ifO_t]
        refine ok_val (show appT acc.1 _ = some _ from if_pos (by omega)) (ok_some (by rw [List.length_append, List.length_singleton]; omega))
      | false =>
        rw [ifO_f]
        exact ok_some (by omega)
    · cases decide (s.2 < b) with
      | true =>
        rw [ifO_t]
        exact ok_val rfl (ok_val (catT_of (by rw [List.length_singleton]; omega)) (ok_some trivial))
      | false =>
        rw [ifO_f]
        exact ok_val rfl (ok_val (catT_of (by rw [List.length_nil]; omega)) (ok_some trivial))
theorem ent_good {M : List Stp} (h : M.length ≤ 300) {i : Int} : Ent M ((⟨(.int i), rfl⟩ : Pd), (⟨(.int (i + 1)), rfl⟩ : Pd), 0) := by
  have hx : x_range (⟨(.int i), rfl⟩ : Pd) (⟨(.int (i + 1)), rfl⟩ : Pd) = none := by
    show (if True ∧ True then (if i + 1 ≤ i then some (xnV "InvalidRange" (.tup [.int i, .int (i + 1)])) else none) else none) = none <;> rw [if_pos ⟨trivial, trivial⟩, if_neg (by omega)]
  obtain ⟨⟨r1, e1, _⟩, r2, e2, _⟩ := ok_cut h (show i < i + 1 by omega)
  have e0 := q_limited (s := M) (by omega) (show i < i + 1 by omega)
  refine ⟨told, told_ok, ?_, ?_, ?_, rfl⟩
  · dsimp only
    rw [hx]
    show Option.bind (p_two (t_Stair_limited M) e_Stair _ _) _ = _
    show Option.bind (Option.map e_Stair (t_Stair_limited M i (i + 1))) _ = _
    rw [e0]
    rfl
  · dsimp only
    rw [hx]
    show Option.bind (Option.map (eL prD) (t_Stair_ranges M i (i + 1))) _ = _
    rw [e1]
    rfl
  · dsimp only
    rw [hx]
    show Option.bind (Option.map (eL prD) (t_Stair_cut_in M i (i + 1))) _ = _
    rw [e2]
    rfl
theorem range_w {a b : Pd} (ha : okOd a.v = true) (hb : okOd b.v = true) (h : isIntD a.v = false ∨ isIntD b.v = false) : x_range a b = some (xnV "InvalidRange" (.tup [a.v, b.v])) := by
  unfold x_range
  rw [if_pos ⟨ha, hb⟩]
  rcases h with h | h
  · cases e : a.v <;> first | rfl | (rw [e] at h; cases h)
  · cases e : a.v <;> first | rfl | (cases e2 : b.v <;> first | rfl | (rw [e2] at h; cases h))
theorem range_i {i j : Int} (h : j ≤ i) : x_range (⟨(.int i), rfl⟩ : Pd) (⟨(.int j), rfl⟩ : Pd) = some (xnV "InvalidRange" (.tup [.int i, .int j])) := by
  show (if True ∧ True then (if j ≤ i then some (xnV "InvalidRange" (.tup [.int i, .int j])) else none) else none) = _ <;> rw [if_pos ⟨trivial, trivial⟩, if_pos h]
end K10


set_option Elab.async false
set_option linter.all false
set_option maxRecDepth 100000
set_option maxHeartbeats 1000000
/-! the law holds of every pot -/
namespace K10
open PySem PySem.Spec PyProof.Rows L2 Dn Tn Stairs
theorem wr_rp {d : Pd} (h : d ∈ wrongs) : ∃ t, reprX d.v = some t ∧ PyData.strOk t = true := rp_of (List.all_eq_true.mp wrongs_rp d h)
theorem len_rp {d : Pd} (h : d ∈ lens) : ∃ t, reprX d.v = some t ∧ PyData.strOk t = true := rp_of (List.all_eq_true.mp lens_rp d h)
theorem pair_w {d : Pd} (h : d ∈ wrongs) {x : Int} (hx : 0 ≤ x ∧ x < 40) : rpOk (.tup [.int (x - 9), d.v]) = true ∧ rpOk (.tup [d.v, .int (x - 9)]) = true := by
  have h1 := List.all_eq_true.mp pair1_rp x.toNat (List.mem_range.mpr (by omega))
  have h2 := List.all_eq_true.mp h1 d h
  rw [Bool.and_eq_true, show ((x.toNat : Nat) : Int) = x by omega] at h2
  exact h2
theorem pair_i {x y : Int} (hx : 0 ≤ x ∧ x < 40) (hy : 0 ≤ y ∧ y < 40) : rpOk (.tup [.int (x - 9), .int (y - 9)]) = true := by
  have h1 := List.all_eq_true.mp pair2_rp x.toNat (List.mem_range.mpr (by omega))
  have h2 := List.all_eq_true.mp h1 y.toNat (List.mem_range.mpr (by omega))
  rw [show ((x.toNat : Nat) : Int) = x by omega, show ((y.toNat : Nat) : Int) = y by omega] at h2
  exact h2
theorem p_stay (i : Int) : ∃ s, t_Stair_stay i 1 = some s := by
  unfold t_Stair_stay
  rw [p_is_integer, Option.bind_some, Option.bind_some, Bool.not_true, ifO_f, p_is_integer, Option.bind_some, Option.bind_some]
  rw [show (!true || decide ((1 : Int) < 1)) = false by decide, ifO_f, p_init (show Steps [(i, i, 1)] from (show (1 : Int) ≤ 1 by decide)) (by simp)]
  exact ⟨_, rfl⟩
theorem ok_marks_right {M : List Stp} (hM : M.length ≤ 300) {q : Pot} (hq : PotOk q) : Ok (t_law_marks_right M q) fun z => z.1 = true ∧ PotOk z.2 := by
  unfold t_law_marks_right
  refine ok_b2 (Q := fun (a : Pd) c => a ∈ wrongs ∧ PotOk c) (ok_pick (xs := wrongs) hq (by unfold wrongs; simp) (by unfold wrongs; simp)) fun x1 q2 ⟨h1, p2⟩ => ?_
  refine ok_val (a := 100000000000000000000) (by decide +kernel) ?_
  refine ok_b2 (Q := fun (a : Pd) c => a ∈ lens ∧ PotOk c) (ok_pick (xs := lens) p2 (by unfold lens; simp) (by unfold lens; simp)) fun x6 q7 ⟨h6, p7⟩ => ?_
  refine ok_b2 (Q := fun a c => (0 ≤ a ∧ a < 40) ∧ PotOk c) (ok_draw p7 (by decide) (by decide)) fun x9 q10 ⟨h9, p10⟩ => ?_
  refine ok_b2 (Q := fun a c => (0 ≤ a ∧ a < 40) ∧ PotOk c) (ok_draw p10 (by decide) (by decide)) fun x12 q13 ⟨h12, p13⟩ => ?_
  obtain ⟨t1, e1, s1⟩ := wr_rp h1
  obtain ⟨t6, e6, s6⟩ := len_rp h6
  obtain ⟨o1, i1⟩ := wrongs_odd x1 h1
  obtain ⟨o6, i6⟩ := lens_odd x6 h6
  have c1 : x_call x1 = some (xnV "InvalidMark" x1.v) := if_pos ⟨o1, i1⟩
  have c2 : x_stay x1 x6 = some (xnV "InvalidMark" x1.v) := by
    unfold x_stay
    rw [if_pos ⟨o1, o6⟩, if_neg (by rw [i1]; decide)]
  have c3 : x_stay (⟨(.int 3), rfl⟩ : Pd) x6 = some (xnV "InvalidLength" x6.v) := by
    unfold x_stay
    rw [if_pos ⟨rfl, o6⟩]
    exact (if_pos (show isIntD (.int 3) = true from rfl)).trans i6
  refine ok_val (a := hdL "mark" t1) (by rw [c1]; exact heard_V (w := "mark") rfl e1) ?_
  refine ok_val (a := hdL "mark" t1) (by rw [c2]; exact heard_V (w := "mark") rfl e1) ?_
  refine ok_val (show appT [hdL "mark" t1] (hdL "mark" t1) = some [hdL "mark" t1, hdL "mark" t1] from rfl) ?_
  refine ok_val (a := hdL "length" t6) (by rw [c3]; exact heard_V (w := "length") rfl e6) ?_
  refine ok_val (show appT [hdL "mark" t1, hdL "mark" t1] (hdL "length" t6) = some [hdL "mark" t1, hdL "mark" t1, hdL "length" t6] from rfl) ?_
  obtain ⟨st, est⟩ := p_stay (x9 - 9)
  refine ok_val (a := told) (by rw [est]; rfl) ?_
  refine ok_val (show appT [hdL "mark" t1, hdL "mark" t1, hdL "length" t6] told = some [hdL "mark" t1, hdL "mark" t1, hdL "length" t6, told] from rfl) ?_
  refine ok_val (due_is e1) (ok_val (rep2 _ (by simp)) (ok_val (due_is e6) (ok_val (catT_of (by simp)) (ok_val rfl (ok_val (catT_of (by simp)) ?_)))))
  refine ok_foldN (fun j (s : List Pd × List Pd) => s.1 = s.2 ∧ (∀ p ∈ s.2, HdOk p) ∧ s.2.length ≤ 4 + 3 * j) ?_ (fun ev hev j s hj hs => ?_) fun s hs => ?_
  · refine ⟨rfl, fun p hp => ?_, Nat.le_refl 4⟩
    have hp' : p ∈ [hdL "mark" t1, hdL "mark" t1, hdL "length" t6, told] := hp
    simp only [List.mem_cons, List.not_mem_nil, or_false] at hp'
    rcases hp' with rfl | rfl | rfl | rfl
    · exact hd_ok ok_mark' s1
    · exact hd_ok ok_mark' s1
    · exact hd_ok ok_length' s6
    · exact told_ok
  · have hE : Ent M ev := by
      simp only [List.mem_append, List.mem_cons, List.not_mem_nil, or_false] at hev
      rcases hev with (rfl | rfl | rfl | rfl | rfl) | rfl
      · exact ent_bad (range_w rfl o1 (.inr i1)) (pair_w h1 h9).1
      · exact ent_bad (range_w o1 rfl (.inl i1)) (pair_w h1 h12).2
      · exact ent_bad (range_i (Int.le_refl _)) (pair_i h9 h9)
      · rw [maxI_eq, minI_eq]
        refine ent_bad (range_i (by omega)) ?_
        by_cases hc : x9 ≤ x12
        · rw [show max (x9 - 9) (x12 - 9) = x12 - 9 by omega, show min (x9 - 9) (x12 - 9) = x9 - 9 by omega]
          exact pair_i h12 h9
        · rw [show max (x9 - 9) (x12 - 9) = x9 - 9 by omega, show min (x9 - 9) (x12 - 9) = x12 - 9 by omega]
          exact pair_i h9 h12
      · exact ent_bad (range_w rfl rfl (.inr rfl)) (pair_w (d := ⟨.bl true, rfl⟩) (by unfold wrongs; simp) h9).1
      · exact ent_good hM
    obtain ⟨pd, hpd, g1, g2, g3, g4⟩ := hE
    obtain ⟨a, b⟩ := s
    obtain ⟨hab, hall, hlen⟩ := hs
    dsimp only at hab hall hlen ⊢
    subst hab
    have hj6 : j < 6 := hj
    have ap : ∀ xs : List Pd, xs.length ≤ 100 → appT xs pd = some (xs ++ [pd]) := fun xs h => if_pos (by omega)
    refine ok_val g1 (ok_val (ap _ (by omega)) (ok_val g2 (ok_val (ap _ (by simp; omega)) (ok_val g3 (ok_val (ap _ (by simp; omega)) (ok_val g4 (ok_val (rep3 _ (by simp)) (ok_val (catT_of (by simp; omega)) (ok_some ⟨?_, fun p hp => ?_, ?_⟩)))))))))
    · dsimp only
      simp
    · dsimp only at hp
      rcases List.mem_append.mp hp with hp | hp
      · exact hall p hp
      · simp only [List.mem_append, List.mem_cons, List.not_mem_nil, or_false, or_self] at hp
        rw [hp]
        exact hpd
    · dsimp only
      simp
      omega
  · obtain ⟨a, b⟩ := s
    obtain ⟨hab, hall, _⟩ := hs
    dsimp only at hab hall ⊢
    subst hab
    exact ok_val (eq_list hall) (ok_some ⟨rfl, p13⟩)
theorem right_true {q : Pot} (hq : PotOk q) : Ok (t_law_right q) fun z => z.1 = true ∧ PotOk z.2 := by
  unfold t_law_right
  refine ok_b2 (Q := fun (a : List Stp) c => (∃ (k : Nat) (el nw : Int), (k : Int) ≤ 5 ∧ RowsInv k a el nw) ∧ PotOk c) (ok_steps hq (by decide) (by decide)) fun x1 q2 ⟨⟨k, el, nw, hk, hR⟩, p2⟩ => ?_
  have hl := hR.len
  refine ok_val (p_init (rows_steps hR) (by omega)) ?_
  have hF := rows_few hR (by omega)
  obtain ⟨t, e, _⟩ := obj_text hF
  refine ok_val e (ok_val (range1_of (j := 6) (by decide) (by decide)) ?_)
  refine ok_foldR PotOk p2 (fun x hx s hs => ?_) fun s hs => ?_
  · refine ok_b2 (Q := fun a c => a = true ∧ PotOk c) (ok_steps_right hs) fun x12 q13 ⟨e12, p13⟩ => ?_
    subst e12
    refine ok_b2 (Q := fun a c => a = false ∧ PotOk c) ?_ fun x18 q19 ⟨e18, p19⟩ => ?_
    · rw [Bool.not_true]
      unfold orP
      dsimp only
      refine ok_b2 (x := t_law_marks_right _ q13) (Q := fun a c => a = true ∧ PotOk c) (ok_marks_right hF.len p13) fun x15 q16 ⟨e15, p16⟩ => ?_
      subst e15
      exact ok_some ⟨rfl, p16⟩
    · subst e18
      exact ok_val rfl (by rw [ifO_f]; exact ok_some ⟨_, rfl, p19⟩)
  · dsimp only
    refine ok_b2 (Q := fun a c => a = true ∧ PotOk c) (ok_many_right hs) fun x27 q28 ⟨e27, p28⟩ => ?_
    subst e27
    rw [andO_t, e, Option.bind_some]
    exact ok_val rfl (ok_some ⟨decide_eq_true rfl, p28⟩)
end K10


set_option Elab.async false
set_option linter.all false
set_option maxRecDepth 100000
set_option maxHeartbeats 3000000
namespace K10
open PySem PySem.Spec PyProof.Rows L2 Dn Tn Stairs
section
variable {A Ω Ω1 Ω2 Ω3 : Om} {n : Nat} {Γ : Gm}
theorem cb_ok {Γ : Gm} {Ω Ω1 Ω2 : Om} {op : OpA} {r : Den (List D)} {ds : List D} {d : D} (h1 : r Γ Ω = some (.ok ds, Ω1)) (h2 : op ds Ω1 = some (.ok d, Ω2)) : fCB op r Γ Ω = some (.ok d, Ω2) := by
  unfold fCB bnd
  rw [h1, bR_ok]
  exact h2
theorem asBools_true {α : Type} : ∀ xs : List α, asBools (xs.map fun _ => D.bl true) = some (xs.map fun _ => true)
  | [] => rfl
  | x :: xs => by
    rw [List.map_cons]
    unfold asBools
    rw [asBools_true xs]
    rfl
theorem all_true {α : Type} (xs : List α) : dAll [.lst (xs.map fun _ => D.bl true)] Ω = some (.ok (.bl true), Ω) := by
  unfold dAll onBools op1
  dsimp only [asL]
  rw [asBools_true]
  simp
theorem v_pot {Ω : Om} (ns : List Int) (k : Nat) (hk : k ≤ 4) : ∃ p q : Int, F_law_pot [.scr ns, .int (k : Int)] Ω = some (.ok (.ref Ω.length), Ω ++ [.lst [.int p, .int q]]) ∧ 0 ≤ q ∧ q < 4294967296 := by
  have key : ∀ c : Int, ∃ p q : Int, (sRet (fLstC (fCons (fCB dMax (fCons (fC (.int 0)) (fCons (fBin dSub (fVar 2) (fBin dPow (fC (.int 10)) (fC (.int 18)))) fNil))) (fCons (fBin dAdd (fBin dMod (fBin dMul (fCB dInt (fCons (fBin dAdd (fBin dMod (fCB dInt (fCons (fVar 2) fNil)) (fC (.int 2147483549))) (fC (.int 7))) fNil)) (fBin dPow (fBin dAdd (fBin dMul (fC (.int 2)) (fVar 1)) (fC (.int 3))) (fC (.int 3)))) (fC (.int 2147483477))) (fC (.int 1))) fNil))) : DenS) [some (.scr ns), some (.int (k : Int)), some (.int c)] Ω = some (.rt (.ref Ω.length), [some (.scr ns), some (.int (k : Int)), some (.int c)], Ω ++ [.lst [.int p, .int q]]) ∧ 0 ≤ q ∧ q < 4294967296 := by
    intro c
    have h1 : 0 ≤ c % 2147483549 := Int.emod_nonneg _ (by decide)
    have h2 : c % 2147483549 < 2147483549 := Int.emod_lt_of_pos _ (by decide)
    generalize ec : c % 2147483549 = r at h1 h2
    have c1 : cMul 2 (k : Int) = true := by unfold cMul; rw [decide_eq_true_iff]; left; constructor <;> decide
    have c2 : ∀ z : Int, cMul (r + 7) z = true := fun z => by unfold cMul; rw [decide_eq_true_iff]; left; constructor <;> omega
    have c3 : (2 * (k : Int) + 3).natAbs < 18446744073709551616 := by omega
    have g1 : 0 ≤ (r + 7) * (2 * (k : Int) + 3) ^ 3 % 2147483477 := Int.emod_nonneg _ (by decide)
    have g2 : (r + 7) * (2 * (k : Int) + 3) ^ 3 % 2147483477 < 2147483477 := Int.emod_lt_of_pos _ (by decide)
    refine ⟨if c - 1000000000000000000 > 0 then c - 1000000000000000000 else 0, (r + 7) * (2 * (k : Int) + 3) ^ 3 % 2147483477 + 1, ?_, by omega, by omega⟩
    simp [fnD, startG, sRet, sIf, sSeq, bS, sSet, eS, sExp, sSkip, sNever, sPar, sAsg, Dn.gT, Dn.gCons, Dn.gNil, Dn.gN, fAndV, fOrV, fNotV, fBl, fAnd, fOr, fNot, fIf, fT, fBin, fUn, bnd, fVar, fC, dIx, dAdd, dSub, dLt, dLe, dGt, dGe, Dn.opI, dNeg, fCons, fNil, fTup, fLst, fLstC, fCB, op1, op2, fIs, isB, isC, isB2, tyD, isT, asL, fChain, dMax, dMod, dMul, opIC, dInt, dPow, ec, c1, c2, c3]
  have c0 : cMul 71 (k : Int) = true := by unfold cMul; rw [decide_eq_true_iff]; left; constructor <;> decide
  by_cases hn : k < ns.length
  · obtain ⟨p, q, e, h1, h2⟩ := key (if ns[k] < 0 then -ns[k] else ns[k])
    refine ⟨p, q, ?_, h1, h2⟩
    unfold F_law_pot b_law_pot
    refine fn_rt ((seq_nx (Γ1 := [some (.scr ns), some (.int (k : Int)), some (.int (71 * (k : Int) + 37))]) (Ω1 := Ω) ?_).trans ((seq_nx (Γ1 := [some (.scr ns), some (.int (k : Int)), some (.int (if ns[k] < 0 then -ns[k] else ns[k]))]) (Ω1 := Ω) ?_).trans e))
    · simp [fnD, startG, sRet, sIf, sSeq, bS, sSet, eS, sExp, sSkip, sNever, sPar, sAsg, Dn.gT, Dn.gCons, Dn.gNil, Dn.gN, fAndV, fOrV, fNotV, fBl, fAnd, fOr, fNot, fIf, fT, fBin, fUn, bnd, fVar, fC, dIx, dAdd, dSub, dLt, dLe, dGt, dGe, Dn.opI, dNeg, fCons, fNil, fTup, fLst, fLstC, fCB, op1, op2, fIs, isB, isC, isB2, tyD, isT, asL, fChain, dMul, opIC, c0]
    · simp [fnD, startG, sRet, sIf, sSeq, bS, sSet, eS, sExp, sSkip, sNever, sPar, sAsg, Dn.gT, Dn.gCons, Dn.gNil, Dn.gN, fAndV, fOrV, fNotV, fBl, fAnd, fOr, fNot, fIf, fT, fBin, fUn, bnd, fVar, fC, dIx, dAdd, dSub, dLt, dLe, dGt, dGe, Dn.opI, dNeg, fCons, fNil, fTup, fLst, fLstC, fCB, op1, op2, fIs, isB, isC, isB2, tyD, isT, asL, fChain, dLen, hn, dAbs]
  · obtain ⟨p, q, e, h1, h2⟩ := key (71 * (k : Int) + 37)
    refine ⟨p, q, ?_, h1, h2⟩
    unfold F_law_pot b_law_pot
    refine fn_rt ((seq_nx (Γ1 := [some (.scr ns), some (.int (k : Int)), some (.int (71 * (k : Int) + 37))]) (Ω1 := Ω) ?_).trans ((seq_nx (Γ1 := [some (.scr ns), some (.int (k : Int)), some (.int (71 * (k : Int) + 37))]) (Ω1 := Ω) ?_).trans e))
    · simp [fnD, startG, sRet, sIf, sSeq, bS, sSet, eS, sExp, sSkip, sNever, sPar, sAsg, Dn.gT, Dn.gCons, Dn.gNil, Dn.gN, fAndV, fOrV, fNotV, fBl, fAnd, fOr, fNot, fIf, fT, fBin, fUn, bnd, fVar, fC, dIx, dAdd, dSub, dLt, dLe, dGt, dGe, Dn.opI, dNeg, fCons, fNil, fTup, fLst, fLstC, fCB, op1, op2, fIs, isB, isC, isB2, tyD, isT, asL, fChain, dMul, opIC, c0]
    · simp [fnD, startG, sRet, sIf, sSeq, bS, sSet, eS, sExp, sSkip, sNever, sPar, sAsg, Dn.gT, Dn.gCons, Dn.gNil, Dn.gN, fAndV, fOrV, fNotV, fBl, fAnd, fOr, fNot, fIf, fT, fBin, fUn, bnd, fVar, fC, dIx, dAdd, dSub, dLt, dLe, dGt, dGe, Dn.opI, dNeg, fCons, fNil, fTup, fLst, fLstC, fCB, op1, op2, fIs, isB, isC, isB2, tyD, isT, asL, fChain, dLen, hn]
theorem v_law_loop (ns : List Int) : ∀ (ks : List Nat) (acc : List D) (Ω : Om), (∀ k ∈ ks, k ≤ 4) → PureΩ Ω → acc.length + ks.length ≤ 1000 → ∃ Ω', PureΩ Ω' ∧ loopC (Tg.nm 1).den (fC true) (fCall 1 F_law_right (fCons (fCall 2 F_law_pot (fCons (fVar 0) (fCons (fVar 1) fNil))) fNil)) [some (.scr ns), none] (ks.map fun (i : Nat) => D.int (0 + (i : Int))) acc Ω = some (.ok (.lst (acc ++ ks.map fun _ => D.bl true)), Ω')
  | [], acc, Ω, _, h, _ => ⟨Ω, h, by simp [loopC]⟩
  | k :: ks, acc, Ω, hk, h, hl => by
    rw [List.length_cons] at hl
    obtain ⟨p, q, e1, hq1, hq2⟩ := v_pot (Ω := Ω) ns k (hk k (by simp))
    obtain ⟨⟨z, q'⟩, t1, t2, _⟩ := right_true (q := (p, q)) ⟨hq1, hq2⟩
    dsimp only at t2
    subst t2
    have hp1 : PureΩ (Ω ++ [.lst [.int p, .int q]]) := h.add rfl
    have e2 := w_law_right (n := Ω.length) t1 (Ω ++ [.lst [.int p, .int q]]) hp1 at_end
    obtain ⟨A', eA⟩ : ∃ A' : Om, A' = (Ω ++ [Cell.lst [.int p, .int q]]).set Ω.length (potC q') := ⟨_, rfl⟩
    rw [← eA] at e2
    have p' : PureΩ A' := by
      rw [eA]
      exact hp1.set (c := potC q') rfl
    obtain ⟨Ω', h', e3⟩ := v_law_loop ns ks (acc ++ [.bl true]) A' (fun j hj => hk j (by simp [hj])) p' (by simp; omega)
    refine ⟨Ω', h', ?_⟩
    rw [List.map_cons]
    unfold loopC
    have e4 : (Tg.nm 1).den (.int (0 + (k : Int))) [some (.scr ns), none] = some [some (.scr ns), some (.int (0 + (k : Int)))] := rfl
    rw [e4, show (0 + (k : Int)) = (k : Int) by omega]
    dsimp only
    have e5 : fCall 1 F_law_right (fCons (fCall 2 F_law_pot (fCons (fVar 0) (fCons (fVar 1) fNil))) fNil) [some (.scr ns), some (.int (k : Int))] Ω = some (.ok (.bl true), A') := call_ok (cons_ok (call_ok (ds := [.scr ns, .int (k : Int)]) (cons_ok (var_at rfl) (cons_ok (var_at rfl) nil_ok)) rfl e1) nil_ok) rfl e2
    show (match fC true [some (.scr ns), some (.int (k : Int))] Ω with
      | some (.ok true, Ω1) => match fCall 1 F_law_right (fCons (fCall 2 F_law_pot (fCons (fVar 0) (fCons (fVar 1) fNil))) fNil) [some (.scr ns), some (.int (k : Int))] Ω1 with
        | some (.ok y, Ω2) => if acc.length < 100000 then loopC (Tg.nm 1).den (fC true) (fCall 1 F_law_right (fCons (fCall 2 F_law_pot (fCons (fVar 0) (fCons (fVar 1) fNil))) fNil)) [some (.scr ns), none] (ks.map fun (i : Nat) => D.int (0 + (i : Int))) (acc ++ [y]) Ω2 else none
        | _ => none
      | some (.ok false, Ω1) => loopC (Tg.nm 1).den (fC true) (fCall 1 F_law_right (fCons (fCall 2 F_law_pot (fCons (fVar 0) (fCons (fVar 1) fNil))) fNil)) [some (.scr ns), none] (ks.map fun (i : Nat) => D.int (0 + (i : Int))) acc Ω1
      | _ => none) = _
    have e6 : fC true [some (.scr ns), some (.int (k : Int))] Ω = some (.ok true, Ω) := rfl
    rw [e6]
    dsimp only
    rw [e5]
    dsimp only
    rw [if_pos (by omega), e3]
    simp
theorem v_law (ns : List Int) : F_law [.scr ns] [] = some (.ok (.bl true), []) := by
  have hN : PureΩ [] := fun _ h => by cases h
  have hc : ∃ c : Nat, c ≤ 4 ∧ fRange1 (fCons (fCB dMax (fCons (fC (.int 1)) (fCons (fCB dMin (fCons (fCB dLen (fCons (fVar 0) fNil)) (fCons (fC (.int 4)) fNil))) fNil))) fNil) (startG 2 [.scr ns]) [] = some (.ok ((List.range c).map fun (i : Nat) => D.int (0 + (i : Int))), []) := by
    have key : ∀ z : Int, 1 ≤ z → z ≤ 4 → fCons (fCB dMax (fCons (fC (.int 1)) (fCons (fCB dMin (fCons (fCB dLen (fCons (fVar 0) fNil)) (fCons (fC (.int 4)) fNil))) fNil))) fNil (startG 2 [.scr ns]) [] = some (.ok [.int z], []) → fRange1 (fCons (fCB dMax (fCons (fC (.int 1)) (fCons (fCB dMin (fCons (fCB dLen (fCons (fVar 0) fNil)) (fCons (fC (.int 4)) fNil))) fNil))) fNil) (startG 2 [.scr ns]) [] = some (.ok ((List.range z.toNat).map fun (i : Nat) => D.int (0 + (i : Int))), []) := fun z h1 h2 e => by
      unfold fRange1 bnd
      rw [e, bR_ok]
      dsimp only
      rw [if_pos ⟨by omega, by omega⟩]
      rfl
    refine ⟨(if (if (4 : Int) < (ns.length : Int) then 4 else (ns.length : Int)) > 1 then (if (4 : Int) < (ns.length : Int) then 4 else (ns.length : Int)) else 1).toNat, ?_, key _ ?_ ?_ (cons_ok (cb_ok (ds := [.int 1, .int (if (4 : Int) < (ns.length : Int) then 4 else (ns.length : Int))]) (cons_ok rfl (cons_ok (cb_ok (ds := [.int (ns.length : Int), .int 4]) (cons_ok (cb_ok (cons_ok (var_at rfl) nil_ok) rfl) (cons_ok rfl nil_ok)) rfl) nil_ok)) rfl) nil_ok)⟩
    · split <;> split <;> omega
    · split <;> split <;> omega
    · split <;> split <;> omega
  obtain ⟨c, hc4, hr⟩ := hc
  obtain ⟨Ω', h', e⟩ := v_law_loop ns (List.range c) [] [] (fun k hk => by have := List.mem_range.mp hk; omega) hN (by simp; omega)
  refine clean_val (Ω1 := []) (W := Ω') ?_ rfl hN rfl
  unfold b_law
  rw [List.nil_append] at e ⊢
  refine fn_rt (ret_ok (cb_ok (cons_ok ?_ nil_ok) (all_true (List.range c))))
  unfold fLc
  rw [hr, bR_ok]
  exact e
end
end K10


set_option Elab.async false
set_option linter.all false
set_option maxRecDepth 100000
set_option maxHeartbeats 0
namespace K10
open PySem PySem.Spec PyProof.Rows L2 Dn
theorem sp_law {K : PySem.W.Frag} {H : Hp} {a : Addr} {ns : List Int} (hO : OnlyT (tbK K) H) (h : SqL K H a (ns.map V.int)) : spD K 1 F_law [.ref a] H (fun v _ => v = .bl true) fun _ _ _ => False := by
  refine ⟨rfl, ⟨[], fun _ => False⟩, [], [.scr ns], ⟨rfl, List.nodup_nil, fun n c a h => by simp at h, fun a h => h.elim, hO.tb⟩, ?_, ?_⟩
  · unfold RlL
    exact ⟨_, _, rfl, by unfold Rl; exact ⟨a, rfl, scr_ofT hO h⟩, by unfold RlL; rfl⟩
  · rw [v_law]
    intro m' v H' g r
    unfold Rl at r
    exact r
end K10
open PySem PySem.W PySem.Calls PyProof.Rows
theorem PySem.Challenge.cw_roadstairs_k10_stairs_refused_holds : PySem.Challenge.rw_roadstairs_k10_stairs_refused.Holds := by
  w_on; o_law
  refine HandSHeadRun.head_any (r := OpenLaw.row PySem.Challenge.rw_roadstairs_k10_stairs_refused) (q := view (OpenLaw.row PySem.Challenge.rw_roadstairs_k10_stairs_refused).prog [37]) (H := K10.hk) (ob := K10.ob) (M := 12000) (loose := K10.loose) (d := HandSHeadRun.topDef (OpenLaw.row PySem.Challenge.rw_roadstairs_k10_stairs_refused).prog 37) (kwd := []) K10.ob_eq
    (by kernel_rfl) (fun s => by kernel_rfl) K10.run (by kernel_rfl) (by kernel_rfl) (by kernel_rfl) (by rfl) (by first | assumption | decide +kernel) (by decide +kernel) ⟨rfl, rfl, rfl, rfl, rfl, by decide +kernel⟩ ?hw ?hc
  case hw => w_witness2
  case hc =>
    refine Dn.walk_ofL (l := PySem.Challenge.rw_roadstairs_k10_stairs_refused) (n := 63) (k := 15) (x := "_law_script") (fun w => L2N.CX (PySem.Challenge.rw_roadstairs_k10_stairs_refused).prog w) rfl (by decide) (by kernel_rfl) ⟨⟨rfl, by decide, by decide⟩, rfl⟩ ?F (fun w H s e s' h => L2.cx_none w H s e s' h)
    intro w mg fa h Y G hmg0
    obtain ⟨K, KX, c⟩ := Y
    have hmg : mg ("law" : PySem.Str) = some (.ref fa) := by
      have e : (HandSHeadRun.topDef (OpenLaw.row PySem.Challenge.rw_roadstairs_k10_stairs_refused).prog 37).name = ("law" : PySem.Str) := by kernel_rfl
      rw [← e]
      exact hmg0
    obtain ⟨hcd, fd, hb, hF⟩ := K10.facts (P := (PySem.Challenge.rw_roadstairs_k10_stairs_refused).prog) (w := w) KX G hmg c
    exact ⟨K, fd, Dn.spD K 1 K10.F_law, K10.Tb, KX, c.at_, hcd, hb, fun H a ns hl hO hS => K10.sp_law (by rw [c.tb]; exact hO) hS, hF⟩

