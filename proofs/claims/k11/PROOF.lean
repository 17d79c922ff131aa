import PyProof.Rows.All
import HandS.ForMost
import KE.KDictKeyed
import KE.KDictSum
import HandS.Style
import HandS.NoneIn
import HandS.Zip
import HandS.Comp
import HandS.TupMul
import HandS.TupAny
import HandS.Deep
import HandS.RaiseMore
import KE.SortData
import PyProof.ReprRoads
import HandS.DictComp
import KE.KDictPairs
import KE.KDictWalk
import KE.KDictCopyH
import HandS.Iter
import KE.GoesEnum
import HandS.Star
import PyProof.ReprReads
import PyProof.Rows.ReprOcc
import KE.SortKeyed
import HandS.Conv
import PySem.Challenge.RW_pairstoldapart_k11_whole_eyes_and_types
set_option Elab.async false
set_option linter.all false
set_option maxRecDepth 100000
set_option maxHeartbeats 4000000
/-! Ev1: data, how they lie in the abstract heap, the evaluator's state and its relation to the heap. -/
namespace Ev
open PySem PySem.Spec PyProof.Rows L2

/-- what is asked of where a text runs: the module's frag, the world -/
structure KK where
  k : PySem.W.Frag
  w : World
  p : Program
abbrev _root_.L2.Cx.kk (X : Cx) : KK := ⟨X.K, X.w, X.prog⟩
/-! ### the evaluator's state -/
/-- a value: data, or the law's source, or the source's cells -/
inductive Vx where
  | d (x : PyData) | src | srcc | z (x : PyData)
/-- the law's source: what is left to be drawn -/
structure Src where
  cells : List Int
  left : Int
  mixed : Int
  turn : Int
structure S where
  env : List (Option Vx)
  src : Option Src
/-- how the state lies: forbidden addresses (of the callers, or locked), the owned slots' addresses, the source's, its cells' -/
structure G where
  N0 : Addr → Prop
  P : Nat → Option Addr
  SA : Addr → Prop
  CA : Addr → Prop
def G.N (g : G) (a : Addr) : Prop := g.N0 a ∨ ∃ i, g.P i = some a
def G.W (g : G) (a : Addr) : Prop := (∃ i, g.P i = some a) ∨ g.SA a ∨ g.CA a

/-! ### dicts -/
mutual
/-- the key that a value is, up to == -/
def keyOf : PyData → Option NestedKey
  | .none => some .none
  | .bool b => some (.num (if b = true then 1 else 0))
  | .int i => some (.num i)
  | .str x => some (.text x)
  | .tuple ds => (keysOf ds).map .tup
  | _ => none
def keysOf : List PyData → Option (List NestedKey)
  | [] => some []
  | d :: ds => match keyOf d, keysOf ds with
    | some k, some ks => some (k :: ks)
    | _, _ => none
end
def entN (w : World) (x : NestedKey × Addr × Value) : DictEntry := ⟨x.1.hash w, .ref x.2.1, x.2.2⟩
/-- at a stands the object ob, a dict with the entries xs, keys that are tuples -/
def PhiN (K : KK) (a : Addr) (ob : Obj) (xs : List (NestedKey × Addr × V)) : Heap → Prop := fun h => xs.length ≤ sizeLine ∧ (a == sysModules) = false ∧ (∀ x ∈ xs, x.1.depth ≤ 8) ∧ h.get? a = some ob ∧ ∃ ys : List (NestedKey × Addr × Value),
  Paired (fun x y => x.1 = y.1 ∧ x.2.1 = y.2.1 ∧ RelV x.2.2 y.2.2) xs ys ∧ ∃ es ep, ob.ExactDict ∧ ob.data = .dict es ep ∧ es.toList = ys.map (entN K.w) ∧ (ys.map (·.1)).Nodup
/-- at a stands the object ob, a dict with the entries ks, keys that are ints and texts -/
def PhiK (K : KK) (a : Addr) (ob : Obj) (ks : List (Key × V)) : Heap → Prop := fun h => ks.length ≤ sizeLine ∧ (a == sysModules) = false ∧ h.get? a = some ob ∧ ∃ vs : List (Key × Value), KV ks vs ∧ h.DictOf (mixKind K.p K.w) a vs
/-- what stands at a dict's address: the key values kv, the values vv; the keys' data kds -/
inductive DObj (K : KK) (a : Addr) : HO → List V → List V → List PyData → Prop
  | dK {ob : Obj} {kvs : List (Key × V)} {kds : List PyData} : DObj K a (.ext (PhiK K a ob kvs)) (kvs.map fun p => kV p.1) (kvs.map (·.2)) kds
  | dN {ob : Obj} {xs : List (NestedKey × Addr × V)} {kds : List PyData} : xs.map (fun x => some x.1) = kds.map keyOf → DObj K a (.ext (PhiN K a ob xs)) (xs.map fun x => .ref x.2.1) (xs.map (·.2.2)) kds

/-- a list that is read: tracked, frozen, or the module's own -/
def Lr (K : PySem.W.Frag) (H : Hp) (a : Addr) (xs : List V) : Prop := Rd H a (.lst xs) ∨ ∃ (its : Array Value) (n : Nat), K.lookup a = some { cls := .type "list", data := .seq its n } ∧ its.size ≤ sizeLine ∧ Vals xs its.toList
theorem Lr.sq {K : PySem.W.Frag} {H : Hp} {a : Addr} {xs : List V} (h : Lr K H a xs) : SqL K H a xs := h.imp id fun ⟨its, n, e, z, r⟩ => ⟨_, its, n, e, rfl, rfl, rfl, z, r⟩
/-! the data d lies at v; N: no list or dict of it stands at such an address -/
mutual
inductive Rp (K : KK) (N : Addr → Prop) (H : Hp) : V → PyData → Prop
  | non : Rp K N H .non .none
  | bl (b : Bool) : Rp K N H (.bl b) (.bool b)
  | int (i : Int) : Rp K N H (.int i) (.int i)
  | str (x : Str) : Rp K N H (.str x) (.str x)
  | lst {a : Addr} {xs : List V} {ds : List PyData} : Rd H a (.lst xs) → ¬ N a → RpA K N H xs ds → Rp K N H (.ref a) (.list ds)
  | lstK {a : Addr} {its : Array Value} {n : Nat} {xs : List V} {ds : List PyData} : K.k.lookup a = some { cls := .type "list", data := .seq its n } → its.size ≤ sizeLine → Vals xs its.toList → RpA K N H xs ds → Rp K N H (.ref a) (.list ds)
  | tup {a : Addr} {xs : List V} {ds : List PyData} : SqT K.k H a xs → RpA K N H xs ds → Rp K N H (.ref a) (.tuple ds)
  | dct {a : Addr} {o : HO} {kv vv : List V} {kds vds : List PyData} : H a = some o → DObj K a o kv vv kds → ¬ N a → RpA K N H kv kds → RpA K N H vv vds → Rp K N H (.ref a) (.dict (kds.zip vds))
inductive RpA (K : KK) (N : Addr → Prop) (H : Hp) : List V → List PyData → Prop
  | nil : RpA K N H [] []
  | cons {v : V} {vs : List V} {d : PyData} {ds : List PyData} : Rp K N H v d → RpA K N H vs ds → RpA K N H (v :: vs) (d :: ds)
end

section
variable {K : KK} {N N' : Addr → Prop} {H H' : Hp}
theorem RpA.paired : ∀ {xs : List V} {ds : List PyData}, RpA K N H xs ds → Paired (Rp K N H) xs ds
  | _, _, .nil => .nil
  | _, _, .cons h t => .cons h (RpA.paired t)
theorem RpA.of : ∀ {xs : List V} {ds : List PyData}, Paired (Rp K N H) xs ds → RpA K N H xs ds
  | _, _, .nil => .nil
  | _, _, .cons h t => .cons h (RpA.of t)
theorem RpA.length {xs : List V} {ds : List PyData} (h : RpA K N H xs ds) : xs.length = ds.length := h.paired.length
theorem RpA.append : ∀ {xs ys : List V} {ds es : List PyData}, RpA K N H xs ds → RpA K N H ys es → RpA K N H (xs ++ ys) (ds ++ es)
  | _, _, _, _, .nil, s => s
  | _, _, _, _, .cons r t, s => .cons r (RpA.append t s)
theorem RpA.take : ∀ {xs : List V} {ds : List PyData} (n : Nat), RpA K N H xs ds → RpA K N H (xs.take n) (ds.take n)
  | _, _, 0, _ => .nil
  | _, _, _ + 1, .nil => .nil
  | _, _, n + 1, .cons r t => .cons r (RpA.take n t)
theorem RpA.drop : ∀ {xs : List V} {ds : List PyData} (n : Nat), RpA K N H xs ds → RpA K N H (xs.drop n) (ds.drop n)
  | _, _, 0, r => r
  | _, _, _ + 1, .nil => .nil
  | _, _, n + 1, .cons _ t => RpA.drop n t
theorem RpA.reverse {xs : List V} {ds : List PyData} (h : RpA K N H xs ds) : RpA K N H xs.reverse ds.reverse := by
  have : ∀ {xs : List V} {ds : List PyData}, RpA K N H xs ds → RpA K N H xs.reverse ds.reverse := by
    intro xs
    induction xs with
    | nil => intro ds h; cases h; exact .nil
    | cons x xs ih =>
      intro ds h
      cases h with
      | cons h t =>
        rw [List.reverse_cons, List.reverse_cons]
        exact (ih t).append (.cons h .nil)
  exact this h
theorem RpA.eraseIdx : ∀ {xs : List V} {ds : List PyData} (i : Nat), RpA K N H xs ds → RpA K N H (xs.eraseIdx i) (ds.eraseIdx i)
  | _, _, _, .nil => .nil
  | _, _, 0, .cons _ t => t
  | _, _, i + 1, .cons r t => .cons r (RpA.eraseIdx i t)
theorem RpA.set {v : V} {d : PyData} (r : Rp K N H v d) : ∀ {xs : List V} {ds : List PyData} (i : Nat), RpA K N H xs ds → RpA K N H (xs.set i v) (ds.set i d)
  | _, _, _, .nil => .nil
  | _, _, 0, .cons _ t => .cons r t
  | _, _, i + 1, .cons q t => .cons q (RpA.set r i t)
theorem RpA.get : ∀ {xs : List V} {ds : List PyData} {i : Nat} {d : PyData}, RpA K N H xs ds → ds[i]? = some d → ∃ v, xs[i]? = some v ∧ Rp K N H v d
  | _, _, _, _, .nil, e => by simp at e
  | _, _, 0, _, .cons r _, e => by simp at e; subst e; exact ⟨_, rfl, r⟩
  | _, _, i + 1, d, .cons _ t, e => by
    obtain ⟨u, h1, h2⟩ := RpA.get (i := i) (d := d) t (by simpa using e)
    exact ⟨u, by simpa using h1, h2⟩
theorem RpA.getV {xs : List V} {ds : List PyData} {i : Nat} {v : V} (h : RpA K N H xs ds) (e : xs[i]? = some v) : ∃ d, ds[i]? = some d ∧ Rp K N H v d := by
  have hi : i < ds.length := by rw [← h.length]; exact (List.getElem?_eq_some_iff.mp e).1
  obtain ⟨v', e', r⟩ := h.get (List.getElem?_eq_getElem hi)
  rw [e] at e'; cases e'
  exact ⟨_, List.getElem?_eq_getElem hi, r⟩
theorem RpA.replicate {v : V} {d : PyData} (r : Rp K N H v d) : ∀ n : Nat, RpA K N H (List.replicate n v) (List.replicate n d)
  | 0 => .nil
  | n + 1 => .cons r (RpA.replicate r n)
theorem RpA.rep {xs : List V} {ds : List PyData} (h : RpA K N H xs ds) : ∀ n : Nat, RpA K N H (List.replicate n xs).flatten (List.replicate n ds).flatten
  | 0 => .nil
  | n + 1 => by
    rw [List.replicate_succ, List.replicate_succ, List.flatten_cons, List.flatten_cons]
    exact h.append (RpA.rep h n)

/-! data stay while what they lie on stays -/
mutual
theorem Rp.move (kp : ∀ a o, H a = some o → ¬ N a → H' a = some o) (ktup : ∀ a xs, SqT K.k H a xs → SqT K.k H' a xs) (hn : ∀ a, N' a → N a ∨ H a = none) : ∀ {v : V} {d : PyData}, Rp K N H v d → Rp K N' H' v d
  | _, _, .non => .non
  | _, _, .bl b => .bl b
  | _, _, .int i => .int i
  | _, _, .str x => .str x
  | _, _, .lst (.inl e) h2 h3 => .lst (.inl (kp _ _ e h2)) (fun z => (hn _ z).elim h2 fun q => by rw [e] at q; cases q) (RpA.move kp ktup hn h3)
  | _, _, .lst (.inr ⟨o, e⟩) h2 h3 => .lst (.inr ⟨o, kp _ _ e h2⟩) (fun z => (hn _ z).elim h2 fun q => by rw [e] at q; cases q) (RpA.move kp ktup hn h3)
  | _, _, .lstK h1 h2 h3 h4 => .lstK h1 h2 h3 (RpA.move kp ktup hn h4)
  | _, _, .tup h1 h2 => .tup (ktup _ _ h1) (RpA.move kp ktup hn h2)
  | _, _, .dct e ho h2 h3 h4 => .dct (kp _ _ e h2) ho (fun z => (hn _ z).elim h2 fun q => by rw [e] at q; cases q) (RpA.move kp ktup hn h3) (RpA.move kp ktup hn h4)
theorem RpA.move (kp : ∀ a o, H a = some o → ¬ N a → H' a = some o) (ktup : ∀ a xs, SqT K.k H a xs → SqT K.k H' a xs) (hn : ∀ a, N' a → N a ∨ H a = none) : ∀ {xs : List V} {ds : List PyData}, RpA K N H xs ds → RpA K N' H' xs ds
  | _, _, .nil => .nil
  | _, _, .cons h1 h2 => .cons (Rp.move kp ktup hn h1) (RpA.move kp ktup hn h2)
end
end
end Ev
/-! Ev2: the state's relation to the heap, its evolution. -/
namespace Ev
open PySem PySem.Spec L2

/-- a value lies at v -/
def RpX (K : KK) (g : G) (H : Hp) (v : V) : Vx → Prop
  | .d d => Rp K g.N H v d
  | .z d => Rp K g.N H v d
  | .src => ∃ a, v = .ref a ∧ g.SA a
  | .srcc => ∃ a, v = .ref a ∧ g.CA a
/-- a list or dict of one's own stands at a: it may be written -/
def Top (K : KK) (N : Addr → Prop) (H : Hp) (a : Addr) : PyData → Prop
  | .list ds => ∃ xs, H a = some (.lst xs) ∧ RpA K N H xs ds
  | .dict kvs => ∃ o kv vv kds vds, kvs = kds.zip vds ∧ H a = some o ∧ DObj K a o kv vv kds ∧ RpA K N H kv kds ∧ RpA K N H vv vds
  | _ => False
def isM : PyData → Bool
  | .list _ | .dict _ => true
  | _ => false
theorem Top.isM {K : KK} {N : Addr → Prop} {H : Hp} {a : Addr} {d : PyData} (h : Top K N H a d) : isM d = true := by
  cases d <;> first | rfl | exact h.elim
theorem Top.nn {K : KK} {N : Addr → Prop} {H : Hp} {a : Addr} {d : PyData} (h : Top K N H a d) : H a ≠ none := by
  cases d with
  | list ds => obtain ⟨xs, e, _⟩ := h; rw [e]; simp
  | dict kvs => obtain ⟨o, _, _, _, _, _, e, _⟩ := h; rw [e]; simp
  | _ => exact h.elim
theorem Top.rp {K : KK} {N : Addr → Prop} {H : Hp} {a : Addr} {d : PyData} (h : Top K N H a d) (hn : ¬ N a) : Rp K N H (.ref a) d := by
  cases d with
  | list ds => obtain ⟨xs, e, r⟩ := h; exact .lst (.inl e) hn r
  | dict kvs => obtain ⟨o, kv, vv, kds, vds, rfl, e, ho, r1, r2⟩ := h; exact .dct e ho hn r1 r2
  | _ => exact h.elim
theorem Top.move {K : KK} {N N' : Addr → Prop} {H H' : Hp} {a : Addr} {d : PyData} (h : Top K N H a d) (ha : H' a = H a) (kp : ∀ a o, H a = some o → ¬ N a → H' a = some o) (ktup : ∀ a xs, SqT K.k H a xs → SqT K.k H' a xs) (hn : ∀ a, N' a → N a ∨ H a = none) : Top K N' H' a d := by
  cases d with
  | list ds => obtain ⟨xs, e, r⟩ := h; exact ⟨xs, ha.trans e, r.move kp ktup hn⟩
  | dict kvs => obtain ⟨o, kv, vv, kds, vds, rfl, e, ho, r1, r2⟩ := h; exact ⟨o, kv, vv, kds, vds, rfl, ha.trans e, ho, r1.move kp ktup hn, r2.move kp ktup hn⟩
  | _ => exact h.elim

def SrcOk (SA CA : Addr → Prop) (H : Hp) : Option Src → Prop
  | none => (∀ a, ¬ SA a) ∧ ∀ a, ¬ CA a
  | some s => ∃ a c, (∀ b, SA b ↔ b = a) ∧ (∀ b, CA b ↔ b = c) ∧ a ≠ c ∧
      H a = some (.dK [(.inr ("cells" : Str), .ref c), (.inr ("left" : Str), .int s.left), (.inr ("mixed" : Str), .int s.mixed), (.inr ("turn" : Str), .int s.turn)]) ∧ H c = some (.lst (s.cells.map V.int))

/-- a slot's value: owned where the slot is of those that are changed in place -/
def SlotOk (K : KK) (M : Nat → Bool) (g : G) (H : Hp) (i : Nat) (v : V) : Vx → Prop
  | .d d => (M i = true ∧ isM d = true → ∃ a, v = .ref a ∧ g.P i = some a ∧ Top K g.N H a d) ∧ (¬ (M i = true ∧ isM d = true) → Rp K g.N H v d)
  | .z d => Rp K g.N H v d
  | .src => RpX K g H v .src
  | .srcc => RpX K g H v .srcc

structure Rel (K : KK) (M : Nat → Bool) (g : G) (s : S) (σ : St) (H : Hp) : Prop where
  slot : ∀ i x, s.env[i]? = some (some x) → ∃ v, σ[i]? = some (some v) ∧ SlotOk K M g H i v x
  inj : ∀ i j a, g.P i = some a → g.P j = some a → i = j
  sep : ∀ i a, g.P i = some a → ¬ g.N0 a
  ex : ∀ a, g.N a → H a ≠ none
  srN : ∀ a, g.SA a ∨ g.CA a → g.N0 a
  src : SrcOk g.SA g.CA H s.src
  len : s.env.length = σ.length

/-- what may happen -/
structure Evo (g g' : G) (H H' : Hp) : Prop where
  n : ∀ a, g'.N a → g.N a ∨ H a = none
  w : ∀ a, g'.W a → g.W a ∨ H a = none
  sa : ∀ a, g.SA a → g'.SA a
  ca : ∀ a, g.CA a → g'.CA a
  n0 : ∀ a, g.N0 a → g'.N0 a
  keep : ∀ a o, H a = some o → ¬ g.W a → H' a = some o
  tup : ∀ a xs, H a = some (.tup xs) → H' a = some (.tup xs)
  frz : ∀ a o u, H a = some (.frz o u) → H' a = some (.frz o u)
  grow : ∀ a, H a ≠ none → H' a ≠ none
  sr : ∀ b, g'.SA b ∨ g'.CA b → (g.SA b ∨ g.CA b) ∨ H b = none

section
variable {K : KK} {M : Nat → Bool} {g g' g'' : G} {s s' : S} {σ : St} {H H' H'' : Hp}
theorem Evo.refl : Evo g g H H := ⟨fun _ h => .inl h, fun _ h => .inl h, fun _ h => h, fun _ h => h, fun _ h => h, fun _ _ h _ => h, fun _ _ h => h, fun _ _ _ h => h, fun _ h => h, fun _ h => .inl h⟩
theorem none_back (gr : ∀ a, H a ≠ none → H' a ≠ none) {a : Addr} (h : H' a = none) : H a = none := by
  cases q : H a with
  | none => rfl
  | some o => exact absurd h (gr a (by rw [q]; simp))
theorem Evo.trans (e : Evo g g' H H') (f : Evo g' g'' H' H'') : Evo g g'' H H'' where
  n := fun a h => (f.n a h).elim (e.n a) fun z => .inr (none_back e.grow z)
  w := fun a h => (f.w a h).elim (e.w a) fun z => .inr (none_back e.grow z)
  sa := fun a h => f.sa a (e.sa a h)
  ca := fun a h => f.ca a (e.ca a h)
  n0 := fun a h => f.n0 a (e.n0 a h)
  keep := fun a o h hw => f.keep a o (e.keep a o h hw) fun z => (e.w a z).elim hw fun q => by rw [h] at q; cases q
  tup := fun a xs h => f.tup a xs (e.tup a xs h)
  frz := fun a o u h => f.frz a o u (e.frz a o u h)
  grow := fun a h => f.grow a (e.grow a h)
  sr := fun b h => (f.sr b h).elim (e.sr b) fun z => .inr (none_back e.grow z)
theorem seq_keep (tup : ∀ a xs, H a = some (.tup xs) → H' a = some (.tup xs)) (frz : ∀ a o u, H a = some (.frz o u) → H' a = some (.frz o u)) {a : Addr} {xs : List V} (h : SqT K.k H a xs) : SqT K.k H' a xs := by
  rcases h with (h | ⟨o, h⟩) | h
  · exact .inl (.inl (tup _ _ h))
  · exact .inl (.inr ⟨o, frz _ _ _ h⟩)
  · exact .inr h
theorem Evo.seq (e : Evo g g' H H') {a : Addr} {xs : List V} (h : SqT K.k H a xs) : SqT K.k H' a xs := seq_keep e.tup e.frz h
theorem Rel.wn (r : Rel K M g s σ H) : ∀ a, g.W a → g.N a := fun a h => by
  rcases h with h | h
  · exact .inr h
  · exact .inl (r.srN a h)
theorem Evo.kp (e : Evo g g' H H') (wn : ∀ a, g.W a → g.N a) : ∀ a o, H a = some o → ¬ g.N a → H' a = some o := fun a o h hn => e.keep a o h fun z => hn (wn a z)
theorem Evo.rp (e : Evo g g' H H') (wn : ∀ a, g.W a → g.N a) {v : V} {d : PyData} (h : Rp K g.N H v d) : Rp K g'.N H' v d := h.move (e.kp wn) (fun _ _ => e.seq) e.n
theorem Evo.rpA (e : Evo g g' H H') (wn : ∀ a, g.W a → g.N a) {vs : List V} {ds : List PyData} (h : RpA K g.N H vs ds) : RpA K g'.N H' vs ds := h.move (e.kp wn) (fun _ _ => e.seq) e.n
theorem Evo.rpX (e : Evo g g' H H') (wn : ∀ a, g.W a → g.N a) {v : V} {x : Vx} (h : RpX K g H v x) : RpX K g' H' v x := by
  cases x with
  | d d => exact e.rp wn h
  | z d => exact e.rp wn h
  | src => obtain ⟨a, rfl, h⟩ := h; exact ⟨a, rfl, e.sa a h⟩
  | srcc => obtain ⟨a, rfl, h⟩ := h; exact ⟨a, rfl, e.ca a h⟩
theorem Evo.top (e : Evo g g' H H') (wn : ∀ a, g.W a → g.N a) {a : Addr} (ha : ¬ g.W a) {d : PyData} (h : Top K g.N H a d) : Top K g'.N H' a d := by
  refine h.move ?_ (e.kp wn) (fun _ _ => e.seq) e.n
  cases q : H a with
  | none => exact absurd q h.nn
  | some o => exact e.keep a o q ha

/-- all that was tracked is as it was -/
theorem SrcOk.keep {SA CA : Addr → Prop} {o : Option Src} (h : SrcOk SA CA H o) (k : ∀ a o, H a = some o → H' a = some o) : SrcOk SA CA H' o := by
  cases o with
  | none => exact h
  | some s => obtain ⟨a, c, h1, h2, h3, h4, h5⟩ := h; exact ⟨a, c, h1, h2, h3, k _ _ h4, k _ _ h5⟩
theorem Evo.same (k : Same H H') : Evo g g H H' := ⟨fun _ h => .inl h, fun _ h => .inl h, fun _ h => h, fun _ h => h, fun _ h => h, fun a o h _ => k a o h, fun a xs h => k _ _ h, fun a o u h => k _ _ h, fun a h q => (by
  cases z : H a with
  | none => exact h z
  | some o => rw [k a o z] at q; cases q), fun _ h => .inl h⟩
theorem Same.sq (k : Same H H') {a : Addr} {xs : List V} (h : SqT K.k H a xs) : SqT K.k H' a xs := seq_keep (fun a xs h => k a _ h) (fun a o u h => k a _ h) h
theorem Rp.same (k : Same H H') {N : Addr → Prop} {v : V} {d : PyData} (h : Rp K N H v d) : Rp K N H' v d := h.move (fun a o e _ => k a o e) (fun _ _ => Same.sq k) fun _ z => .inl z
theorem RpA.same (k : Same H H') {N : Addr → Prop} {v : List V} {d : List PyData} (h : RpA K N H v d) : RpA K N H' v d := h.move (fun a o e _ => k a o e) (fun _ _ => Same.sq k) fun _ z => .inl z
theorem Top.same (k : Same H H') {N : Addr → Prop} {a : Addr} {d : PyData} (h : Top K N H a d) : Top K N H' a d := by
  refine h.move ?_ (fun a o e _ => k a o e) (fun _ _ => Same.sq k) fun _ z => .inl z
  cases q : H a with
  | none => exact absurd q h.nn
  | some o => exact k _ _ q
/-- more forbidden addresses that nothing stands at -/
theorem Rp.forbid {N N' : Addr → Prop} (hn : ∀ a, N' a → N a ∨ H a = none) {v : V} {d : PyData} (h : Rp K N H v d) : Rp K N' H v d := h.move (fun a o e _ => e) (fun _ _ h => h) hn
theorem RpA.forbid {N N' : Addr → Prop} (hn : ∀ a, N' a → N a ∨ H a = none) {v : List V} {d : List PyData} (h : RpA K N H v d) : RpA K N' H v d := h.move (fun a o e _ => e) (fun _ _ h => h) hn
theorem Top.forbid {N N' : Addr → Prop} (hn : ∀ a, N' a → N a ∨ H a = none) {a : Addr} {d : PyData} (h : Top K N H a d) : Top K N' H a d := h.move rfl (fun a o e _ => e) (fun _ _ h => h) hn

theorem SlotOk.same (k : Same H H') {i : Nat} {v : V} {x : Vx} (h : SlotOk K M g H i v x) : SlotOk K M g H' i v x := by
  cases x with
  | d d => exact ⟨fun c => let ⟨a, e, p, t⟩ := h.1 c; ⟨a, e, p, t.same k⟩, fun c => (h.2 c).same k⟩
  | z d => exact Rp.same k h
  | src => exact h
  | srcc => exact h
theorem Rel.same (k : Same H H') (r : Rel K M g s σ H) : Rel K M g s σ H' where
  slot := fun i x e => let ⟨v, h1, h2⟩ := r.slot i x e; ⟨v, h1, h2.same k⟩
  inj := r.inj
  sep := r.sep
  ex := fun a h => (Evo.same (g := g) k).grow a (r.ex a h)
  srN := r.srN
  src := r.src.keep k
  len := r.len

/-- an address locked -/
def G.lock (g : G) (a : Addr) : G := { g with N0 := fun b => g.N0 b ∨ b = a }
theorem G.lock_N {a b : Addr} : (g.lock a).N b ↔ g.N b ∨ b = a := by
  constructor
  · rintro ((h | h) | h)
    · exact .inl (.inl h)
    · exact .inr h
    · exact .inl (.inr h)
  · rintro ((h | h) | h)
    · exact .inl (.inl h)
    · exact .inr h
    · exact .inl (.inr h)
/-- a new thing at a: nothing of the state stands there -/
theorem Rel.fresh {a : Addr} (ha : H a = none) (r : Rel K M g s σ H) (k : Same H H') (ha' : H' a ≠ none) : Rel K M (g.lock a) s σ H' where
  slot := fun i x e => by
    obtain ⟨v, h1, h2⟩ := r.slot i x e
    refine ⟨v, h1, ?_⟩
    have hn : ∀ b, (g.lock a).N b → g.N b ∨ H b = none := fun b h => (G.lock_N.mp h).elim .inl fun z => .inr (by rw [z]; exact ha)
    cases x with
    | d d => exact ⟨fun c => let ⟨b, e, p, t⟩ := h2.1 c; ⟨b, e, p, (t.forbid hn).same k⟩, fun c => ((h2.2 c).forbid hn).same k⟩
    | z d => exact Rp.same k (Rp.forbid hn h2)
    | src => exact h2
    | srcc => exact h2
  inj := r.inj
  sep := fun i b h z => z.elim (r.sep i b h) fun q => r.ex b (.inr ⟨i, h⟩) (by rw [q]; exact ha)
  ex := fun b h => (G.lock_N.mp h).elim (fun z => (Evo.same (g := g) k).grow b (r.ex b z)) fun z => by rw [z]; exact ha'
  srN := fun b h => .inl (r.srN b h)
  src := r.src.keep k
  len := r.len

/-! ### slots -/
theorem env_set_len (l : List (Option Vx)) (i : Nat) (x : Option Vx) : (l.set i x).length = l.length := List.length_set
theorem get_set {α : Type} {l : List α} {i j : Nat} {x y : α} (h : (l.set i x)[j]? = some y) : (i = j ∧ x = y ∧ i < l.length) ∨ (i ≠ j ∧ l[j]? = some y) := by
  by_cases e : i = j
  · subst e
    by_cases hi : i < l.length
    · rw [List.getElem?_set_self hi] at h
      exact .inl ⟨rfl, Option.some.inj h, hi⟩
    · rw [List.getElem?_eq_none (by simpa using hi)] at h
      cases h
  · rw [List.getElem?_set_ne e] at h
    exact .inr ⟨e, h⟩

/-- the slot is given up: its thing is like any other from here on -/
def G.drop (g : G) (i : Nat) : G := { g with P := fun j => if j = i then none else g.P j }
theorem G.drop_N {i : Nat} {b : Addr} (h : (g.drop i).N b) : g.N b := by
  rcases h with h | ⟨j, h⟩
  · exact .inl h
  · refine .inr ⟨j, ?_⟩
    unfold G.drop at h
    simp only at h
    split at h
    · cases h
    · exact h
theorem G.drop_P {i j : Nat} {b : Addr} (h : (g.drop i).P j = some b) : j ≠ i ∧ g.P j = some b := by
  unfold G.drop at h
  simp only at h
  split at h
  · cases h
  · rename_i c; exact ⟨c, h⟩
theorem G.drop_W {i : Nat} {b : Addr} (h : (g.drop i).W b) : g.W b := by
  rcases h with ⟨j, h⟩ | h
  · exact .inl ⟨j, (G.drop_P h).2⟩
  · exact .inr h
theorem Evo.drop {i : Nat} : Evo g (g.drop i) H H := ⟨fun _ h => .inl (G.drop_N h), fun _ h => .inl (G.drop_W h), fun _ h => h, fun _ h => h, fun _ h => h, fun _ _ h _ => h, fun _ _ h => h, fun _ _ _ h => h, fun _ h => h, fun _ h => .inl h⟩
theorem SlotOk.drop {i j : Nat} {v : V} {x : Vx} (hj : j ≠ i) (h : SlotOk K M g H j v x) : SlotOk K M (g.drop i) H j v x := by
  have hn : ∀ a, (g.drop i).N a → g.N a ∨ H a = none := fun a h => .inl (G.drop_N h)
  cases x with
  | d d => exact ⟨fun c => let ⟨a, e, p, t⟩ := h.1 c; ⟨a, e, by unfold G.drop; simp only; rw [if_neg hj]; exact p, t.forbid hn⟩, fun c => (h.2 c).forbid hn⟩
  | z d => exact Rp.forbid hn h
  | src => exact h
  | srcc => exact h
/-- slot i emptied -/
theorem Rel.drop {i : Nat} (r : Rel K M g s σ H) : Rel K M (g.drop i) { s with env := s.env.set i none } σ H where
  slot := fun j x e => by
    rcases get_set e with ⟨_, z, _⟩ | ⟨hne, e⟩
    · cases z
    · obtain ⟨v, h1, h2⟩ := r.slot j x e
      exact ⟨v, h1, h2.drop (Ne.symm hne)⟩
  inj := fun a b c h1 h2 => r.inj a b c (G.drop_P h1).2 (G.drop_P h2).2
  sep := fun a b h => r.sep a b (G.drop_P h).2
  ex := fun a h => r.ex a (G.drop_N h)
  srN := r.srN
  src := r.src
  len := by rw [← r.len]; exact env_set_len _ _ _
/-- a slot's own thing, the slot given up -/
theorem Rel.taken {i : Nat} {d : PyData} {v : V} (r : Rel K M g s σ H) (e : s.env[i]? = some (some (.d d))) (ev : σ[i]? = some (some v)) (hm : M i = true ∧ isM d = true) :
    ∃ a, v = .ref a ∧ g.P i = some a ∧ Top K (g.drop i).N H a d ∧ ¬ (g.drop i).N a := by
  obtain ⟨v', h1, h2⟩ := r.slot i _ e
  rw [ev] at h1; cases h1
  obtain ⟨a, e, p, t⟩ := h2.1 hm
  refine ⟨a, e, p, t.forbid fun b h => .inl (G.drop_N h), fun h => ?_⟩
  rcases h with h | ⟨j, h⟩
  · exact r.sep i a p h
  · obtain ⟨h1, h2⟩ := G.drop_P h
    exact h1 (r.inj j i a h2 p)
/-- what a slot holds that is not owned -/
theorem Rel.plain {i : Nat} {x : Vx} {v : V} (r : Rel K M g s σ H) (e : s.env[i]? = some (some x)) (ev : σ[i]? = some (some v)) (hm : ∀ d, x = .d d → ¬ (M i = true ∧ isM d = true)) : RpX K g H v x := by
  obtain ⟨v', h1, h2⟩ := r.slot i _ e
  rw [ev] at h1; cases h1
  cases x with
  | d d => exact h2.2 (hm d rfl)
  | z d => exact h2
  | src => exact h2
  | srcc => exact h2
/-- a plain value put into a slot -/
theorem Rel.set {i : Nat} {x : Vx} {v : V} (r : Rel K M g s σ H) (hx : RpX K g H v x) (hm : ∀ d, x = .d d → ¬ (M i = true ∧ isM d = true)) : Rel K M (g.drop i) { s with env := s.env.set i (some x) } (σ.set i (some v)) H where
  slot := fun j y e => by
    rcases get_set e with ⟨h0, z, hi⟩ | ⟨hne, e⟩
    · subst h0
      cases z
      refine ⟨v, List.getElem?_set_self (by rw [← r.len]; exact hi), ?_⟩
      have hn : ∀ a, (g.drop i).N a → g.N a ∨ H a = none := fun a h => .inl (G.drop_N h)
      cases x with
      | d d => exact ⟨fun c => absurd c (hm d rfl), fun _ => Rp.forbid hn hx⟩
      | z d => exact Rp.forbid hn hx
      | src => exact hx
      | srcc => exact hx
    · obtain ⟨v', h1, h2⟩ := r.slot j y e
      exact ⟨v', (List.getElem?_set_ne hne).trans h1, h2.drop (Ne.symm hne)⟩
  inj := fun a b c h1 h2 => r.inj a b c (G.drop_P h1).2 (G.drop_P h2).2
  sep := fun a b h => r.sep a b (G.drop_P h).2
  ex := fun a h => r.ex a (G.drop_N h)
  srN := r.srN
  src := r.src
  len := by
    simp only [List.length_set]
    exact r.len
end
end Ev
/-! Ev3: expressions' readings; operands that are lent. -/
namespace Ev
open PySem PySem.Spec L2

/-- the defs as they are called, and how many turns a while may take -/
structure Fn where
  call : String → List Vx → Option Src → Option (Vx × Option Src)
  fuel : Nat
abbrev CE := Fn → S → Option (Vx × S)

/-- a new list or dict at v, which nothing else holds -/
def FreshX (K : KK) (M : Nat → Bool) (g : G) (s' : S) (σ : L2.St) (H H' : Hp) (v : V) (x : Vx) : Prop :=
  ∀ d, x = .d d → isM d = true → ∃ a g', v = .ref a ∧ H a = none ∧ Rel K M g' s' σ H' ∧ Evo g g' H H' ∧ g'.N0 a ∧ ¬ g'.SA a ∧ ¬ g'.CA a ∧ Top K g'.N H' a d
def TX (K : KK) (F : Fn) (M : Nat → Bool) (fr : Bool) (c : CE) : TE := fun σ H Q => ∃ g s x s', Rel K M g s σ H ∧ c F s = some (x, s') ∧
  ∀ v g' H', Rel K M g' s' σ H' → Evo g g' H H' → RpX K g' H' v x → (fr = true → FreshX K M g s' σ H H' v x) → Q v H'

/-- an operand: an expression, or a slot that is lent while the others are reckoned -/
inductive Opd where
  | e (c : CE) | pk (i : Nat) | sh (i : Nat)
def Opd.ev : Opd → Fn → S → Option (PyData × S × List (Nat × PyData))
  | .e c, F, s => match c F s with
    | some (.d d, s') => some (d, s', [])
    | _ => none
  | .pk i, _, s => match s.env[i]? with
    | some (some (.d d)) => if isM d then some (d, { s with env := s.env.set i none }, [(i, d)]) else some (d, s, [])
    | some (some (.z d)) => some (d, s, [])
    | _ => none
  | .sh i, _, s => match s.env[i]? with
    | some (some (.d d)) => some (d, { s with env := s.env.set i (some (.z d)) }, [])
    | some (some (.z d)) => some (d, s, [])
    | _ => none
def back (l : List (Nat × PyData)) (s : S) : S := l.foldr (fun p s => { s with env := s.env.set p.1 (some (.d p.2)) }) s
def evOps : List Opd → Fn → S → Option (List PyData × S × List (Nat × PyData))
  | [], _, s => some ([], s, [])
  | o :: os, F, s => match o.ev F s with
    | some (d, s1, l1) => match evOps os F s1 with
      | some (ds, s2, l2) => some (d :: ds, s2, l1 ++ l2)
      | none => none
    | none => none

/-- data that are read: they lie as any, or as a list or dict of a lent slot -/
def RpT (K : KK) (g : G) (H : Hp) (v : V) (d : PyData) : Prop := Rp K g.N H v d ∨ ∃ a, v = .ref a ∧ Top K g.N H a d ∧ ¬ g.W a
/-- what was lent can be given back -/
def Lent (K : KK) (M : Nat → Bool) (σ : L2.St) (g : G) (H : Hp) (l : List (Nat × PyData)) (g' : G) (H' : Hp) : Prop :=
  ∀ g2 s2 H2, Rel K M g2 s2 σ H2 → Evo g' g2 H' H2 → ∃ g3, Rel K M g3 (back l s2) σ H2 ∧ Evo g g3 H H2 ∧ (∀ a, g3.N a → g2.N a) ∧ g3.SA = g2.SA ∧ g3.CA = g2.CA ∧ ∀ b, H' b = none → g2.N0 b → g3.N0 b
/-- an operand's reading -/
def TP (K : KK) (F : Fn) (M : Nat → Bool) (o : Opd) : TE := fun σ H Q => ∃ g s d s' l, Rel K M g s σ H ∧ o.ev F s = some (d, s', l) ∧
  ∀ v g' H', Rel K M g' s' σ H' → Evo g g' H H' → RpT K g' H' v d → Lent K M σ g H l g' H' → Q v H'
/-- operands' readings -/
def TPA (K : KK) (F : Fn) (M : Nat → Bool) (os : List Opd) : TA := fun σ H Q => ∃ g s ds s' l, Rel K M g s σ H ∧ evOps os F s = some (ds, s', l) ∧
  ∀ vs g' H', Rel K M g' s' σ H' → Evo g g' H H' → Paired (RpT K g' H') vs ds → Lent K M σ g H l g' H' → Q vs H'

section
variable {K : KK} {M : Nat → Bool} {F : Fn} {g g' g'' : G} {s s' : S} {σ : L2.St} {H H' H'' : Hp}
theorem Lent.nil (e : Evo g g' H H') : Lent K M σ g H [] g' H' := fun g2 s2 H2 r f => ⟨g2, r, e.trans f, fun _ h => h, rfl, rfl, fun _ _ h => h⟩
theorem Lent.trans {l l' : List (Nat × PyData)} (gr : ∀ a, H' a ≠ none → H'' a ≠ none) (h : Lent K M σ g H l g' H') (h' : Lent K M σ g' H' l' g'' H'') : Lent K M σ g H (l ++ l') g'' H'' := fun g2 s2 H2 r f => by
  obtain ⟨g3, r3, f3, n3, a3, c3, k3⟩ := h' g2 s2 H2 r f
  obtain ⟨g4, r4, f4, n4, a4, c4, k4⟩ := h g3 _ H2 r3 f3
  refine ⟨g4, ?_, f4, fun a h => n3 a (n4 a h), a4.trans a3, c4.trans c3, fun b hb z => k4 b (none_back gr hb) (k3 b hb z)⟩
  have e : back (l ++ l') s2 = back l (back l' s2) := by unfold back; rw [List.foldr_append]
  rw [e]; exact r4
theorem Lent.ext {l : List (Nat × PyData)} (e : Evo g' g'' H' H'') (h : Lent K M σ g H l g' H') : Lent K M σ g H l g'' H'' := fun g2 s2 H2 r f => by
  obtain ⟨g3, r3, f3, n3, a3, c3, k3⟩ := h g2 s2 H2 r (e.trans f)
  exact ⟨g3, r3, f3, n3, a3, c3, fun b hb z => k3 b (none_back e.grow hb) z⟩

/-- a slot lent: locked, not to be seen -/
theorem lend {i : Nat} {d : PyData} (r : Rel K M g s σ H) (e : s.env[i]? = some (some (.d d))) (hm : M i = true ∧ isM d = true) :
    ∃ a, σ[i]? = some (some (.ref a)) ∧ Rel K M ((g.drop i).lock a) { s with env := s.env.set i none } σ H ∧ Evo g ((g.drop i).lock a) H H ∧ Top K ((g.drop i).lock a).N H a d ∧ ¬ ((g.drop i).lock a).W a ∧
      Lent K M σ g H [(i, d)] ((g.drop i).lock a) H := by
  obtain ⟨v, ev, _⟩ := r.slot i _ e
  obtain ⟨a, rfl, p, t, nN⟩ := r.taken e ev hm
  obtain ⟨_, _, hs⟩ := r.slot i _ e
  obtain ⟨a', ea, p', t0⟩ := hs.1 hm
  have haa : a' = a := by rw [p] at p'; exact (Option.some.inj p').symm
  subst haa
  have hN : ∀ b, ((g.drop i).lock a').N b → g.N b := fun b h => (G.lock_N.mp h).elim G.drop_N fun z => by rw [z]; exact .inr ⟨i, p⟩
  have hW : ∀ b, ((g.drop i).lock a').W b → g.W b := fun b h => G.drop_W (by
    rcases h with ⟨j, h⟩ | h
    · exact .inl ⟨j, h⟩
    · exact .inr h)
  have hev : Evo g ((g.drop i).lock a') H H := ⟨fun b h => .inl (hN b h), fun b h => .inl (hW b h), fun _ h => h, fun _ h => h, fun _ h => .inl h, fun _ _ h _ => h, fun _ _ h => h, fun _ _ _ h => h, fun _ h => h, fun _ h => .inl h⟩
  have nW : ¬ ((g.drop i).lock a').W a' := fun h => by
    rcases h with ⟨j, h⟩ | h
    · obtain ⟨h1, h2⟩ := G.drop_P (g := g) (i := i) (j := j) h
      exact h1 (r.inj j i a' h2 p)
    · exact r.sep i a' p (r.srN a' h)
  refine ⟨a', ev, ⟨fun j x ej => ?_, fun j k b h1 h2 => r.inj j k b (G.drop_P h1).2 (G.drop_P h2).2, fun j b h z => ?_, fun b h => r.ex b (hN b h), fun b h => .inl (r.srN b h), r.src, ?_⟩, hev, t0.forbid fun b h => .inl (hN b h), nW, ?_⟩
  · rcases get_set ej with ⟨_, z, _⟩ | ⟨hne, ej⟩
    · cases z
    · obtain ⟨v, h1, h2⟩ := r.slot j x ej
      refine ⟨v, h1, ?_⟩
      have hn : ∀ b, ((g.drop i).lock a').N b → g.N b ∨ H b = none := fun b h => .inl (hN b h)
      cases x with
      | d d' => exact ⟨fun c => let ⟨b, e, q, t⟩ := h2.1 c; ⟨b, e, by show (g.drop i).P j = some b; unfold G.drop; simp only; rw [if_neg (Ne.symm hne)]; exact q, t.forbid hn⟩, fun c => (h2.2 c).forbid hn⟩
      | z d => exact Rp.forbid hn h2
      | src => exact h2
      | srcc => exact h2
  · rcases z with z | z
    · exact r.sep j b (G.drop_P h).2 z
    · obtain ⟨h1, h2⟩ := G.drop_P h
      rw [z] at h2
      exact h1 (r.inj j i a' h2 p)
  · rw [env_set_len]; exact r.len
  · -- given back
    intro g2 s2 H2 r2 f
    have hl : g2.N0 a' := f.n0 a' (.inr rfl)
    have hk : H2 a' = H a' := by
      cases q : H a' with
      | none => exact absurd q t0.nn
      | some o => exact f.keep a' o q nW
    have wn : ∀ b, ((g.drop i).lock a').W b → ((g.drop i).lock a').N b := fun b h => by
      rcases h with h | h
      · exact .inr h
      · exact .inl (.inl (r.srN b h))
    have t2 : Top K g2.N H2 a' d := f.top wn nW (t0.forbid fun b h => .inl (hN b h))
    let g3 : G := { g2 with N0 := fun b => g2.N0 b ∧ b ≠ a', P := fun j => if j = i then some a' else g2.P j }
    have P3 : ∀ j b, g3.P j = some b → (j = i ∧ b = a') ∨ (j ≠ i ∧ g2.P j = some b) := fun j b h => by
      have h : (if j = i then some a' else g2.P j) = some b := h
      split at h
      · rename_i c; exact .inl ⟨c, (Option.some.inj h).symm⟩
      · rename_i c; exact .inr ⟨c, h⟩
    have N3 : ∀ b, g3.N b → g2.N b := fun b h => by
      rcases h with h | ⟨j, h⟩
      · exact .inl h.1
      · rcases P3 j b h with ⟨_, z⟩ | ⟨_, z⟩
        · rw [z]; exact .inl hl
        · exact .inr ⟨j, z⟩
    have nSA : ¬ (g2.SA a' ∨ g2.CA a') := fun h => by
      have hw : g2.W a' := .inr h
      rcases f.w a' hw with z | z
      · exact nW z
      · exact t0.nn z
    refine ⟨g3, ⟨fun j x ej => ?_, fun j k b h1 h2 => ?_, fun j b h z => ?_, fun b h => r2.ex b (N3 b h), fun b h => ⟨r2.srN b h, fun z => nSA (by rw [z] at h; exact h)⟩, r2.src, ?_⟩, ?_, N3, rfl, rfl, fun b hb z => ⟨z, fun q => t0.nn (by rw [← q]; exact hb)⟩⟩
    · have ej : (s2.env.set i (some (.d d)))[j]? = some (some x) := ej
      rcases get_set ej with ⟨h0, z, hi⟩ | ⟨hne, ej⟩
      · subst h0
        cases z
        exact ⟨.ref a', ev, fun _ => ⟨a', rfl, by show (if i = i then some a' else g2.P i) = some a'; rw [if_pos rfl], t2.forbid fun b h => .inl (N3 b h)⟩, fun c => absurd hm c⟩
      · obtain ⟨v, h1, h2⟩ := r2.slot j x ej
        refine ⟨v, h1, ?_⟩
        have hn : ∀ b, g3.N b → g2.N b ∨ H2 b = none := fun b h => .inl (N3 b h)
        cases x with
        | d d' => exact ⟨fun c => let ⟨b, e, q, t⟩ := h2.1 c; ⟨b, e, by show (if j = i then some a' else g2.P j) = some b; rw [if_neg (Ne.symm hne)]; exact q, t.forbid hn⟩, fun c => (h2.2 c).forbid hn⟩
        | z d => exact Rp.forbid hn h2
        | src => exact h2
        | srcc => exact h2
    · rcases P3 j b h1 with ⟨e1, z1⟩ | ⟨e1, z1⟩ <;> rcases P3 k b h2 with ⟨e2, z2⟩ | ⟨e2, z2⟩
      · rw [e1, e2]
      · exact absurd hl (by rw [← z1]; exact r2.sep k b z2)
      · exact absurd hl (by rw [← z2]; exact r2.sep j b z1)
      · exact r2.inj j k b z1 z2
    · rcases P3 j b h with ⟨_, q⟩ | ⟨_, q⟩
      · exact z.2 q
      · exact r2.sep j b q z.1
    · show (s2.env.set i (some (.d d))).length = σ.length
      rw [env_set_len]; exact r2.len
    · have ef := hev.trans f
      refine ⟨fun b h => ef.n b (N3 b h), fun b h => ?_, ef.sa, ef.ca, fun b h => ⟨ef.n0 b h, fun q => r.sep i a' p (by rw [← q]; exact h)⟩, ef.keep, ef.tup, ef.frz, ef.grow, ef.sr⟩
      rcases h with ⟨j, h⟩ | h
      · rcases P3 j b h with ⟨_, z⟩ | ⟨_, z⟩
        · rw [z]; exact .inl (.inl ⟨i, p⟩)
        · exact ef.w b (.inl ⟨j, z⟩)
      · exact ef.w b (.inr h)
theorem RpT.move (e : Evo g g' H H') (wn : ∀ a, g.W a → g.N a) {v : V} {d : PyData} (h : RpT K g H v d) : RpT K g' H' v d := by
  rcases h with h | ⟨a, rfl, t, nw⟩
  · exact .inl (e.rp wn h)
  · exact .inr ⟨a, rfl, e.top wn nw t, fun z => (e.w a z).elim nw t.nn⟩
end

theorem peI {X : Cx} {e : Expr} {t t' : TE} (h : PE X e t) (hi : ∀ σ H Q, t' σ H Q → t σ H Q) : PE X e t' := ⟨fun pins s σ H Q I q => h.run pins s σ H Q I (hi _ _ _ q)⟩
theorem paI {X : Cx} {e : List Expr} {t t' : TA} (h : PA X e t) (hi : ∀ σ H Q, t' σ H Q → t σ H Q) : PA X e t' := ⟨fun pos pins s σ H Q I q => h.run pos pins s σ H Q I (hi _ _ _ q)⟩
theorem ptI {X : Cx} {e : Expr} {t t' : TT} (h : PT X e t) (hi : ∀ σ H Q, t' σ H Q → t σ H Q) : PT X e t' := ⟨fun pins s σ H Q I q => h.run pins s σ H Q I (hi _ _ _ q)⟩
theorem psI {X : Cx} {e : Stmt} {t t' : TS} (h : PS X e t) (hi : ∀ D σ H, t' D σ H → t D σ H) : PS X e t' := ⟨fun pins s σ H Q I q => h.run pins s σ H Q I (hi _ _ _ q)⟩
theorem pssI {X : Cx} {e : List Stmt} {t t' : TS} (h : PSs X e t) (hi : ∀ D σ H, t' D σ H → t D σ H) : PSs X e t' := ⟨fun pins s σ H Q I q => h.run pins s σ H Q I (hi _ _ _ q)⟩

/-! ### what a reckoned value may be -/
/-- the data d are to lie at the value: as they are, or in a new place -/
def VR (K : KK) (N : Addr → Prop) (H : Hp) (d : PyData) (Q : VK) : Prop := ∀ v H', Same H H' → Rp K N H' v d → (isM d = true → ∃ a, v = .ref a ∧ H a = none ∧ Top K (fun b => N b ∨ b = a) H' a d) → Q v H'
/-- data that are read, whoever may write them -/
def RpV (K : KK) (N : Addr → Prop) (H : Hp) (v : V) (d : PyData) : Prop := Rp K N H v d ∨ ∃ a, v = .ref a ∧ Top K N H a d
def R2D (K : KK) (f : PyData → PyData → Option PyData) : R2 := fun x y H Q => ∃ N dx dy d, (∀ a, N a → H a ≠ none) ∧ RpV K N H x dx ∧ RpV K N H y dy ∧ f dx dy = some d ∧ VR K N H d Q
def RnD (K : KK) (f : List PyData → Option PyData) : List V → Hp → VK → Prop := fun vs H Q => ∃ N ds d, (∀ a, N a → H a ≠ none) ∧ Paired (RpV K N H) vs ds ∧ f ds = some d ∧ VR K N H d Q
section
variable {K : KK} {M : Nat → Bool} {F : Fn} {g g' : G} {s s' : S} {σ : L2.St} {H H' : Hp}
theorem RpT.v {v : V} {d : PyData} (h : RpT K g H v d) : RpV K g.N H v d := h.imp id fun ⟨a, e, t, _⟩ => ⟨a, e, t⟩
/-- behind an operation: what was lent is given back -/
theorem fin_op {l : List (Nat × PyData)} {fr : Bool} {d : PyData} {Q : VK} (r : Rel K M g' s σ H') (L : Lent K M σ g H l g' H') (e : Evo g g' H H')
    (q : ∀ v g2 H2, Rel K M g2 (back l s) σ H2 → Evo g g2 H H2 → RpX K g2 H2 v (.d d) → (fr = true → FreshX K M g (back l s) σ H H2 v (.d d)) → Q v H2) : VR K g'.N H' d Q := by
  intro v H2 k rp fr'
  obtain ⟨g3, r3, e3, n3, _, _, _⟩ := L g' s H2 (r.same k) (Evo.same k)
  refine q v g3 H2 r3 e3 (Rp.forbid (fun a h => .inl (n3 a h)) rp) fun _ d' ed hd => ?_
  cases ed
  obtain ⟨a, rfl, ha, t⟩ := fr' hd
  have hx := r.fresh ha k t.nn
  have ev : Evo g' (g'.lock a) H' H2 := by
    have e1 : Evo g' g' H' H2 := Evo.same k
    refine ⟨fun b h => (G.lock_N.mp h).elim .inl fun z => .inr (by rw [z]; exact ha), fun b h => ?_, fun _ h => h, fun _ h => h, fun _ h => .inl h, e1.keep, e1.tup, e1.frz, e1.grow, fun _ h => .inl h⟩
    rcases h with ⟨j, h⟩ | h
    · exact .inl (.inl ⟨j, h⟩)
    · exact .inl (.inr h)
  obtain ⟨g4, r4, e4, n4, sa4, ca4, k4⟩ := L (g'.lock a) s H2 hx ev
  have hna : ¬ (g'.SA a ∨ g'.CA a) := fun z => r.ex a (.inl (r.srN a z)) ha
  refine ⟨a, g4, rfl, none_back e.grow ha, r4, e4, k4 a ha (.inr rfl), fun z => hna (.inl (by have z' := z; rw [sa4] at z'; exact z')), fun z => hna (.inr (by have z' := z; rw [ca4] at z'; exact z')), t.forbid fun b h => .inl ?_⟩
  exact (G.lock_N.mp (n4 b h)).elim .inl .inr
end
section
variable {X : Cx} {M : Nat → Bool} {F : Fn} {a b e : Expr} {es : List Expr} {pos p : Pos}
/-- an expression as an operand -/
theorem op_e {c : CE} {fr : Bool} (h : PE X a (TX X.kk F M fr c)) : PE X a (TP X.kk F M (.e c)) := peI h fun σ H Q ⟨g, s, d, s', l, r, e, q⟩ => by
  unfold Opd.ev at e
  simp only at e
  split at e
  · rename_i d' s2 ec
    cases e
    exact ⟨g, s, .d d, s', r, ec, fun v g' H' r' ev rp _ => q v g' H' r' ev (.inl rp) (Lent.nil ev)⟩
  · cases e
/-- a slot as an operand: lent -/
theorem op_pk {i : Nat} {x : Str} (hN : X.N[i]? = some x) (hv : Vis X.env.scope x) (hm : M i = true) (hd : (x == ("__debug__" : Str)) = false := by decide) (hcd : (x == ("__classdict__" : Str)) = false := by decide) : PE X (.Name x pos) (TP X.kk F M (.pk i)) := peI (pe_var hN hv hd hcd) fun σ H Q ⟨g, s, d, s', l, r, e, q⟩ => by
  unfold Opd.ev at e
  simp only at e
  split at e
  · rename_i d' e1
    split at e
    · rename_i hmd
      cases e
      obtain ⟨a, ev, r2, e2, t, nw, L⟩ := lend r e1 ⟨hm, hmd⟩
      exact ⟨_, ev, q _ _ _ r2 e2 (.inr ⟨a, rfl, t, nw⟩) L⟩
    · rename_i hmd
      cases e
      obtain ⟨v, ev, hs⟩ := r.slot i _ e1
      exact ⟨v, ev, q v g H r Evo.refl (.inl (hs.2 fun z => hmd z.2)) (Lent.nil Evo.refl)⟩
  · rename_i d' e1
    cases e
    obtain ⟨v, ev, hs⟩ := r.slot i _ e1
    exact ⟨v, ev, q v g H r Evo.refl (.inl hs) (Lent.nil Evo.refl)⟩
  · cases e
/-- the slot's thing given free: from here on it is read alone -/
theorem Rel.free {K : KK} {M : Nat → Bool} {g : G} {s : S} {σ : L2.St} {H : Hp} {i : Nat} {d : PyData} {v : V} (r : Rel K M g s σ H) (ev : σ[i]? = some (some v)) (hv : Rp K (g.drop i).N H v d) : Rel K M (g.drop i) { s with env := s.env.set i (some (.z d)) } σ H where
  slot := fun j y e => by
    rcases get_set e with ⟨h0, z, hi⟩ | ⟨hne, e⟩
    · subst h0
      cases z
      exact ⟨v, ev, hv⟩
    · obtain ⟨v', h1, h2⟩ := r.slot j y e
      exact ⟨v', h1, h2.drop (Ne.symm hne)⟩
  inj := fun a b c h1 h2 => r.inj a b c (G.drop_P h1).2 (G.drop_P h2).2
  sep := fun a b h => r.sep a b (G.drop_P h).2
  ex := fun a h => r.ex a (G.drop_N h)
  srN := r.srN
  src := r.src
  len := by rw [← r.len]; exact env_set_len _ _ _
/-- a slot as an operand, given free -/
theorem op_sh {i : Nat} {x : Str} (hN : X.N[i]? = some x) (hv : Vis X.env.scope x) (hd : (x == ("__debug__" : Str)) = false := by decide) (hcd : (x == ("__classdict__" : Str)) = false := by decide) : PE X (.Name x pos) (TP X.kk F M (.sh i)) := peI (pe_var hN hv hd hcd) fun σ H Q ⟨g, s, d, s', l, r, e, q⟩ => by
  unfold Opd.ev at e
  simp only at e
  split at e
  · rename_i d' e1
    cases e
    obtain ⟨v, ev, hs⟩ := r.slot i _ e1
    by_cases hm : M i = true ∧ isM d = true
    · obtain ⟨a, rfl, p, t, nN⟩ := r.taken e1 ev hm
      have rp := t.rp nN
      exact ⟨_, ev, q _ (g.drop i) H (r.free ev rp) Evo.drop (.inl rp) (Lent.nil Evo.drop)⟩
    · have rp : Rp X.kk (g.drop i).N H v d := (hs.2 hm).forbid fun b h => .inl (G.drop_N h)
      exact ⟨_, ev, q _ (g.drop i) H (r.free ev rp) Evo.drop (.inl rp) (Lent.nil Evo.drop)⟩
  · rename_i d' e1
    cases e
    obtain ⟨v, ev, hs⟩ := r.slot i _ e1
    exact ⟨v, ev, q v g H r Evo.refl (.inl hs) (Lent.nil Evo.refl)⟩
  · cases e
theorem ops_nil : PA X [] (TPA X.kk F M []) := paI pa_nil fun σ H Q ⟨g, s, ds, s', l, r, e, q⟩ => by
  cases e
  exact q [] g H r Evo.refl .nil (Lent.nil Evo.refl)
theorem ops_cons {o : Opd} {os : List Opd} (ha : PE X e (TP X.kk F M o)) (hr : PA X es (TPA X.kk F M os)) (hs : starEach (e :: es) X.env = (false, eval e X.env) :: starEach es X.env := by rfl) : PA X (e :: es) (TPA X.kk F M (o :: os)) :=
  paI (pa_cons ha hr hs) fun σ H Q ⟨g, s, ds, s', l, r, ev, q⟩ => by
    unfold evOps at ev
    split at ev
    · rename_i d s1 l1 e1
      split at ev
      · rename_i ds2 s2 l2 e2
        cases ev
        refine ⟨g, s, d, s1, l1, r, e1, fun v g1 H1 r1 v1 rp1 L1 => ⟨g1, s1, ds2, s', l2, r1, e2, fun vs g2 H2 r2 v2 rp2 L2 => ?_⟩⟩
        exact q (v :: vs) g2 H2 r2 (v1.trans v2) (.cons (rp1.move v2 r1.wn) rp2) (L1.trans v2.grow L2)
      · cases ev
    · cases ev
/-! ### operators, built-ins by values -/
def cBin (f : PyData → PyData → Option PyData) (a b : Opd) : CE := fun F s => match a.ev F s with
  | some (d1, s1, l1) => match b.ev F s1 with
    | some (d2, s2, l2) => match f d1 d2 with
      | some d => some (.d d, back (l1 ++ l2) s2)
      | none => none
    | none => none
  | none => none
theorem tx_bin {oa ob : Opd} {f : PyData → PyData → Option PyData} {σ : L2.St} {H : Hp} {Q : VK} (h : TX X.kk F M true (cBin f oa ob) σ H Q) : tOp (R2D X.kk f) (TP X.kk F M oa) (TP X.kk F M ob) σ H Q := by
  obtain ⟨g, s, x, s', r, ev, q⟩ := h
  unfold cBin at ev
  split at ev
  · rename_i d1 s1 l1 e1
    split at ev
    · rename_i d2 s2 l2 e2
      split at ev
      · rename_i d e3
        cases ev
        refine ⟨g, s, d1, s1, l1, r, e1, fun v1 g1 H1 r1 v1' rp1 L1 => ⟨g1, s1, d2, s2, l2, r1, e2, fun v2 g2 H2 r2 v2' rp2 L2 => ?_⟩⟩
        exact ⟨g2.N, d1, d2, d, r2.ex, (rp1.move v2' r1.wn).v, rp2.v, e3, fin_op r2 (L1.trans v2'.grow L2) (v1'.trans v2') q⟩
      · cases ev
    · cases ev
  · cases ev
theorem sx_bin {op : Operator} {f : PyData → PyData → Option PyData} {oa ob : Opd} (ho : OpR X (binaryOp op) (R2D X.kk f)) (ha : PE X a (TP X.kk F M oa)) (hb : PE X b (TP X.kk F M ob)) : PE X (.BinOp a op b pos) (TX X.kk F M true (cBin f oa ob)) :=
  peI (pe_op ho ha hb) fun _ _ _ h => tx_bin h
theorem sx_cmp {op : CmpOp} {f : PyData → PyData → Option PyData} {oa ob : Opd} (ho : OpR X (compareOp op) (R2D X.kk f)) (ha : PE X a (TP X.kk F M oa)) (hb : PE X b (TP X.kk F M ob)) (hm : behindInMarks op b = false) : PE X (.Compare a [op] [b] pos) (TX X.kk F M true (cBin f oa ob)) :=
  peI (pe_cmpR ho ha hb hm) fun _ _ _ h => tx_bin h
theorem sx_ix {f : PyData → PyData → Option PyData} {oa ob : Opd} (ho : IxR X (R2D X.kk f)) (ha : PE X a (TP X.kk F M oa)) (hb : PE X b (TP X.kk F M ob)) (hs : PlainIx b) : PE X (.Subscript a b pos) (TX X.kk F M true (cBin f oa ob)) :=
  peI (pe_ix ho ha hb hs) fun _ _ _ h => tx_bin h
/-- a built-in's call -/
def cNat (f : List PyData → Option PyData) (os : List Opd) : CE := fun F s => match evOps os F s with
  | some (ds, s1, l) => match f ds with
    | some d => some (.d d, back l s1)
    | none => none
  | none => none
theorem tx_nat {os : List Opd} {f : List PyData → Option PyData} {σ : L2.St} {H : Hp} {Q : VK} (h : TX X.kk F M true (cNat f os) σ H Q) : tCB (RnD X.kk f) (TPA X.kk F M os) σ H Q := by
  obtain ⟨g, s, x, s', r, ev, q⟩ := h
  unfold cNat at ev
  split at ev
  · rename_i ds s1 l e1
    split at ev
    · rename_i d e3
      cases ev
      refine ⟨g, s, ds, s1, l, r, e1, fun vs g1 H1 r1 v1' rp1 L1 => ?_⟩
      exact ⟨g1.N, ds, d, r1.ex, Paired.mapP rp1 fun _ _ z => z.v, e3, fin_op r1 L1 v1' q⟩
    · cases ev
  · cases ev
end
end Ev
/-! Ev4: names, constants, displays, tests, conditional expressions. -/
namespace Ev
open PySem PySem.Spec L2

section
variable {X : Cx} {M : Nat → Bool} {F : Fn} {a b c e : Expr} {es : List Expr} {pos p : Pos}

/-! ### names and constants -/
/-- the name in slot i; m: is it of those that are changed in place (then it is given up) -/
def cVar (m : Bool) (i : Nat) : CE := fun _ s => match s.env[i]? with
  | some (some (.d d)) => if m && isM d then some (.d d, { s with env := s.env.set i none }) else some (.d d, s)
  | some (some (.z d)) => some (.d d, s)
  | some (some .src) => some (.src, s)
  | some (some .srcc) => some (.srcc, s)
  | _ => none
theorem sx_var {i : Nat} {x : Str} {m : Bool} (hN : X.N[i]? = some x) (hv : Vis X.env.scope x) (hm : M i = m) (hd : (x == ("__debug__" : Str)) = false := by decide) (hcd : (x == ("__classdict__" : Str)) = false := by decide) : PE X (.Name x pos) (TX X.kk F M false (cVar m i)) :=
  peI (pe_var hN hv hd hcd) fun σ H Q ⟨g, s, x, s', r, e, q⟩ => by
    unfold cVar at e
    split at e
    · rename_i d e1
      obtain ⟨v, ev, hs⟩ := r.slot i _ e1
      split at e
      · rename_i hmd
        cases e
        rw [Bool.and_eq_true] at hmd
        have hmi : M i = true ∧ isM d = true := ⟨hm.trans hmd.1, hmd.2⟩
        obtain ⟨a, rfl, p, t, nN⟩ := r.taken e1 ev hmi
        exact ⟨_, ev, q _ (g.drop i) H r.drop Evo.drop (t.rp nN) fun z => nomatch z⟩
      · rename_i hmd
        cases e
        have hmi : ¬ (M i = true ∧ isM d = true) := fun z => hmd (by rw [Bool.and_eq_true]; exact ⟨hm.symm.trans z.1, z.2⟩)
        exact ⟨v, ev, q v g H r Evo.refl (hs.2 hmi) fun z => nomatch z⟩
    · rename_i d e1
      cases e
      obtain ⟨v, ev, hs⟩ := r.slot i _ e1
      exact ⟨v, ev, q v g H r Evo.refl hs fun z => nomatch z⟩
    · rename_i e1
      cases e
      obtain ⟨v, ev, hs⟩ := r.slot i _ e1
      exact ⟨v, ev, q v g H r Evo.refl hs fun z => nomatch z⟩
    · rename_i e1
      cases e
      obtain ⟨v, ev, hs⟩ := r.slot i _ e1
      exact ⟨v, ev, q v g H r Evo.refl hs fun z => nomatch z⟩
    · cases e
def cC (d : PyData) : CE := fun _ s => some (.d d, s)
theorem tx_c {d : PyData} {v : V} (hr : ∀ (N : Addr → Prop) (H : Hp), Rp X.kk N H v d) (hd : isM d = false) {σ : L2.St} {H : Hp} {Q : VK} (h : TX X.kk F M true (cC d) σ H Q) : tC v σ H Q := by
  obtain ⟨g, s, x, s', r, e, q⟩ := h
  cases e
  exact q v g H r Evo.refl (hr _ _) fun _ d' e' h => by cases e'; rw [hd] at h; cases h
theorem sx_int {i j} : PE X (.Constant (.int i) j pos) (TX X.kk F M true (cC (.int i))) := peI pe_int fun _ _ _ h => tx_c (fun _ _ => .int i) rfl h
theorem sx_bl {i j} : PE X (.Constant (.bool i) j pos) (TX X.kk F M true (cC (.bool i))) := peI pe_bl fun _ _ _ h => tx_c (fun _ _ => .bl i) rfl h
theorem sx_non {j} : PE X (.Constant .none j pos) (TX X.kk F M true (cC .none)) := peI pe_non fun _ _ _ h => tx_c (fun _ _ => .non) rfl h
theorem sx_str {i j} : PE X (.Constant (.str i) j pos) (TX X.kk F M true (cC (.str i))) := peI pe_str fun _ _ _ h => tx_c (fun _ _ => .str i) rfl h
/-- to forget that it is new -/
theorem sx_any {c : CE} {fr : Bool} (h : PE X e (TX X.kk F M fr c)) : PE X e (TX X.kk F M false c) := peI h fun σ H Q ⟨g, s, x, s', r, ev, q⟩ => ⟨g, s, x, s', r, ev, fun v g' H' r' e' rp _ => q v g' H' r' e' rp fun z => nomatch z⟩

/-! ### argument lists, displays -/
def evArgs : List CE → Fn → S → Option (List Vx × S)
  | [], _, s => some ([], s)
  | c :: cs, F, s => match c F s with
    | some (x, s1) => match evArgs cs F s1 with
      | some (xs, s2) => some (x :: xs, s2)
      | none => none
    | none => none
def TXA (K : KK) (F : Fn) (M : Nat → Bool) (cs : List CE) : TA := fun σ H Q => ∃ g s xs s', Rel K M g s σ H ∧ evArgs cs F s = some (xs, s') ∧
  ∀ vs g' H', Rel K M g' s' σ H' → Evo g g' H H' → Paired (RpX K g' H') vs xs → Q vs H'
theorem as_nil : PA X [] (TXA X.kk F M []) := paI pa_nil fun σ H Q ⟨g, s, ds, s', r, e, q⟩ => by
  cases e
  exact q [] g H r Evo.refl .nil
theorem as_cons {c : CE} {cs : List CE} {fr : Bool} (ha : PE X e (TX X.kk F M fr c)) (hr : PA X es (TXA X.kk F M cs)) (hs : starEach (e :: es) X.env = (false, eval e X.env) :: starEach es X.env := by rfl) : PA X (e :: es) (TXA X.kk F M (c :: cs)) :=
  paI (pa_cons ha hr hs) fun σ H Q ⟨g, s, xs, s', r, ev, q⟩ => by
    unfold evArgs at ev
    split at ev
    · rename_i x s1 e1
      split at ev
      · rename_i ys s2 e2
        cases ev
        refine ⟨g, s, x, s1, r, e1, fun v g1 H1 r1 v1 rp1 _ => ⟨g1, s1, ys, s', r1, e2, fun vs g2 H2 r2 v2 rp2 => ?_⟩⟩
        exact q (v :: vs) g2 H2 r2 (v1.trans v2) (.cons (v2.rpX r1.wn rp1) rp2)
      · cases ev
    · cases ev
def allD : List Vx → Option (List PyData)
  | [] => some []
  | .d d :: r => match allD r with
    | some ds => some (d :: ds)
    | none => none
  | _ :: _ => none
theorem allD_rp {K : KK} {g : G} {H : Hp} : ∀ {vs : List V} {xs : List Vx} {ds : List PyData}, Paired (RpX K g H) vs xs → allD xs = some ds → RpA K g.N H vs ds
  | _, _, _, .nil, e => by cases e; exact .nil
  | _, .d d :: r, ds, .cons h t, e => by
    unfold allD at e
    split at e
    · rename_i ds' e'
      cases e
      exact .cons h (allD_rp t e')
    · cases e
  | _, .src :: r, ds, .cons h t, e => by cases e
  | _, .srcc :: r, ds, .cons h t, e => by cases e
  | _, .z _ :: r, ds, .cons h t, e => by cases e
theorem vr_tup {K : KK} {N : Addr → Prop} {H : Hp} {xs : List V} {ds : List PyData} {Q : VK} (r : RpA K N H xs ds) (h : VR K N H (.tuple ds) Q) {p : Addr} (hp : H p = none) : Q (.ref p) (upd H p (.tup xs)) := by
  have k : Same H (upd H p (.tup xs)) := fun b o e => by rw [upd_ne (ne_of_none e hp)]; exact e
  exact h _ _ k (.tup (.inl (.inl upd_same)) (r.same k)) fun z => nomatch z
theorem vr_lst {K : KK} {N : Addr → Prop} {H : Hp} {xs : List V} {ds : List PyData} {Q : VK} (hN : ∀ a, N a → H a ≠ none) (r : RpA K N H xs ds) (h : VR K N H (.list ds) Q) {p : Addr} (hp : H p = none) : Q (.ref p) (upd H p (.lst xs)) := by
  have k : Same H (upd H p (.lst xs)) := fun b o e => by rw [upd_ne (ne_of_none e hp)]; exact e
  have r1 : RpA K (fun b => N b ∨ b = p) H xs ds := r.forbid fun a h => h.imp id fun z => by rw [z]; exact hp
  exact h _ _ k (.lst (.inl upd_same) (fun z => hN p z hp) (r.same k)) fun _ => ⟨p, rfl, hp, xs, upd_same, r1.same k⟩
theorem vr_val {K : KK} {N : Addr → Prop} {H : Hp} {v : V} {d : PyData} {Q : VK} (r : Rp K N H v d) (hd : isM d = false) (h : VR K N H d Q) : Q v H := h v H (fun _ _ e => e) r fun z => by rw [hd] at z; cases z
/-- (a, b ..), [a, b ..] -/
def cDisp (t : Bool) (cs : List CE) : CE := fun F s => match evArgs cs F s with
  | some (xs, s1) => match allD xs with
    | some ds => if ds.length ≤ sizeLine then some (.d (if t then .tuple ds else .list ds), s1) else none
    | none => none
  | none => none
theorem sx_tup {cs : List CE} {k : Nat} (h : PA X es (TXA X.kk F M cs)) : PE X (.Tuple es k pos) (TX X.kk F M true (cDisp true cs)) := peI (pe_tup h) fun σ H Q ⟨g, s, x, s', r, e, q⟩ => by
  unfold cDisp at e
  split at e
  · rename_i xs s1 e1
    split at e
    · rename_i ds e2
      split at e
      · rename_i hl
        cases e
        refine ⟨g, s, xs, _, r, e1, fun vs g1 H1 r1 v1 rp => ?_⟩
        have ra := allD_rp rp e2
        exact ⟨by rw [ra.length]; exact hl, fun p hp => vr_tup ra (fin_op r1 (Lent.nil v1) v1 q) hp⟩
      · cases e
    · cases e
  · cases e
theorem sx_lst {cs : List CE} (h : PA X es (TXA X.kk F M cs)) : PE X (.List es pos) (TX X.kk F M true (cDisp false cs)) := peI (pe_lst h) fun σ H Q ⟨g, s, x, s', r, e, q⟩ => by
  unfold cDisp at e
  split at e
  · rename_i xs s1 e1
    split at e
    · rename_i ds e2
      split at e
      · rename_i hl
        cases e
        refine ⟨g, s, xs, _, r, e1, fun vs g1 H1 r1 v1 rp => ?_⟩
        have ra := allD_rp rp e2
        exact ⟨by rw [ra.length]; exact hl, fun p hp => vr_lst r1.ex ra (fin_op r1 (Lent.nil v1) v1 q) hp⟩
      · cases e
    · cases e
  · cases e

/-! ### tests -/
abbrev CB := Fn → S → Option (Bool × S)
def TB (K : KK) (F : Fn) (M : Nat → Bool) (c : CB) : TT := fun σ H Q => ∃ g s b s', Rel K M g s σ H ∧ c F s = some (b, s') ∧ ∀ g' H', Rel K M g' s' σ H' → Evo g g' H H' → Q b H'
/-- a bool's value -/
def bOf (c : CE) : CB := fun F s => match c F s with
  | some (.d (.bool b), s') => some (b, s')
  | _ => none
theorem tb_of {c : CE} {fr : Bool} {σ : L2.St} {H : Hp} {Q : Bool → Hp → Prop} (h : TB X.kk F M (bOf c) σ H Q) : TX X.kk F M fr c σ H fun x H1 => ∃ k, x = .bl k ∧ Q k H1 := by
  obtain ⟨g, s, b, s', r, e, q⟩ := h
  unfold bOf at e
  split at e
  · rename_i b' s1 e1
    cases e
    refine ⟨g, s, _, s', r, e1, fun v g' H' r' e' rp _ => ?_⟩
    cases rp
    exact ⟨_, rfl, q g' H' r' e'⟩
  · cases e
/-- a comparison as a test -/
theorem tb_cmp {op : CmpOp} {f : PyData → PyData → Option PyData} {oa ob : Opd} (ho : OpR X (compareOp op) (R2D X.kk f)) (ha : PE X a (TP X.kk F M oa)) (hb : PE X b (TP X.kk F M ob)) (hm : behindInMarks op b = false) : PT X (.Compare a [op] [b] pos) (TB X.kk F M (bOf (cBin f oa ob))) :=
  ptI (pt_cmpR ho ha hb hm) fun σ H Q h => tx_bin (tb_of h)
/-- a value's truth -/
def truD : PyData → Option Bool
  | .none => some false
  | .bool b => some b
  | .int i => some (i != 0)
  | .str x => if x.length ≤ sizeLine then some ((x.length : Int) != 0) else none
  | .list xs => some (!xs.isEmpty)
  | .tuple xs => some (!xs.isEmpty)
  | .dict _ => none
def bTru (o : Opd) : CB := fun F s => match o.ev F s with
  | some (d, s1, l) => match truD d with
    | some b => some (b, back l s1)
    | none => none
  | none => none
theorem RpA.isEmpty {K : KK} {N : Addr → Prop} {H : Hp} {vs : List V} {ds : List PyData} (h : RpA K N H vs ds) : vs.isEmpty = ds.isEmpty := by cases h <;> rfl
theorem RpV.lst {K : KK} {N : Addr → Prop} {H : Hp} {v : V} {ds : List PyData} (h : RpV K N H v (.list ds)) : ∃ a xs, v = .ref a ∧ SqL K.k H a xs ∧ RpA K N H xs ds := by
  rcases h with h | ⟨a, rfl, xs, e, r⟩
  · cases h with
    | lst h1 h2 h3 => exact ⟨_, _, rfl, .inl h1, h3⟩
    | lstK h1 h2 h3 h4 => exact ⟨_, _, rfl, Lr.sq (.inr ⟨_, _, h1, h2, h3⟩), h4⟩
  · exact ⟨a, xs, rfl, .inl (.inl e), r⟩
theorem RpV.tup {K : KK} {N : Addr → Prop} {H : Hp} {v : V} {ds : List PyData} (h : RpV K N H v (.tuple ds)) : ∃ a xs, v = .ref a ∧ SqT K.k H a xs ∧ RpA K N H xs ds := by
  rcases h with h | ⟨a, rfl, h⟩
  · cases h with
    | tup h1 h2 => exact ⟨_, _, rfl, h1, h2⟩
  · exact h.elim
theorem RpV.int {K : KK} {N : Addr → Prop} {H : Hp} {v : V} {i : Int} (h : RpV K N H v (.int i)) : v = .int i := by
  rcases h with h | ⟨a, rfl, h⟩
  · cases h; rfl
  · exact h.elim
theorem RpV.bl {K : KK} {N : Addr → Prop} {H : Hp} {v : V} {i : Bool} (h : RpV K N H v (.bool i)) : v = .bl i := by
  rcases h with h | ⟨a, rfl, h⟩
  · cases h; rfl
  · exact h.elim
theorem RpV.str {K : KK} {N : Addr → Prop} {H : Hp} {v : V} {i : Str} (h : RpV K N H v (.str i)) : v = .str i := by
  rcases h with h | ⟨a, rfl, h⟩
  · cases h; rfl
  · exact h.elim
theorem RpV.non {K : KK} {N : Addr → Prop} {H : Hp} {v : V} (h : RpV K N H v .none) : v = .non := by
  rcases h with h | ⟨a, rfl, h⟩
  · cases h; rfl
  · exact h.elim
theorem truV_of {K : KK} {N : Addr → Prop} {H : Hp} {v : V} {d : PyData} {b : Bool} (h : RpV K N H v d) (e : truD d = some b) : TruV K.k v H b := by
  cases d with
  | none => cases e; rw [h.non]; rfl
  | bool b => cases e; rw [h.bl]; rfl
  | int i => cases e; rw [h.int]; rfl
  | str x =>
    unfold truD at e
    simp only at e
    split at e
    · rename_i hl
      cases e
      rw [h.str]
      exact ⟨hl, rfl⟩
    · cases e
  | list xs =>
    cases e
    obtain ⟨a, vs, rfl, hs, r⟩ := h.lst
    exact .inl ⟨vs, hs, by rw [r.isEmpty]⟩
  | tuple xs =>
    cases e
    obtain ⟨a, vs, rfl, hs, r⟩ := h.tup
    exact .inr (.inl ⟨vs, hs, by rw [r.isEmpty]⟩)
  | dict _ => cases e
theorem tb_tru {o : Opd} (ha : PE X a (TP X.kk F M o)) (he : ∀ whole, isTrue a X.env whole = (do let v ← whole; standAt a.pos; holding [v] (truthy v))) : PT X a (TB X.kk F M (bTru o)) :=
  ptI (pt_truth ha he) fun σ H Q ⟨g, s, b, s', r, e, q⟩ => by
    unfold bTru at e
    split at e
    · rename_i d s1 l e1
      split at e
      · rename_i b' e2
        cases e
        refine ⟨g, s, d, s1, l, r, e1, fun v g1 H1 r1 v1 rp L => ⟨b, truV_of rp.v e2, ?_⟩⟩
        obtain ⟨g3, r3, e3, _⟩ := L g1 s1 H1 r1 Evo.refl
        exact q g3 H1 r3 e3
      · cases e
    · cases e
def bNot (c : CB) : CB := fun F s => match c F s with
  | some (b, s') => some (!b, s')
  | none => none
def bAnd (c d : CB) : CB := fun F s => match c F s with
  | some (true, s') => d F s'
  | some (false, s') => some (false, s')
  | none => none
def bOr (c d : CB) : CB := fun F s => match c F s with
  | some (false, s') => d F s'
  | some (true, s') => some (true, s')
  | none => none
theorem tb_not {cb : CB} (h : PT X a (TB X.kk F M cb)) : PT X (.UnaryOp .Not a pos) (TB X.kk F M (bNot cb)) := ptI (pt_not h) fun σ H Q ⟨g, s, b, s', r, e, q⟩ => by
  unfold bNot at e
  split at e
  · rename_i b' s1 e1
    cases e
    exact ⟨g, s, b', s', r, e1, q⟩
  · cases e
structure PWw (X : Cx) (e : Expr) (t : TT) : Prop where
  pw : PW X e t
theorem tb_and1 {cb : CB} (h : PT X a (TB X.kk F M cb)) : PW X (.BoolOp .And [a] pos) (TB X.kk F M cb) := pw_and1 h
theorem tb_or1 {cb : CB} (h : PT X a (TB X.kk F M cb)) : PW X (.BoolOp .Or [a] pos) (TB X.kk F M cb) := pw_or1 h
theorem pwI {e : Expr} {t t' : TT} (h : PW X e t) (hi : ∀ σ H Q, t' σ H Q → t σ H Q) : PW X e t' := ⟨fun wh pins s σ H Q I q => h.run wh pins s σ H Q I (hi _ _ _ q)⟩
theorem tb_and {cb cd : CB} {rest : List Expr} (h : PT X a (TB X.kk F M cb)) (h2 : PW X (.BoolOp .And (b :: rest) pos) (TB X.kk F M cd)) : PW X (.BoolOp .And (a :: b :: rest) pos) (TB X.kk F M (bAnd cb cd)) := pwI (pw_and h h2) fun σ H Q ⟨g, s, b, s', r, e, q⟩ => by
  unfold bAnd at e
  split at e
  · rename_i s1 e1
    refine ⟨g, s, true, s1, r, e1, fun g1 H1 r1 v1 => ?_⟩
    refine iteT ?_
    exact ⟨g1, s1, b, s', r1, e, fun g2 H2 r2 v2 => q g2 H2 r2 (v1.trans v2)⟩
  · rename_i s1 e1
    cases e
    refine ⟨g, s, false, s', r, e1, fun g1 H1 r1 v1 => ?_⟩
    exact iteF (q g1 H1 r1 v1)
  · cases e
theorem tb_or {cb cd : CB} {rest : List Expr} (h : PT X a (TB X.kk F M cb)) (h2 : PW X (.BoolOp .Or (b :: rest) pos) (TB X.kk F M cd)) : PW X (.BoolOp .Or (a :: b :: rest) pos) (TB X.kk F M (bOr cb cd)) := pwI (pw_or h h2) fun σ H Q ⟨g, s, b, s', r, e, q⟩ => by
  unfold bOr at e
  split at e
  · rename_i s1 e1
    refine ⟨g, s, false, s1, r, e1, fun g1 H1 r1 v1 => ?_⟩
    refine iteF ?_
    exact ⟨g1, s1, b, s', r1, e, fun g2 H2 r2 v2 => q g2 H2 r2 (v1.trans v2)⟩
  · rename_i s1 e1
    cases e
    refine ⟨g, s, true, s', r, e1, fun g1 H1 r1 v1 => ?_⟩
    exact iteT (q g1 H1 r1 v1)
  · cases e
/-- and, or, not of bools as values -/
def cBool (c : CB) : CE := fun F s => match c F s with
  | some (b, s') => some (.d (.bool b), s')
  | none => none
theorem sx_one {op} {cb : CE} {fr : Bool} (h : PE X a (TX X.kk F M fr cb)) : PE X (.BoolOp op [a] pos) (TX X.kk F M true (cBool (bOf cb))) := peI (pe_one h) fun σ H Q ⟨g, s, x, s', r, e, q⟩ => by
  unfold cBool at e
  split at e
  · rename_i b s1 e1
    cases e
    have hh : TB X.kk F M (bOf cb) σ H fun b H1 => Q (.bl b) H1 := ⟨g, s, b, s', r, e1, fun g' H' r' v' => q _ g' H' r' v' (.bl b) fun _ d' e' h => by cases e'; cases h⟩
    obtain ⟨g2, s2, x2, s2', r2, e2, q2⟩ := tb_of (fr := fr) hh
    refine ⟨g2, s2, x2, s2', r2, e2, fun v g' H' r' v' rp f => ?_⟩
    obtain ⟨k, rfl, z⟩ := q2 v g' H' r' v' rp f
    exact z
  · cases e
theorem sx_and {ca cb : CE} {rest : List Expr} {fr fr' : Bool} (h : PE X a (TX X.kk F M fr ca)) (h2 : PE X (.BoolOp .And (b :: rest) pos) (TX X.kk F M fr' cb)) : PE X (.BoolOp .And (a :: b :: rest) pos) (TX X.kk F M true (cBool (bAnd (bOf ca) (bOf cb)))) := peI (pe_and h h2) fun σ H Q ⟨g, s, x, s', r, e, q⟩ => by
  unfold cBool at e
  split at e
  · rename_i b s1 e1
    cases e
    have fin : ∀ g' H', Rel X.kk M g' s' σ H' → Evo g g' H H' → Q (.bl b) H' := fun g' H' r' v' => q _ g' H' r' v' (.bl b) fun _ d' e' h => by cases e'; cases h
    unfold bAnd at e1
    split at e1
    · rename_i s2 e2
      exact tb_of ⟨g, s, true, s2, r, e2, fun g1 H1 r1 v1 => by
        refine iteT ?_
        have hh : TB X.kk F M (bOf cb) σ H1 fun b H2 => Q (.bl b) H2 := ⟨g1, s2, b, s', r1, e1, fun g2 H2 r2 v2 => fin g2 H2 r2 (v1.trans v2)⟩
        obtain ⟨g2, s2, x2, s2', r2, e2, q2⟩ := tb_of (fr := fr') hh
        refine ⟨g2, s2, x2, s2', r2, e2, fun v g' H' r' v' rp f => ?_⟩
        obtain ⟨k, rfl, z⟩ := q2 v g' H' r' v' rp f
        exact z⟩
    · rename_i s2 e2
      cases e1
      exact tb_of ⟨g, s, false, s', r, e2, fun g1 H1 r1 v1 => iteF (fin g1 H1 r1 v1)⟩
    · cases e1
  · cases e
theorem sx_or {ca cb : CE} {rest : List Expr} {fr fr' : Bool} (h : PE X a (TX X.kk F M fr ca)) (h2 : PE X (.BoolOp .Or (b :: rest) pos) (TX X.kk F M fr' cb)) : PE X (.BoolOp .Or (a :: b :: rest) pos) (TX X.kk F M true (cBool (bOr (bOf ca) (bOf cb)))) := peI (pe_or h h2) fun σ H Q ⟨g, s, x, s', r, e, q⟩ => by
  unfold cBool at e
  split at e
  · rename_i b s1 e1
    cases e
    have fin : ∀ g' H', Rel X.kk M g' s' σ H' → Evo g g' H H' → Q (.bl b) H' := fun g' H' r' v' => q _ g' H' r' v' (.bl b) fun _ d' e' h => by cases e'; cases h
    unfold bOr at e1
    split at e1
    · rename_i s2 e2
      exact tb_of ⟨g, s, false, s2, r, e2, fun g1 H1 r1 v1 => by
        refine iteF ?_
        have hh : TB X.kk F M (bOf cb) σ H1 fun b H2 => Q (.bl b) H2 := ⟨g1, s2, b, s', r1, e1, fun g2 H2 r2 v2 => fin g2 H2 r2 (v1.trans v2)⟩
        obtain ⟨g2, s2, x2, s2', r2, e2, q2⟩ := tb_of (fr := fr') hh
        refine ⟨g2, s2, x2, s2', r2, e2, fun v g' H' r' v' rp f => ?_⟩
        obtain ⟨k, rfl, z⟩ := q2 v g' H' r' v' rp f
        exact z⟩
    · rename_i s2 e2
      cases e1
      exact tb_of ⟨g, s, true, s', r, e2, fun g1 H1 r1 v1 => iteT (fin g1 H1 r1 v1)⟩
    · cases e1
  · cases e
theorem sx_not {ca : CE} {fr : Bool} (h : PE X a (TX X.kk F M fr ca)) : PE X (.UnaryOp .Not a pos) (TX X.kk F M true (cBool (bNot (bOf ca)))) := peI (pe_not h) fun σ H Q ⟨g, s, x, s', r, e, q⟩ => by
  unfold cBool at e
  split at e
  · rename_i b s1 e1
    cases e
    unfold bNot at e1
    split at e1
    · rename_i b' s2 e2
      cases e1
      exact tb_of ⟨g, s, b', s', r, e2, fun g1 H1 r1 v1 => q _ g1 H1 r1 v1 (.bl _) fun _ d' e' h => by cases e'; cases h⟩
    · cases e1
  · cases e
/-- a if c else b -/
def cIf (c : CB) (a b : CE) : CE := fun F s => match c F s with
  | some (true, s') => a F s'
  | some (false, s') => b F s'
  | none => none
theorem FreshX.back {K : KK} {g g' : G} {s' : S} {σ : L2.St} {H H1 H' : Hp} {v : V} {x : Vx} (e : Evo g g' H H1) (h : FreshX K M g' s' σ H1 H' v x) : FreshX K M g s' σ H H' v x := fun d ed hd => by
  obtain ⟨a, g2, ev, ha, r, e2, h1⟩ := h d ed hd
  exact ⟨a, g2, ev, none_back e.grow ha, r, e.trans e2, h1⟩
end
end Ev
/-! Ev5: statements. -/
namespace Ev
open PySem PySem.Spec L2

/-- how a statement ends -/
inductive Fl where
  | nx | ct | rt (x : Vx)
abbrev CS := Fn → S → Option (Fl × S)
def FlOk (K : KK) (g : G) (H : Hp) (D : Ends) (σ : L2.St) : Fl → Prop
  | .nx => D.nx σ H
  | .ct => D.ct σ H
  | .rt x => ∀ v, RpX K g H v x → D.rt v H
def TSt (K : KK) (F : Fn) (M : Nat → Bool) (c : CS) : TS := fun D σ H => ∃ g s f s', Rel K M g s σ H ∧ c F s = some (f, s') ∧
  ∀ σ' g' H', Rel K M g' s' σ' H' → Evo g g' H H' → FlOk K g' H' D σ' f

section
variable {K : KK} {M : Nat → Bool} {F : Fn} {g g' : G} {s s' : S} {σ : L2.St} {H H' : Hp}
/-- what is locked comes to be a slot's own -/
def G.give (g : G) (i : Nat) (a : Addr) : G := { g with N0 := fun b => g.N0 b ∧ b ≠ a, P := fun j => if j = i then some a else g.P j }
theorem G.give_P {i j : Nat} {a b : Addr} (h : (g.give i a).P j = some b) : (j = i ∧ b = a) ∨ (j ≠ i ∧ g.P j = some b) := by
  have h : (if j = i then some a else g.P j) = some b := h
  split at h
  · rename_i c; exact .inl ⟨c, (Option.some.inj h).symm⟩
  · rename_i c; exact .inr ⟨c, h⟩
theorem G.give_N {i : Nat} {a b : Addr} (ha : g.N0 a) (h : (g.give i a).N b) : g.N b := by
  rcases h with h | ⟨j, h⟩
  · exact .inl h.1
  · rcases G.give_P h with ⟨_, z⟩ | ⟨_, z⟩
    · rw [z]; exact .inl ha
    · exact .inr ⟨j, z⟩
theorem Rel.give {i : Nat} {d : PyData} {a : Addr} (r : Rel K M g s σ H) (ha : g.N0 a) (hs : ¬ g.SA a) (hc : ¬ g.CA a) (t : Top K g.N H a d) (hm : M i = true) :
    Rel K M (g.give i a) { s with env := s.env.set i (some (.d d)) } (σ.set i (some (.ref a))) H where
  slot := fun j y e => by
    have hn : ∀ b, (g.give i a).N b → g.N b ∨ H b = none := fun b h => .inl (G.give_N ha h)
    rcases get_set e with ⟨h0, z, hi⟩ | ⟨hne, e⟩
    · subst h0
      cases z
      exact ⟨.ref a, List.getElem?_set_self (by rw [← r.len]; exact hi), fun _ => ⟨a, rfl, by unfold G.give; simp, t.forbid hn⟩, fun c => absurd ⟨hm, t.isM⟩ c⟩
    · obtain ⟨v', h1, h2⟩ := r.slot j y e
      refine ⟨v', (List.getElem?_set_ne hne).trans h1, ?_⟩
      cases y with
      | d d' => exact ⟨fun c => let ⟨b, e, p, t⟩ := h2.1 c; ⟨b, e, by unfold G.give; simp only; rw [if_neg (Ne.symm hne)]; exact p, t.forbid hn⟩, fun c => (h2.2 c).forbid hn⟩
      | z d => exact Rp.forbid hn h2
      | src => exact h2
      | srcc => exact h2
  inj := fun j k b h1 h2 => by
    rcases G.give_P h1 with ⟨e1, z1⟩ | ⟨e1, z1⟩ <;> rcases G.give_P h2 with ⟨e2, z2⟩ | ⟨e2, z2⟩
    · rw [e1, e2]
    · exact absurd ha (by rw [← z1]; exact r.sep k b z2)
    · exact absurd ha (by rw [← z2]; exact r.sep j b z1)
    · exact r.inj j k b z1 z2
  sep := fun j b h z => by
    rcases G.give_P h with ⟨_, q⟩ | ⟨_, q⟩
    · exact z.2 q
    · exact r.sep j b q z.1
  ex := fun b h => r.ex b (G.give_N ha h)
  srN := fun b h => ⟨r.srN b h, fun z => by rw [z] at h; exact h.elim hs hc⟩
  src := r.src
  len := by simp only [List.length_set]; exact r.len
theorem Evo.give {i : Nat} {a : Addr} {g0 : G} {H0 : Hp} (e : Evo g0 g H0 H) (ha : g.N0 a) (hn : H0 a = none) (ex : ∀ b, g0.N b → H0 b ≠ none) : Evo g0 (g.give i a) H0 H where
  n := fun b h => e.n b (G.give_N ha h)
  w := fun b h => by
    rcases h with ⟨j, h⟩ | h
    · rcases G.give_P h with ⟨_, z⟩ | ⟨_, z⟩
      · rw [z]; exact .inr hn
      · exact e.w b (.inl ⟨j, z⟩)
    · exact e.w b (.inr h)
  sa := e.sa
  ca := e.ca
  n0 := fun b h => ⟨e.n0 b h, fun z => ex b (.inl h) (by rw [z]; exact hn)⟩
  keep := e.keep
  tup := e.tup
  frz := e.frz
  grow := e.grow
  sr := e.sr
/-- values on their way into slots: those for slots of their own are locked -/
inductive PendA (K : KK) (g : G) (H : Hp) : List Bool → List V → List Vx → List Addr → Prop
  | nil : PendA K g H [] [] [] []
  | plain {m ms v vs x xs as} : RpX K g H v x → (∀ d, x = .d d → ¬ (m = true ∧ isM d = true)) → PendA K g H ms vs xs as → PendA K g H (m :: ms) (v :: vs) (x :: xs) as
  | own {m ms a vs d xs as} : m = true → g.N0 a → ¬ g.SA a → ¬ g.CA a → a ∉ as → Top K g.N H a d → PendA K g H ms vs xs as → PendA K g H (m :: ms) (.ref a :: vs) (.d d :: xs) (a :: as)
theorem PendA.move (e : Evo g g' H H') (r : Rel K M g s σ H) : ∀ {ms : List Bool} {vs : List V} {xs : List Vx} {as : List Addr}, PendA K g H ms vs xs as → PendA K g' H' ms vs xs as
  | _, _, _, _, .nil => .nil
  | _, _, _, _, .plain h1 h2 h3 => .plain (e.rpX r.wn h1) h2 (PendA.move e r h3)
  | _, _, _, _, .own hm h1 h2 h3 h4 t h5 => by
    have no : ∀ a, g.N0 a → ¬ g.SA a → ¬ g.CA a → H a ≠ none → ¬ (g'.SA a ∨ g'.CA a) := fun a h1 h2 h3 h4 z => (e.sr a z).elim (fun z => z.elim h2 h3) h4
    refine .own hm (e.n0 _ h1) (fun z => no _ h1 h2 h3 t.nn (.inl z)) (fun z => no _ h1 h2 h3 t.nn (.inr z)) h4 (e.top r.wn ?_ t) (PendA.move e r h5)
    rintro (⟨j, z⟩ | z | z)
    · exact r.sep j _ z h1
    · exact h2 z
    · exact h3 z
theorem PendA.unlock {a : Addr} {i : Nat} (ha : g.N0 a) : ∀ {ms : List Bool} {vs : List V} {xs : List Vx} {as : List Addr}, a ∉ as → PendA K g H ms vs xs as → PendA K (g.give i a) H ms vs xs as
  | _, _, _, _, _, .nil => .nil
  | _, _, _, _, hn, .plain (x := x) h1 h2 h3 => .plain (by
      cases x with
      | d d => exact Rp.forbid (fun b h => .inl (G.give_N ha h)) h1
      | z d => exact Rp.forbid (fun b h => .inl (G.give_N ha h)) h1
      | src => exact h1
      | srcc => exact h1) h2 (PendA.unlock ha hn h3)
  | _, _, _, _, hn, .own hm h1 h2 h3 h4 t h5 => .own hm ⟨h1, fun z => hn (by rw [z]; exact List.mem_cons_self)⟩ h2 h3 h4 (t.forbid fun b h => .inl (G.give_N ha h)) (PendA.unlock ha (fun z => hn (List.mem_cons_of_mem _ z)) h5)
theorem PendA.dropped {i : Nat} : ∀ {ms : List Bool} {vs : List V} {xs : List Vx} {as : List Addr}, PendA K g H ms vs xs as → PendA K (g.drop i) H ms vs xs as
  | _, _, _, _, .nil => .nil
  | _, _, _, _, .plain (x := x) h1 h2 h3 => .plain (by
      cases x with
      | d d => exact Rp.forbid (fun b h => .inl (G.drop_N h)) h1
      | z d => exact Rp.forbid (fun b h => .inl (G.drop_N h)) h1
      | src => exact h1
      | srcc => exact h1) h2 (PendA.dropped h3)
  | _, _, _, _, .own hm h1 h2 h3 h4 t h5 => .own hm h1 h2 h3 h4 (t.forbid fun b h => .inl (G.drop_N h)) (PendA.dropped h5)
/-- the values of several names, one after another -/
def setAll {α : Type} : List Nat → List α → List (Option α) → List (Option α)
  | i :: is, x :: xs, e => setAll is xs (e.set i (some x))
  | _, _, e => e
theorem Rel.stores {g0 : G} {H0 : Hp} (ex : ∀ b, g0.N b → H0 b ≠ none) : ∀ {is : List Nat} {vs : List V} {xs : List Vx} {as : List Addr} {g : G} {s : S} {σ : L2.St}, Rel K M g s σ H → PendA K g H (is.map M) vs xs as → Evo g0 g H0 H → (∀ a ∈ as, H0 a = none) →
    ∃ g', Rel K M g' { s with env := setAll is xs s.env } (setAll is vs σ) H ∧ Evo g0 g' H0 H
  | [], _, _, _, g, s, σ, r, h, e, _ => by cases h; exact ⟨g, r, e⟩
  | i :: is, _, _, _, g, s, σ, r, h, e, hn => by
    rw [List.map_cons] at h
    cases h with
    | plain h1 h2 h3 => exact Rel.stores (is := is) ex (r.set (i := i) h1 h2) (PendA.dropped h3) (e.trans Evo.drop) hn
    | own hm h1 h2 h3 h4 t h5 => exact Rel.stores (is := is) ex (r.give h1 h2 h3 t hm) (PendA.unlock h1 h4 h5) (e.give h1 (hn _ List.mem_cons_self) ex) fun a z => hn a (List.mem_cons_of_mem _ z)
end

/-! ### values for names: one expression each -/
section
variable {X : Cx} {M : Nat → Bool} {F : Fn} {a b c e : Expr} {es : List Expr} {pos p : Pos}
def TXP (K : KK) (F : Fn) (M : Nat → Bool) (ms : List Bool) (cs : List CE) : TA := fun σ H Q => ∃ g s xs s', Rel K M g s σ H ∧ evArgs cs F s = some (xs, s') ∧
  ∀ vs g' H' as, Rel K M g' s' σ H' → Evo g g' H H' → PendA K g' H' ms vs xs as → (∀ b ∈ as, H b = none) → Q vs H'
theorem aps_nil : PA X [] (TXP X.kk F M [] []) := paI pa_nil fun σ H Q ⟨g, s, ds, s', r, e, q⟩ => by
  cases e
  exact q [] g H [] r Evo.refl .nil (fun _ h => nomatch h)
theorem pend_cons {K : KK} {g g1 : G} {s1 s' : S} {σ : L2.St} {H H1 : Hp} {v : V} {x : Vx} {m : Bool} {ms : List Bool} {cs : List CE} {xs : List Vx} {Q : List V → Hp → Prop} (r1 : Rel K M g1 s1 σ H1) (v1 : Evo g g1 H H1) (rp : RpX K g1 H1 v x)
    (fr : m = true → FreshX K M g s1 σ H H1 v x) (e2 : evArgs cs F s1 = some (xs, s'))
    (q : ∀ vs g' H' as, Rel K M g' s' σ H' → Evo g g' H H' → PendA K g' H' (m :: ms) vs (x :: xs) as → (∀ b ∈ as, H b = none) → Q vs H') : TXP K F M ms cs σ H1 fun vs H2 => Q (v :: vs) H2 := by
  by_cases hx : ∃ d, x = .d d ∧ m = true ∧ isM d = true
  · obtain ⟨d, rfl, hm, hd⟩ := hx
    obtain ⟨a, gf, rfl, ha, rf, ef, n0, sa, ca, t⟩ := fr hm d rfl hd
    refine ⟨gf, s1, xs, s', rf, e2, fun vs g2 H2 as r2 v2 p2 n2 => q _ g2 H2 (a :: as) r2 (ef.trans v2) ?_ ?_⟩
    · have p1 : PendA K gf H1 [m] [V.ref a] [Vx.d d] [a] := .own hm n0 sa ca (fun z => nomatch z) t .nil
      cases p1.move v2 rf with
      | plain h1 h2 _ => exact absurd ⟨hm, hd⟩ (h2 d rfl)
      | own hm h1 h2 h3 h4 t' _ => exact .own hm h1 h2 h3 (fun z => t.nn (n2 a z)) t' p2
    · intro b hb
      rcases List.mem_cons.mp hb with rfl | hb
      · exact ha
      · exact none_back v1.grow (n2 b hb)
  · refine ⟨g1, s1, xs, s', r1, e2, fun vs g2 H2 as r2 v2 p2 n2 => q _ g2 H2 as r2 (v1.trans v2) (.plain (v2.rpX r1.wn rp) (fun d ed z => hx ⟨d, ed, z⟩) p2) fun b hb => none_back v1.grow (n2 b hb)⟩
/-- the next value; m: is it for a slot of its own (then it is new) -/
theorem aps_cons {ce : CE} {cs : List CE} {m fr : Bool} {ms : List Bool} (ha : PE X e (TX X.kk F M fr ce)) (hr : PA X es (TXP X.kk F M ms cs)) (hm : m = true → fr = true) (hs : starEach (e :: es) X.env = (false, eval e X.env) :: starEach es X.env := by rfl) : PA X (e :: es) (TXP X.kk F M (m :: ms) (ce :: cs)) :=
  paI (pa_cons ha hr hs) fun σ H Q ⟨g, s, xs, s', r, ev, q⟩ => by
    unfold evArgs at ev
    split at ev
    · rename_i x s1 e1
      split at ev
      · rename_i ys s2 e2
        cases ev
        exact ⟨g, s, x, s1, r, e1, fun v g1 H1 r1 v1 rp1 f1 => pend_cons r1 v1 rp1 (fun z => f1 (hm z)) e2 q⟩
      · cases ev
    · cases ev
/-- x, y, .. = a, b, ..: all are reckoned, then stored -/
def sPar (is : List Nat) (cs : List CE) : CS := fun F s => match evArgs cs F s with
  | some (xs, s1) => some (.nx, { s1 with env := setAll is xs s1.env })
  | none => none
theorem tx_par {is : List Nat} {cs : List CE} {σ : L2.St} {H : Hp} {D : Ends} (h : TSt X.kk F M (sPar is cs) D σ H) : TXP X.kk F M (is.map M) cs σ H fun vs H1 => D.nx (setAll is vs σ) H1 := by
  obtain ⟨g, s, f, s', r, e, q⟩ := h
  unfold sPar at e
  split at e
  · rename_i xs s1 e1
    cases e
    refine ⟨g, s, xs, s1, r, e1, fun vs g1 H1 as r1 v1 p1 n1 => ?_⟩
    obtain ⟨g2, r2, v2⟩ := Rel.stores r.ex r1 p1 v1 n1
    exact q _ g2 H1 r2 v2
  · cases e
/-- x = e, the value not owned or new -/
theorem ss_set {i : Nat} {x : Str} {ce : CE} {fr : Bool} {pos' : Pos} (hN : X.N.Nodup) (hi : X.N[i]? = some x) (hx : Loc X.env.scope x) (he : PE X e (TX X.kk F M fr ce)) (hm : M i = true → fr = true) (hs : swapsWith e (some (.Name x pos')) pos.line X.env = pure false := by rfl)
    (hf : X.fn x = true ∨ X.env.scope.names.lookup x = some .local := by first | exact .inl rfl | exact .inr rfl | assumption) : PS X (.Assign [.Name x pos'] e pos) (TSt X.kk F M (sPar [i] [ce])) :=
  psI (ps_set hN hi hx he hs hf) fun D σ H h => by
    obtain ⟨g, s, xs, s', r, ev, q⟩ := tx_par h
    unfold evArgs at ev
    split at ev
    · rename_i y s1 e1
      rw [show evArgs [] F s1 = some ([], s1) from rfl] at ev
      cases ev
      refine ⟨g, s, y, s', r, e1, fun v g1 H1 r1 v1 rp1 f1 => ?_⟩
      obtain ⟨g2, s2, xs2, s2', r2, e2, q2⟩ := pend_cons (F := F) (m := M i) (ms := []) (cs := []) (xs := []) (Q := fun vs H1 => D.nx (setAll [i] vs σ) H1) r1 v1 rp1 (fun z => f1 (hm z)) rfl q
      cases e2
      exact q2 [] g2 H1 [] r2 Evo.refl .nil fun _ h => nomatch h
    · cases ev
theorem PendA.lenV {K : KK} {g : G} {H : Hp} : ∀ {ms : List Bool} {vs : List V} {xs : List Vx} {as : List Addr}, PendA K g H ms vs xs as → vs.length = ms.length
  | _, _, _, _, .nil => rfl
  | _, _, _, _, .plain _ _ h => by rw [List.length_cons, List.length_cons, PendA.lenV h]
  | _, _, _, _, .own _ _ _ _ _ _ h => by rw [List.length_cons, List.length_cons, PendA.lenV h]
theorem ss_par2 {i j : Nat} {x y : Str} {ca cb : CE} {fr fr' : Bool} {px py pt : Pos} {kt k2 pt2} (hc : X.calm = true) (hN : X.N.Nodup) (hi : X.N[i]? = some x) (hj : X.N[j]? = some y) (hij : i ≠ j)
    (hx : X.env.scope.names.lookup x = some .local) (hy : X.env.scope.names.lookup y = some .local) (ha : PE X a (TX X.kk F M fr ca)) (hb : PE X b (TX X.kk F M fr' cb)) (m1 : M i = true → fr = true) (m2 : M j = true → fr' = true)
    (hw : swappedStores [.Tuple [.Name x px, .Name y py] kt pt] (.Tuple [a, b] k2 pt2) X.env = pure (some [x, y]) := by rfl)
    (h1 : starEach [a, b] X.env = (false, eval a X.env) :: starEach [b] X.env := by rfl) (h2 : starEach [b] X.env = (false, eval b X.env) :: starEach [] X.env := by rfl) :
    PS X (.Assign [.Tuple [.Name x px, .Name y py] kt pt] (.Tuple [a, b] k2 pt2) pos) (TSt X.kk F M (sPar [i, j] [ca, cb])) :=
  psI (ps_par hc hN hi hj hij hx hy (aps_cons (m := M i) ha (aps_cons (m := M j) hb aps_nil m2 h2) m1 h1) hw) fun D σ H h => by
    obtain ⟨g, s, xs, s', r, ev, q⟩ := tx_par h
    refine ⟨g, s, xs, s', r, ev, fun vs g1 H1 as r1 v1 p1 n1 => ?_⟩
    have z := q vs g1 H1 as r1 v1 p1 n1
    have hl := p1.lenV
    match vs, hl, z with
    | [v, w], _, z => exact ⟨v, w, rfl, z⟩
theorem ss_par3 {i j l : Nat} {x y z : Str} {ca cb cc : CE} {f1 f2 f3 : Bool} {px py pz pt : Pos} {kt k2 pt2} (hc : X.calm = true) (hN : X.N.Nodup) (hi : X.N[i]? = some x) (hj : X.N[j]? = some y) (hl : X.N[l]? = some z) (hij : i ≠ j) (hil : i ≠ l) (hjl : j ≠ l)
    (hx : X.env.scope.names.lookup x = some .local) (hy : X.env.scope.names.lookup y = some .local) (hz : X.env.scope.names.lookup z = some .local) (ha : PE X a (TX X.kk F M f1 ca)) (hb : PE X b (TX X.kk F M f2 cb)) (hcc : PE X c (TX X.kk F M f3 cc)) (m1 : M i = true → f1 = true) (m2 : M j = true → f2 = true) (m3 : M l = true → f3 = true)
    (hw : swappedStores [.Tuple [.Name x px, .Name y py, .Name z pz] kt pt] (.Tuple [a, b, c] k2 pt2) X.env = pure (some [x, y, z]) := by rfl)
    (h1 : starEach [a, b, c] X.env = (false, eval a X.env) :: starEach [b, c] X.env := by rfl) (h2 : starEach [b, c] X.env = (false, eval b X.env) :: starEach [c] X.env := by rfl) (h3 : starEach [c] X.env = (false, eval c X.env) :: starEach [] X.env := by rfl) :
    PS X (.Assign [.Tuple [.Name x px, .Name y py, .Name z pz] kt pt] (.Tuple [a, b, c] k2 pt2) pos) (TSt X.kk F M (sPar [i, j, l] [ca, cb, cc])) :=
  psI (ps_par3 hc hN hi hj hl hij hil hjl hx hy hz (aps_cons (m := M i) ha (aps_cons (m := M j) hb (aps_cons (m := M l) hcc aps_nil m3 h3) m2 h2) m1 h1) hw) fun D σ H h => by
    obtain ⟨g, s, xs, s', r, ev, q⟩ := tx_par h
    refine ⟨g, s, xs, s', r, ev, fun vs g1 H1 as r1 v1 p1 n1 => ?_⟩
    have z := q vs g1 H1 as r1 v1 p1 n1
    have hl := p1.lenV
    match vs, hl, z with
    | [u, v, w], _, z => exact ⟨u, v, w, rfl, z⟩
/-- the ordinary road: the tuple is made, taken apart, stored from the left -/
inductive Nms (X : Cx) : List Expr → List Nat → Prop
  | nil : Nms X [] []
  | cons {i x ts is pp} : X.N[i]? = some x → Loc X.env.scope x → (X.fn x = true ∨ X.env.scope.names.lookup x = some .local) → (assignEach (.Name x pp :: ts) X.env).map (·.2) = assign (.Name x pp) X.env :: (assignEach ts X.env).map (·.2) → Nms X ts is → Nms X (.Name x pp :: ts) (i :: is)
/-- names stored one after another -/
def gAll (is : List Nat) : TGs := fun vs σ H Q => vs.length = is.length ∧ Q (setAll is vs σ) H
theorem pgs_names (hN : X.N.Nodup) : ∀ {ts : List Expr} {is : List Nat}, Nms X ts is → PGs X ts (gAll is)
  | _, _, .nil => ⟨fun pins s σ H vs us Q I r ⟨h1, h2⟩ => by
      have e : vs = [] := List.length_eq_zero_iff.mp h1
      subst e
      exact (pgs_nil (X := X)).run pins s σ H [] us Q I r ⟨rfl, h2⟩⟩
  | _, _, .cons (i := i) h1 h2 h3 h4 t => ⟨fun pins s σ H vs us Q I r ⟨e1, e2⟩ => by
      cases vs with
      | nil => cases e1
      | cons v vs =>
        exact (pgs_cons (pg_name hN h1 h2 h3) (pgs_names hN t) h4).run pins s σ H (v :: vs) us Q I r ⟨v, vs, rfl, by simpa using e1, e2⟩⟩
theorem ss_parO {ts : List Expr} {is : List Nat} {cs : List CE} {kt k2 : Nat} {pt pt2 : Pos} (hc : X.calm = true) (hN : X.N.Nodup) (hn : Nms X ts is) (ha : PA X es (TXP X.kk F M (is.map M) cs)) (hz : is.length ≤ sizeLine)
    (hl : (assignEach ts X.env).length = is.length := by rfl) (hst : (assignEach ts X.env).findIdx? (·.1) = none := by rfl)
    (hs : swapsWithSole [.Tuple ts kt pt] (.Tuple es k2 pt2) pos.line X.env = pure false := by rfl) (hw : swappedStores [.Tuple ts kt pt] (.Tuple es k2 pt2) X.env = pure none := by rfl) (h1 : (assignEach [.Tuple ts kt pt] X.env).map (·.2) = [assign (.Tuple ts kt pt) X.env] := by rfl) :
    PS X (.Assign [.Tuple ts kt pt] (.Tuple es k2 pt2) pos) (TSt X.kk F M (sPar is cs)) :=
  psI (ps_asg (pe_tup ha) (pg_tup hc (pgs_names hN hn) hl hst) hs hw h1) fun D σ H h => by
    obtain ⟨g, s, xs, s', r, ev, q⟩ := tx_par h
    refine ⟨g, s, xs, s', r, ev, fun vs g1 H1 as r1 v1 p1 n1 => ?_⟩
    have hl := p1.lenV
    rw [List.length_map] at hl
    refine ⟨by rw [hl]; exact hz, fun p hp => ⟨p, vs, rfl, .inl (.inl upd_same), hl, hl, ?_⟩⟩
    have k : Same H1 (upd H1 p (.tup vs)) := fun b o e => by rw [upd_ne (ne_of_none e hp)]; exact e
    exact q vs g1 _ as (r1.same k) (v1.trans (Evo.same k)) (p1.move (Evo.same k) r1) n1
end
end Ev
/-! Ev6: blocks, tests, while, for; what is walked. -/
namespace Ev
open PySem PySem.Spec L2

section
variable {X : Cx} {M : Nat → Bool} {F : Fn} {a b c e : Expr} {es : List Expr} {pos p : Pos} {st : Stmt} {rest : List Stmt}
theorem FlOk.back {K : KK} {g : G} {H : Hp} {D : Ends} {σ : L2.St} {f : Fl} (h : FlOk K g H D σ f) : FlOk K g H D σ f := h
def sPass : CS := fun _ s => some (.nx, s)
theorem ss_pass : PS X (.Pass pos) (TSt X.kk F M sPass) := psI ps_pass fun D σ H ⟨g, s, f, s', r, e, q⟩ => by
  cases e
  exact q σ g H r Evo.refl
def sCont : CS := fun _ s => some (.ct, s)
theorem ss_cont : PS X (.Continue pos) (TSt X.kk F M sCont) := psI ps_continue fun D σ H ⟨g, s, f, s', r, e, q⟩ => by
  cases e
  exact q σ g H r Evo.refl
def sRet (c : CE) : CS := fun F s => match c F s with
  | some (x, s') => some (.rt x, s')
  | none => none
theorem ss_ret {ce : CE} {fr : Bool} (he : PE X e (TX X.kk F M fr ce)) : PS X (.Return (some e) pos) (TSt X.kk F M (sRet ce)) := psI (ps_ret he) fun D σ H ⟨g, s, f, s', r, ev, q⟩ => by
  unfold sRet at ev
  split at ev
  · rename_i x s1 e1
    cases ev
    exact ⟨g, s, x, s', r, e1, fun v g' H' r' e' rp _ => q σ g' H' r' e' v rp⟩
  · cases ev
theorem ss_retN : PS X (.Return none pos) (TSt X.kk F M (sRet (cC .none))) := psI ps_retN fun D σ H ⟨g, s, f, s', r, ev, q⟩ => by
  cases ev
  exact q σ g H r Evo.refl .non .non
def sExpr (c : CE) : CS := fun F s => match c F s with
  | some (_, s') => some (.nx, s')
  | none => none
theorem ss_expr {ce : CE} {fr : Bool} (he : PE X e (TX X.kk F M fr ce)) (hs : swapsWith e none pos.line X.env = pure false := by rfl) : PS X (.Expr e pos) (TSt X.kk F M (sExpr ce)) := psI (ps_expr he hs) fun D σ H ⟨g, s, f, s', r, ev, q⟩ => by
  unfold sExpr at ev
  split at ev
  · rename_i x s1 e1
    cases ev
    exact ⟨g, s, x, s', r, e1, fun v g' H' r' e' rp _ => q σ g' H' r' e'⟩
  · cases ev
def sIf (c : CB) (a b : CS) : CS := fun F s => match c F s with
  | some (true, s') => a F s'
  | some (false, s') => b F s'
  | none => none
theorem FlOk.mono {K : KK} {g : G} {H : Hp} {D : Ends} {σ : L2.St} {f : Fl} (h : FlOk K g H D σ f) : FlOk K g H D σ f := h
theorem ss_if {cb : CB} {ca cc : CS} {la lb : List Stmt} (hc : PT X c (TB X.kk F M cb)) (ha : PSs X la (TSt X.kk F M ca)) (hb : PSs X lb (TSt X.kk F M cc)) : PS X (.If c la lb pos) (TSt X.kk F M (sIf cb ca cc)) := psI (ps_if hc ha hb) fun D σ H ⟨g, s, f, s', r, ev, q⟩ => by
  unfold sIf at ev
  split at ev
  · rename_i s1 e1
    exact ⟨g, s, true, s1, r, e1, fun g1 H1 r1 v1 => iteT ⟨g1, s1, f, s', r1, ev, fun σ' g2 H2 r2 v2 => q σ' g2 H2 r2 (v1.trans v2)⟩⟩
  · rename_i s1 e1
    exact ⟨g, s, false, s1, r, e1, fun g1 H1 r1 v1 => iteF ⟨g1, s1, f, s', r1, ev, fun σ' g2 H2 r2 v2 => q σ' g2 H2 r2 (v1.trans v2)⟩⟩
  · cases ev
/-- a if c else b -/
theorem sx_if {cb : CB} {ca cc : CE} {f1 f2 : Bool} (hc : PT X c (TB X.kk F M cb)) (ha : PE X a (TX X.kk F M f1 ca)) (hb : PE X b (TX X.kk F M f2 cc)) : PE X (.IfExp c a b pos) (TX X.kk F M (f1 && f2) (cIf cb ca cc)) := peI (pe_ifExp hc ha hb) fun σ H Q ⟨g, s, x, s', r, ev, q⟩ => by
  unfold cIf at ev
  split at ev
  · rename_i s1 e1
    refine ⟨g, s, true, s1, r, e1, fun g1 H1 r1 v1 => iteT ⟨g1, s1, x, s', r1, ev, fun v g2 H2 r2 v2 rp fr => q v g2 H2 r2 (v1.trans v2) rp fun z => ?_⟩⟩
    rw [Bool.and_eq_true] at z
    exact (fr z.1).back v1
  · rename_i s1 e1
    refine ⟨g, s, false, s1, r, e1, fun g1 H1 r1 v1 => iteF ⟨g1, s1, x, s', r1, ev, fun v g2 H2 r2 v2 rp fr => q v g2 H2 r2 (v1.trans v2) rp fun z => ?_⟩⟩
    rw [Bool.and_eq_true] at z
    exact (fr z.2).back v1
  · cases ev
def sSeq (a b : CS) : CS := fun F s => match a F s with
  | some (.nx, s') => b F s'
  | some (f, s') => some (f, s')
  | none => none
theorem tss_nil : PSs X [] (TSt X.kk F M sPass) := pssI pss_nil fun D σ H ⟨g, s, f, s', r, e, q⟩ => by
  cases e
  exact q σ g H r Evo.refl
theorem tss_one {ca : CS} (h : PS X st (TSt X.kk F M ca)) : PSs X [st] (TSt X.kk F M ca) := pss_one h
theorem tss_cons {ca cc : CS} (h1 : PS X st (TSt X.kk F M ca)) (h2 : PSs X rest (TSt X.kk F M cc)) : PSs X (st :: rest) (TSt X.kk F M (sSeq ca cc)) := pssI (pss_cons h1 h2) fun D σ H ⟨g, s, f, s', r, ev, q⟩ => by
  unfold sSeq at ev
  split at ev
  · rename_i s1 e1
    exact ⟨g, s, .nx, s1, r, e1, fun σ1 g1 H1 r1 v1 => ⟨g1, s1, f, s', r1, ev, fun σ' g2 H2 r2 v2 => q σ' g2 H2 r2 (v1.trans v2)⟩⟩
  · rename_i f1 s1 hf e1
    cases ev
    refine ⟨g, s, f, s', r, e1, fun σ1 g1 H1 r1 v1 => ?_⟩
    have z := q σ1 g1 H1 r1 v1
    cases f with
    | nx => exact absurd rfl hf
    | ct => exact z
    | rt x => exact z
  · cases ev

/-! ### while -/
def whileN : Nat → CB → CS → Fn → S → Option (Fl × S)
  | 0, _, _, _, _ => none
  | n + 1, c, b, F, s => match c F s with
    | some (true, s1) => match b F s1 with
      | some (.rt x, s2) => some (.rt x, s2)
      | some (_, s2) => whileN n c b F s2
      | none => none
    | some (false, s1) => some (.nx, s1)
    | none => none
def sWhile (c : CB) (b : CS) : CS := fun F s => whileN F.fuel c b F s
theorem ss_while {cb : CB} {ca : CS} {body : List Stmt} (hp : PassesOwn (model X.prog X.w) X.A X.env X.xe) (hc : PT X c (TB X.kk F M cb)) (hb : PSs X body (TSt X.kk F M ca)) : PS X (.While c body [] pos) (TSt X.kk F M (sWhile cb ca)) :=
  psI (ps_while hp hc hb) fun D σ H ⟨g, s, f, s', r, ev, q⟩ => by
    refine ⟨fun m σ1 H1 => ∃ g1 s1 f s', Rel X.kk M g1 s1 σ1 H1 ∧ whileN m cb ca F s1 = some (f, s') ∧ ∀ σ' g2 H2, Rel X.kk M g2 s' σ' H2 → Evo g1 g2 H1 H2 → FlOk X.kk g2 H2 D σ' f, ⟨F.fuel, g, s, f, s', r, ev, q⟩, ?_⟩
    rintro m σ1 H1 ⟨g1, s1, f1, s1', r1, e1, q1⟩
    cases m with
    | zero => cases e1
    | succ n =>
      unfold whileN at e1
      split at e1
      · rename_i s2 e2
        split at e1
        · rename_i x s3 e3
          cases e1
          refine ⟨g1, s1, true, s2, r1, e2, fun g2 H2 r2 v2 => iteT ⟨fun _ _ => False, fun _ _ z => z.elim, g2, s2, .rt x, _, r2, e3, fun σ3 g3 H3 r3 v3 => ?_⟩⟩
          exact q1 σ3 g3 H3 r3 (v2.trans v3)
        · rename_i f3 s3 hf e3
          refine ⟨g1, s1, true, s2, r1, e2, fun g2 H2 r2 v2 => iteT ⟨fun σ3 H3 => ∃ g3, Rel X.kk M g3 s3 σ3 H3 ∧ Evo g1 g3 H1 H3, fun σ3 H3 z => ?_, g2, s2, f3, s3, r2, e3, fun σ3 g3 H3 r3 v3 => ?_⟩⟩
          · obtain ⟨g3, r3, v3⟩ := z
            exact ⟨n, Nat.lt_succ_self n, g3, s3, f1, s1', r3, e1, fun σ' g4 H4 r4 v4 => q1 σ' g4 H4 r4 (v3.trans v4)⟩
          · cases f3 with
            | nx => exact ⟨g3, r3, v2.trans v3⟩
            | ct => exact ⟨g3, r3, v2.trans v3⟩
            | rt x => exact absurd rfl (hf x)
        · cases e1
      · rename_i s2 e2
        cases e1
        exact ⟨g1, s1, false, _, r1, e2, fun g2 H2 r2 v2 => iteF (q1 σ1 g2 H2 r2 v2)⟩
      · cases e1

/-! ### targets -/
/-- only the slots ts are stored to -/
def Only' (ts : List Nat) (σ σ' : L2.St) : Prop := ∀ vs : List Nat, (∀ t ∈ ts, t ∈ vs) → wipe σ' vs = wipe σ vs
def TGX (K : KK) (M : Nat → Bool) (ts : List Nat) (as : PyData → S → Option S) : TG := fun v σ H Q => ∃ g s d s', Rel K M g s σ H ∧ Rp K g.N H v d ∧ as d s = some s' ∧ ∀ σ' g' H', Rel K M g' s' σ' H' → Evo g g' H H' → Only' ts σ σ' → Q σ' H'
def TGXs (K : KK) (M : Nat → Bool) (ts : List Nat) (as : List PyData → S → Option S) : TGs := fun vs σ H Q => ∃ g s ds s', Rel K M g s σ H ∧ RpA K g.N H vs ds ∧ as ds s = some s' ∧ ∀ σ' g' H', Rel K M g' s' σ' H' → Evo g g' H H' → Only' ts σ σ' → Q σ' H'
theorem set_comm' {α : Type} (l : List α) (i j : Nat) (x y : α) (h : i ≠ j) : (l.set i x).set j y = (l.set j y).set i x := List.set_comm _ _ h
theorem wipe_set : ∀ (σ : L2.St) (i : Nat) (x : Option V) (vs : List Nat), i ∈ vs → wipe (σ.set i x) vs = wipe σ vs := by
  have out : ∀ (σ : L2.St) (i : Nat) (x : Option V) (vs : List Nat), i ∉ vs → wipe (σ.set i x) vs = (wipe σ vs).set i x := by
    intro σ i x vs
    induction vs with
    | nil => intro _; rfl
    | cons v vs ih =>
      intro h
      unfold wipe
      rw [ih fun z => h (List.mem_cons_of_mem _ z)]
      exact List.set_comm _ _ fun z => h (by rw [z]; exact List.mem_cons_self)
  intro σ i x vs
  induction vs with
  | nil => intro h; cases h
  | cons v vs ih =>
    intro h
    unfold wipe
    by_cases hi : i ∈ vs
    · rw [ih hi]
    · have e : i = v := (List.mem_cons.mp h).resolve_right hi
      subst e
      rw [out σ i x vs hi, List.set_set]
theorem Only'.refl {ts : List Nat} {σ : L2.St} : Only' ts σ σ := fun _ _ => rfl
theorem Only'.trans {ts us : List Nat} {σ σ' σ'' : L2.St} (h : Only' ts σ σ') (h' : Only' us σ' σ'') : Only' (ts ++ us) σ σ'' := fun vs q => (h' vs fun t z => q t (List.mem_append_right _ z)).trans (h vs fun t z => q t (List.mem_append_left _ z))
def aName (i : Nat) : PyData → S → Option S := fun d s => some { s with env := s.env.set i (some (.d d)) }
theorem pgI {t t' : TG} (h : PG X e t) (hi : ∀ v σ H Q, t' v σ H Q → t v σ H Q) : PG X e t' := ⟨fun pins s σ H v u Q I r q => h.run pins s σ H v u Q I r (hi _ _ _ _ q)⟩
theorem pgsI {t t' : TGs} (h : PGs X es t) (hi : ∀ v σ H Q, t' v σ H Q → t v σ H Q) : PGs X es t' := ⟨fun pins s σ H v u Q I r q => h.run pins s σ H v u Q I r (hi _ _ _ _ q)⟩
theorem tg_name {i : Nat} {x : Str} (hN : X.N.Nodup) (hi : X.N[i]? = some x) (hx : Loc X.env.scope x) (hm : M i = false) (hf : X.fn x = true ∨ X.env.scope.names.lookup x = some .local := by first | exact .inl rfl | exact .inr rfl | assumption) : PG X (.Name x pos) (TGX X.kk M [i] (aName i)) :=
  pgI (pg_name hN hi hx hf) fun v σ H Q ⟨g, s, d, s', r, rp, e, q⟩ => by
    cases e
    exact q _ (g.drop i) H (r.set (i := i) (x := .d d) rp fun d' ed z => by rw [hm] at z; cases z.1) Evo.drop fun vs h => wipe_set σ i _ vs (h i List.mem_cons_self)
def aNil : List PyData → S → Option S := fun ds s => match ds with
  | [] => some s
  | _ => none
def aCons (a : PyData → S → Option S) (b : List PyData → S → Option S) : List PyData → S → Option S := fun ds s => match ds with
  | d :: r => match a d s with
    | some s1 => b r s1
    | none => none
  | [] => none
theorem tg_nil : PGs X [] (TGXs X.kk M [] aNil) := pgsI pgs_nil fun vs σ H Q ⟨g, s, ds, s', r, rp, e, q⟩ => by
  unfold aNil at e
  split at e
  · cases e
    cases rp
    exact ⟨rfl, q σ g H r Evo.refl .refl⟩
  · cases e
theorem tg_cons {ts us : List Nat} {t : PyData → S → Option S} {u : List PyData → S → Option S} (h1 : PG X e (TGX X.kk M ts t)) (h2 : PGs X es (TGXs X.kk M us u)) (hs : (assignEach (e :: es) X.env).map (·.2) = assign e X.env :: (assignEach es X.env).map (·.2) := by rfl) : PGs X (e :: es) (TGXs X.kk M (ts ++ us) (aCons t u)) :=
  pgsI (pgs_cons h1 h2 hs) fun vs σ H Q ⟨g, s, ds, s', r, rp, e, q⟩ => by
    unfold aCons at e
    split at e
    · rename_i d ds'
      split at e
      · rename_i s1 e1
        cases rp with
        | cons rp1 rp2 => exact ⟨_, _, rfl, g, s, d, s1, r, rp1, e1, fun σ1 g1 H1 r1 v1 o1 => ⟨g1, s1, ds', s', r1, v1.rpA r.wn rp2, e, fun σ2 g2 H2 r2 v2 o2 => q σ2 g2 H2 r2 (v1.trans v2) (o1.trans o2)⟩⟩
      · cases e
    · cases e
/-- a, b, .. = a tuple -/
def aTup (n : Nat) (a : List PyData → S → Option S) : PyData → S → Option S := fun d s => match d with
  | .tuple ds => if ds.length = n then a ds s else none
  | _ => none
theorem tg_tup {k n : Nat} {ts : List Nat} {t : List PyData → S → Option S} (hc : X.calm = true) (h : PGs X es (TGXs X.kk M ts t)) (hn : (assignEach es X.env).length = n := by rfl) (hst : (assignEach es X.env).findIdx? (·.1) = none := by rfl) : PG X (.Tuple es k pos) (TGX X.kk M ts (aTup n t)) :=
  pgI (pg_tup hc h hn hst) fun v σ H Q ⟨g, s, d, s', r, rp, e, q⟩ => by
    unfold aTup at e
    split at e
    · rename_i ds
      split at e
      · rename_i hl
        cases rp with
        | tup h1 h2 => exact ⟨_, _, rfl, h1, by rw [h2.length]; exact hl, g, s, ds, s', r, h2, e, q⟩
      · cases e
    · cases e
/-- target = e -/
def sAsg (a : PyData → S → Option S) (c : CE) : CS := fun F s => match c F s with
  | some (.d d, s1) => match a d s1 with
    | some s2 => some (.nx, s2)
    | none => none
  | _ => none
theorem ss_asg {tg : Expr} {ce : CE} {fr : Bool} {ts : List Nat} {t : PyData → S → Option S} (he : PE X e (TX X.kk F M fr ce)) (hg : PG X tg (TGX X.kk M ts t)) (hs : swapsWithSole [tg] e pos.line X.env = pure false := by rfl) (hw : swappedStores [tg] e X.env = pure none := by rfl)
    (h1 : (assignEach [tg] X.env).map (·.2) = [assign tg X.env] := by rfl) : PS X (.Assign [tg] e pos) (TSt X.kk F M (sAsg t ce)) := psI (ps_asg he hg hs hw h1) fun D σ H ⟨g, s, f, s', r, ev, q⟩ => by
  unfold sAsg at ev
  split at ev
  · rename_i d s1 e1
    split at ev
    · rename_i s2 e2
      cases ev
      exact ⟨g, s, .d d, s1, r, e1, fun v g1 H1 r1 v1 rp _ => ⟨g1, s1, d, s', r1, rp, e2, fun σ2 g2 H2 r2 v2 _ => q σ2 g2 H2 r2 (v1.trans v2)⟩⟩
    · cases ev
  · cases ev

/-! ### what is walked -/
abbrev IC := Fn → S → Option (List PyData × S × List (Nat × PyData))
/-- the iterator yields the data ds, whatever is done meanwhile to what is owned -/
def Walk (K : KK) (g : G) (H : Hp) (J : It) (ds : List PyData) : Prop := ∀ g2 H2, Evo g g2 H H2 → (∀ b, g2.W b → g2.N b) → (∀ b, g2.N b → H2 b ≠ none) →
  (∀ i d, ds[i]? = some d → J.go i H2 ∧ ∀ x H3, J.yld i H2 x H3 → Same H2 H3 ∧ Rp K g2.N H3 x d) ∧ J.stop ds.length H2
def TIX (K : KK) (F : Fn) (M : Nat → Bool) (ic : IC) : TI := fun σ H R => ∃ g s ds s' l, Rel K M g s σ H ∧ ic F s = some (ds, s', l) ∧
  ∀ J g' H', Rel K M g' s' σ H' → Evo g g' H H' → Lent K M σ g H l g' H' → Walk K g' H' J ds → R J H'
theorem piI {tg : Expr} {t t' : TI} (h : PI X tg e t) (hi : ∀ σ H R, t' σ H R → t σ H R) : PI X tg e t' := ⟨fun pins s σ H R I q => h.run pins s σ H R I (hi _ _ _ q)⟩
def forL (as : PyData → S → Option S) (b : CS) (F : Fn) : List PyData → S → Option (Fl × S)
  | [], s => some (.nx, s)
  | d :: ds, s => match as d s with
    | some s1 => match b F s1 with
      | some (.rt x, s2) => some (.rt x, s2)
      | some (_, s2) => forL as b F ds s2
      | none => none
    | none => none
/-- for target in ..: nothing may be lent -/
def sFor (as : PyData → S → Option S) (ic : IC) (b : CS) : CS := fun F s => match ic F s with
  | some (ds, s1, []) => forL as b F ds s1
  | _ => none
theorem ss_for {tg iter : Expr} {ic : IC} {ts : List Nat} {t : PyData → S → Option S} {ca : CS} {body : List Stmt} (hp : PassesOwn (model X.prog X.w) X.A X.env X.xe) (hc : X.calm = true) (hi : PI X tg iter (TIX X.kk F M ic)) (hg : PG X tg (TGX X.kk M ts t)) (hb : PSs X body (TSt X.kk F M ca)) (hs : ∀ x, foldedSetIterable iter X.env x = pure x := by intro _; rfl) :
    PS X (.For tg iter body [] pos) (TSt X.kk F M (sFor t ic ca)) := psI (ps_for hp hc hi hg hb hs) fun D σ H ⟨g, s, f, s', r, ev, q⟩ => by
  unfold sFor at ev
  split at ev
  · rename_i ds s1 e1
    refine ⟨g, s, ds, s1, [], r, e1, fun J g1 H1 r1 v1 _ W => ?_⟩
    refine ⟨fun i m σ2 H2 => m + i = ds.length ∧ ∃ g2 s2 f s', Rel X.kk M g2 s2 σ2 H2 ∧ Evo g1 g2 H1 H2 ∧ forL t ca F (ds.drop i) s2 = some (f, s') ∧ ∀ σ' g3 H3, Rel X.kk M g3 s' σ' H3 → Evo g2 g3 H2 H3 → FlOk X.kk g3 H3 D σ' f,
      ⟨ds.length, rfl, g1, s1, f, s', r1, Evo.refl, by simpa using ev, fun σ' g3 H3 r3 v3 => q σ' g3 H3 r3 (v1.trans v3)⟩, ?_⟩
    rintro i m σ2 H2 ⟨hm, g2, s2, f2, s2', r2, v2, e2, q2⟩
    obtain ⟨w1, w2⟩ := W g2 H2 v2 r2.wn r2.ex
    cases m with
    | zero =>
      have hi : i = ds.length := by omega
      subst hi
      rw [List.drop_length] at e2
      cases e2
      exact .inl ⟨w2, q2 σ2 g2 H2 r2 Evo.refl⟩
    | succ m =>
      have hi : i < ds.length := by omega
      have hd : ds[i]? = some ds[i] := List.getElem?_eq_getElem hi
      obtain ⟨go, yl⟩ := w1 i _ hd
      rw [List.drop_eq_getElem_cons hi] at e2
      unfold forL at e2
      split at e2
      · rename_i s3 e3
        split at e2
        · rename_i x s4 e4
          cases e2
          refine .inr ⟨go, fun _ _ => False, fun _ _ z => z.elim, fun x' H3 y => ?_⟩
          obtain ⟨k, rp⟩ := yl x' H3 y
          refine ⟨g2, s2, ds[i], s3, r2.same k, rp, e3, fun σ4 g4 H4 r4 v4 _ => ⟨g4, s3, .rt x, _, r4, e4, fun σ5 g5 H5 r5 v5 => ?_⟩⟩
          exact q2 σ5 g5 H5 r5 (((Evo.same k).trans v4).trans v5)
        · rename_i f4 s4 hf e4
          refine .inr ⟨go, fun σ5 H5 => ∃ g5, Rel X.kk M g5 s4 σ5 H5 ∧ Evo g2 g5 H2 H5, fun σ5 H5 z => ?_, fun x' H3 y => ?_⟩
          · obtain ⟨g5, r5, v5⟩ := z
            exact ⟨m, Nat.lt_succ_self m, by omega, g5, s4, f2, s2', r5, v2.trans v5, e2, fun σ' g6 H6 r6 v6 => q2 σ' g6 H6 r6 (v5.trans v6)⟩
          · obtain ⟨k, rp⟩ := yl x' H3 y
            refine ⟨g2, s2, ds[i], s3, r2.same k, rp, e3, fun σ4 g4 H4 r4 v4 _ => ⟨g4, s3, f4, s4, r4, e4, fun σ5 g5 H5 r5 v5 => ?_⟩⟩
            have z : Evo g2 g5 H2 H5 := ((Evo.same k).trans v4).trans v5
            cases f4 with
            | nx => exact ⟨g5, r5, z⟩
            | ct => exact ⟨g5, r5, z⟩
            | rt x => exact absurd rfl (hf x)
        · cases e2
      · cases e2
  · cases ev

/-! ### the sources -/
theorem walk_list {K : KK} {g : G} {H : Hp} {a : Addr} {xs : List V} {ds : List PyData} (wn : ∀ b, g.W b → g.N b) (st : ∀ g2 H2, Evo g g2 H H2 → SqL K.k H2 a xs) (r : RpA K g.N H xs ds) : Walk K g H (Itl K.k a) ds := fun g2 H2 v _ _ => by
  have hr2 : SqL K.k H2 a xs := st g2 H2 v
  have r2 := v.rpA wn r
  refine ⟨fun i d e => ?_, ⟨xs, hr2, by rw [r.length]; exact Nat.le_refl _⟩⟩
  obtain ⟨x, ex, rx⟩ := r2.get e
  refine ⟨⟨xs, x, hr2, ex⟩, fun y H3 ⟨e1, e2⟩ => ?_⟩
  subst e1
  have e3 := e2 xs hr2
  rw [ex] at e3
  cases e3
  exact ⟨fun _ _ h => h, rx⟩
end
end Ev
/-! Ev7: sources: lists, tuples, ranges, enumerate, zip. -/
namespace Ev
open PySem PySem.Spec L2

section
variable {X : Cx} {M : Nat → Bool} {F : Fn} {tg a b c e : Expr} {es : List Expr} {pos p : Pos}
theorem walk_tup {K : KK} {g : G} {H : Hp} {a : Addr} {xs : List V} {ds : List PyData} (wn : ∀ b, g.W b → g.N b) (hr : SqT K.k H a xs) (r : RpA K g.N H xs ds) : Walk K g H (Itt K.k a) ds := fun g2 H2 v _ _ => by
  have hr2 : SqT K.k H2 a xs := v.seq hr
  have r2 := v.rpA wn r
  refine ⟨fun i d e => ?_, ⟨xs, hr2, by rw [r.length]; exact Nat.le_refl _⟩⟩
  obtain ⟨x, ex, rx⟩ := r2.get e
  refine ⟨⟨xs, x, hr2, ex⟩, fun y H3 ⟨e1, e2⟩ => ?_⟩
  subst e1
  have e3 := e2 xs hr2
  rw [ex] at e3
  cases e3
  exact ⟨fun _ _ h => h, rx⟩
/-- a list or a tuple that is read, and stays -/
theorem RpT.seqL {K : KK} {g : G} {H : Hp} {v : V} {ds : List PyData} (wn : ∀ b, g.W b → g.N b) (h : RpT K g H v (.list ds)) : ∃ a xs, v = .ref a ∧ SqL K.k H a xs ∧ RpA K g.N H xs ds ∧ ∀ g2 H2, Evo g g2 H H2 → SqL K.k H2 a xs := by
  have kp : ∀ {a : Addr} {xs : List V}, Rd H a (.lst xs) → ¬ g.W a → ∀ g2 H2, Evo g g2 H H2 → SqL K.k H2 a xs := fun {a xs} hr nw g2 H2 v => by
    rcases hr with h | ⟨o, h⟩
    · exact .inl (.inl (v.keep _ _ h nw))
    · exact .inl (.inr ⟨o, v.keep _ _ h nw⟩)
  rcases h with h | ⟨a, rfl, ⟨xs, e, r⟩, nw⟩
  · cases h with
    | lst h1 h2 h3 => exact ⟨_, _, rfl, .inl h1, h3, kp h1 fun z => h2 (wn _ z)⟩
    | lstK h1 h2 h3 h4 => exact ⟨_, _, rfl, Lr.sq (.inr ⟨_, _, h1, h2, h3⟩), h4, fun g2 H2 v => Lr.sq (.inr ⟨_, _, h1, h2, h3⟩)⟩
  · exact ⟨a, xs, rfl, .inl (.inl e), r, kp (.inl e) nw⟩
theorem RpT.seqT {K : KK} {g : G} {H : Hp} {v : V} {ds : List PyData} (h : RpT K g H v (.tuple ds)) : ∃ a xs, v = .ref a ∧ SqT K.k H a xs ∧ RpA K g.N H xs ds := by
  rcases h with h | ⟨a, rfl, t, nw⟩
  · cases h with
    | tup h1 h2 => exact ⟨_, _, rfl, h1, h2⟩
  · exact t.elim
def itemsOf : PyData → Option (List PyData)
  | .list ds => some ds
  | .tuple ds => some ds
  | _ => none
/-- a list or a tuple, as it stands -/
def icSeq (o : Opd) : IC := fun F s => match o.ev F s with
  | some (d, s', l) => match itemsOf d with
    | some ds => some (ds, s', l)
    | none => none
  | none => none
def iSeq (K : KK) (te : TE) : TI := fun σ H R => te σ H fun x H1 => (∃ a xs, x = .ref a ∧ SqL K.k H1 a xs ∧ R (Itl K.k a) H1) ∨ ∃ a xs, x = .ref a ∧ SqT K.k H1 a xs ∧ R (Itt K.k a) H1
theorem pi_seq {te : TE} (he : PE X e te) : PI X tg e (iSeq X.kk te) := by
  refine ⟨fun pins s σ H R I h => thn (he.run pins s σ H _ I h) fun v s1 ⟨x, H1, I1, r1, q1⟩ => ?_⟩
  have mine : ∀ b, b ∈ [s1.heap.objs.size] → FpOk X pins H1 b := fun b hb => by
    have e : b = s1.heap.objs.size := by simpa using hb
    subst e
    exact I1.fpOk (Nat.le_refl _) (I1.hok.fresh (Nat.le_refl _))
  rcases q1 with ⟨a, xs, e, hq, q⟩ | ⟨a, xs, e, hq, q⟩
  · subst e
    cases r1
    obtain ⟨its, rv, p, hz⟩ := I1.list hq
    exact wpAny_pyIter_list p.isList ⟨_, _, _, _, H1, rfl, I1.kept (t' := s1.toks) fun b o e => Heap.get?_push_of_some _ e, turn_list a _, ⟨_, Heap.get?_push_size _ rfl, rfl, rfl⟩, mine, q⟩
  · subst e
    cases r1
    obtain ⟨its, rv, p, hz⟩ := I1.tuple hq
    exact wpAny_pyIter_tuple (show s1.heap.IsTuple a its.toArray from p) ⟨_, _, _, _, H1, rfl, I1.kept (t' := s1.toks) fun b o e => Heap.get?_push_of_some _ e, turn_tuple a _, ⟨_, Heap.get?_push_size _ rfl, rfl, rfl⟩, mine, q⟩
theorem it_seq {o : Opd} (he : PE X e (TP X.kk F M o)) : PI X tg e (TIX X.kk F M (icSeq o)) := piI (pi_seq he) fun σ H R ⟨g, s, ds, s', l, r, ev, q⟩ => by
  unfold icSeq at ev
  split at ev
  · rename_i d s1 l1 e1
    split at ev
    · rename_i ds1 e2
      cases ev
      refine ⟨g, s, d, s', l, r, e1, fun v g1 H1 r1 v1 rp L => ?_⟩
      cases d with
      | list ds' =>
        cases e2
        obtain ⟨a, xs, rfl, hr, ra, nw⟩ := rp.seqL r1.wn
        exact .inl ⟨a, xs, rfl, hr, q _ g1 H1 r1 v1 L (walk_list r1.wn nw ra)⟩
      | tuple ds' =>
        cases e2
        obtain ⟨a, xs, rfl, hr, ra⟩ := rp.seqT
        exact .inr ⟨a, xs, rfl, hr, q _ g1 H1 r1 v1 L (walk_tup r1.wn hr ra)⟩
      | _ => cases e2
    · cases ev
  · cases ev

/-! ### ranges -/
def intsFrom (lo : Int) (n : Nat) : List PyData := (List.range n).map fun k => .int (lo + (k : Nat))
theorem walk_rng {K : KK} {g : G} {H : Hp} (lo : Int) (n : Nat) : Walk K g H (Itr lo n) (intsFrom lo n) := fun g2 H2 v _ _ => by
  have hl : (intsFrom lo n).length = n := by unfold intsFrom; simp
  refine ⟨fun i d e => ?_, by rw [hl]; exact Nat.le_refl _⟩
  have hi : i < n := by rw [← hl]; exact (List.getElem?_eq_some_iff.mp e).1
  refine ⟨hi, fun x H3 ⟨e1, e2⟩ => ?_⟩
  subst e1 e2
  unfold intsFrom at e
  rw [List.getElem?_map, List.getElem?_range hi] at e
  cases e
  exact ⟨fun _ _ h => h, .int _⟩
def rgOk (i : Int) : Bool := decide (-(2 ^ 62) ≤ i) && decide (i < 2 ^ 62)
theorem rgOk_iff {i : Int} (h : rgOk i = true) : -(2 ^ 62) ≤ i ∧ i < 2 ^ 62 := by
  unfold rgOk at h
  rw [Bool.and_eq_true, decide_eq_true_eq, decide_eq_true_eq] at h
  exact h
/-- range(n), range(a, b), range(a, b, c) -/
def icRng1 (o : Opd) : IC := fun F s => match evOps [o] F s with
  | some ([.int j], s', l) => if rgOk j then some (intsFrom 0 j.toNat, s', l) else none
  | _ => none
def icRng2 (o o' : Opd) : IC := fun F s => match evOps [o, o'] F s with
  | some ([.int i, .int j], s', l) => if rgOk i && rgOk j then some (intsFrom i (j - i).toNat, s', l) else none
  | _ => none
theorem it_rng1 {o : Opd} (hg : Gl X "range") (hm : X.mg "range" = none) (ha : PE X a (TP X.kk F M o)) (hs : starEach [a] X.env = [(false, eval a X.env)] := by rfl) : PI X tg (.Call (.Name "range" p) [a] [] pos) (TIX X.kk F M (icRng1 o)) :=
  piI (pi_range1 hg hm (ops_cons ha ops_nil hs) hs) fun σ H R ⟨g, s, ds, s', l, r, ev, q⟩ => by
    unfold icRng1 at ev
    split at ev
    · rename_i j s1 l1 e1
      split at ev
      · rename_i hj
        cases ev
        refine ⟨g, s, _, s', l, r, e1, fun vs g1 H1 r1 v1 rp L => ?_⟩
        cases rp with
        | cons rp1 rp2 =>
          cases rp2
          obtain ⟨h1, h2⟩ := rgOk_iff hj
          exact ⟨j, by rw [rp1.v.int], h1, h2, q _ g1 H1 r1 v1 L (walk_rng 0 j.toNat)⟩
      · cases ev
    · cases ev
theorem it_rng2 {o o' : Opd} (hg : Gl X "range") (hm : X.mg "range" = none) (ha : PE X a (TP X.kk F M o)) (hb : PE X b (TP X.kk F M o')) (hs : starEach [a, b] X.env = [(false, eval a X.env), (false, eval b X.env)] := by rfl) (hs2 : starEach [b] X.env = [(false, eval b X.env)] := by rfl) :
    PI X tg (.Call (.Name "range" p) [a, b] [] pos) (TIX X.kk F M (icRng2 o o')) :=
  piI (pi_range2 hg hm (ops_cons ha (ops_cons hb ops_nil hs2) (by rw [hs, hs2])) hs hs2) fun σ H R ⟨g, s, ds, s', l, r, ev, q⟩ => by
    unfold icRng2 at ev
    split at ev
    · rename_i i j s1 l1 e1
      split at ev
      · rename_i hj
        cases ev
        refine ⟨g, s, _, s', l, r, e1, fun vs g1 H1 r1 v1 rp L => ?_⟩
        cases rp with
        | cons rp1 rp2 =>
          cases rp2 with
          | cons rp2 rp3 =>
            cases rp3
            rw [Bool.and_eq_true] at hj
            obtain ⟨h1, h2⟩ := rgOk_iff hj.1
            obtain ⟨h3, h4⟩ := rgOk_iff hj.2
            exact ⟨i, j, by rw [rp1.v.int, rp2.v.int], ⟨h1, h2, h3, h4⟩, q _ g1 H1 r1 v1 L (walk_rng i (j - i).toNat)⟩
      · cases ev
    · cases ev

/-! ### enumerate of a list -/
def pairUp : Nat → List PyData → List PyData
  | _, [] => []
  | k, d :: ds => .tuple [.int k, d] :: pairUp (k + 1) ds
theorem pairUp_length : ∀ (k : Nat) (ds : List PyData), (pairUp k ds).length = ds.length
  | _, [] => rfl
  | k, _ :: ds => by unfold pairUp; rw [List.length_cons, List.length_cons, pairUp_length]
theorem pairUp_get : ∀ {k : Nat} {ds : List PyData} {i : Nat} {d : PyData}, (pairUp k ds)[i]? = some d → ∃ d', ds[i]? = some d' ∧ d = .tuple [.int ((k + i : Nat) : Int), d']
  | _, [], _, _, e => by simp [pairUp] at e
  | k, d' :: ds, 0, d, e => by simp [pairUp] at e; exact ⟨d', rfl, by simp [← e]⟩
  | k, d' :: ds, i + 1, d, e => by
    obtain ⟨d2, h1, h2⟩ := pairUp_get (k := k + 1) (ds := ds) (i := i) (d := d) (by simpa [pairUp] using e)
    exact ⟨d2, by simpa using h1, by rw [h2, show k + 1 + i = k + (i + 1) by omega]⟩
theorem pair_at {K : KK} {N : Addr → Prop} {H : Hp} {T : Addr} {x y : V} {dx dy : PyData} (hT : H T = none) (rx : Rp K N H x dx) (ry : Rp K N H y dy) : Same H (upd H T (.tup [x, y])) ∧ Rp K N (upd H T (.tup [x, y])) (.ref T) (.tuple [dx, dy]) := by
  have k : Same H (upd H T (.tup [x, y])) := fun b o e => by rw [upd_ne (ne_of_none e hT)]; exact e
  exact ⟨k, .tup (.inl (.inl upd_same)) (.cons (rx.same k) (.cons (ry.same k) .nil))⟩
theorem walk_enum {K : KK} {g : G} {H : Hp} {a : Addr} {xs : List V} {ds : List PyData} (wn : ∀ b, g.W b → g.N b) (st : ∀ g2 H2, Evo g g2 H H2 → SqL K.k H2 a xs) (r : RpA K g.N H xs ds) : Walk K g H (Ite K.k a) (pairUp 0 ds) := fun g2 H2 v _ _ => by
  have hr2 : SqL K.k H2 a xs := st g2 H2 v
  have r2 := v.rpA wn r
  refine ⟨fun i d e => ?_, ⟨xs, hr2, by rw [pairUp_length, r.length]; exact Nat.le_refl _⟩⟩
  obtain ⟨d', e', rfl⟩ := pairUp_get e
  obtain ⟨x, ex, rx⟩ := r2.get e'
  refine ⟨⟨xs, x, hr2, ex⟩, fun y H3 ⟨T, x', e1, hT, e2, e3⟩ => ?_⟩
  subst e1 e2
  have e4 := e3 xs hr2
  rw [ex] at e4
  cases e4
  rw [Nat.zero_add]
  exact pair_at hT (.int _) rx
end
end Ev
/-! Ev8a: a tuple times any int. -/
namespace Ev
open PySem PySem.Spec PyProof.Rows L2
theorem tuple_same (l : Addr) (items : Array Value) (n : Nat) (dd : Option Addr) (sl : Array (Option Value)) (x : Int) (u : Tok) (c0 : (decide (x < -(2 ^ 63)) || decide (x ≥ 2 ^ 63)) = false) (c1 : (items.isEmpty || x == 1) = true) :
    Meets (Builtin.«tuple.__mul__» ⟨[.ref l, .int x u], []⟩) (fun _ R s => s.heap.get? l = some { cls := .type "tuple", dict := dd, data := .seq items n, slots := sl } ∧ R (.ok (.ret (.ref l))) s) :=
  .of_wp fun prog w A R s h => by
    obtain ⟨hp, g, d, tk, os⟩ := s
    obtain ⟨hl, h⟩ := h
    have f1 := AutoSeq1.idx_int
    wp_walk using wpAny_loadPart' hl
    refine wpAny_ite_false (decide_eq_false (by rw [c0]; exact Bool.false_ne_true)) ?_
    wp_walk using wpAny_loadPart' hl
    exact ⟨_, rfl, h⟩
theorem tuple_zero (l : Addr) (items : Array Value) (n : Nat) (dd : Option Addr) (sl : Array (Option Value)) (x : Int) (u : Tok) (c0 : (decide (x < -(2 ^ 63)) || decide (x ≥ 2 ^ 63)) = false) (c1 : (items.isEmpty || x == 1) = false) (c2 : (decide (x ≤ 0) || items.isEmpty) = true) :
    Meets (Builtin.«tuple.__mul__» ⟨[.ref l, .int x u], []⟩) (fun _ R s => s.heap.get? l = some { cls := .type "tuple", dict := dd, data := .seq items n, slots := sl } ∧ R (.ok (.ret (.ref s.heap.objs.size))) { s with heap := s.heap.push { cls := Value.type "tuple", data := Data.seq #[] }, toks := s.toks }) :=
  .of_wp fun prog w A R s h => by
    obtain ⟨hp, g, d, tk, os⟩ := s
    obtain ⟨hl, h⟩ := h
    have f1 := AutoSeq1.idx_int
    wp_walk using wpAny_loadPart' hl
    refine wpAny_ite_false (decide_eq_false (by rw [c0]; exact Bool.false_ne_true)) ?_
    wp_walk using wpAny_loadPart' hl
    exact ⟨_, rfl, h⟩
section
variable {X : Cx}
def rRepA (K : KK) : R2 := fun x y H Q => ∃ l k xs, x = .ref l ∧ y = .int k ∧ SqT K.k H l xs ∧ -(2 ^ 63) ≤ k ∧ k ≤ 1000 ∧ xs.length ≤ 1000 ∧ (xs = [] ∨ k = 1 → Q (.ref l) H) ∧ (xs ≠ [] → k ≠ 1 → ∀ p, H p = none → Q (.ref p) (upd H p (.tup (List.replicate k.toNat xs).flatten)))
theorem op_repA : OpR X (binaryOp .Mult) (rRepA X.kk) := by
  intro pins s σ H x y v u Q I rx ry h
  obtain ⟨l, k, xs, rfl, rfl, hT, h1, h2, hz, q1, q2⟩ := h
  cases rx
  obtain ⟨t, rfl⟩ := ry
  obtain ⟨its, r, ⟨⟨cls, dd, data, sl⟩, ho, hc, n, hd⟩, hs⟩ := I.tuple hT
  simp only at hc hd
  subst hc hd
  have hle : its.length = xs.length := r.length.symm
  have c0 : (decide (k < -(2 ^ 63)) || decide (k ≥ 2 ^ 63)) = false := by
    rw [decide_eq_false (by omega), decide_eq_false (by omega)] <;> rfl
  have road : ∀ {R : Value → Shared → Prop}, (wpAny (model X.prog X.w) X.A (call (.builtin "tuple.__mul__") [.ref l, .int k t]) R X.xe s) → wpAny (model X.prog X.w) X.A (binaryOp .Mult (.ref l) (.int k t)) R X.xe s := fun h =>
    wpAny_binaryOp_repeat_ref (T := "tuple") (U := "int") (by decide) ⟨_, ho, rfl⟩ (fun s' => typeIs_int s' k t) noFill_tuple_mul F.fills_int_mul F.slot_int_rmul repeat_tuple F.slot_int_index.lookup
      (call_meets F.slot_int_rmul (typeIs_int s k t) F.entry_int_rmul (F.args_int_rmul_2 _ _) (int_rmul_tuple k t l its.toArray n dd sl) ⟨ho, rfl, ⟨_, ho, rfl⟩, h⟩)
  by_cases hx : xs = [] ∨ k = 1
  · have c1 : (its.toArray.isEmpty || k == 1) = true := by
      rcases hx with e | e
      · subst e; cases r; rfl
      · subst e; simp
    exact road (call_meets F.slot_tuple_mul ⟨_, ho, rfl⟩ F.entry_tuple_mul (F.args_tuple_mul_2 _ _) (tuple_same l its.toArray n dd sl k t c0 c1) ⟨ho, ⟨.ref l, H, I, rfl, q1 hx⟩⟩)
  · have hn : xs ≠ [] := fun e => hx (.inl e)
    have hk : k ≠ 1 := fun e => hx (.inr e)
    by_cases h0 : 2 ≤ k
    · exact op_repT pins s σ H (.ref l) (.int k) _ _ Q I rfl ⟨t, rfl⟩ ⟨l, k, xs, rfl, rfl, hT, hn, h0, h2, hz, q2 hn hk⟩
    · have hi : its.toArray.isEmpty = false := by
        cases its with
        | nil => cases r; exact absurd rfl hn
        | cons a b => rfl
      have c1 : (its.toArray.isEmpty || k == 1) = false := by
        rw [hi, Bool.false_or]
        exact beq_eq_false_iff_ne.mpr hk
      have c2 : (decide (k ≤ 0) || its.toArray.isEmpty) = true := by rw [decide_eq_true (by omega)]; rfl
      refine road (call_meets F.slot_tuple_mul ⟨_, ho, rfl⟩ F.entry_tuple_mul (F.args_tuple_mul_2 _ _) (tuple_zero l its.toArray n dd sl k t c0 c1 c2) ⟨ho, ?_⟩)
      have q := q2 hn hk
      have e0 : k.toNat = 0 := by omega
      rw [e0] at q
      refine ⟨.ref s.heap.objs.size, _, I.laid (t' := s.toks) (o := .tup []) (fun b ob q => Heap.get?_push_of_some _ q) (Nat.le_refl _) ?_, rfl, q _ (I.hok.fresh (Nat.le_refl _))⟩
      exact ⟨Nat.zero_le _, [], .nil, IsTup.new _ _⟩
/-- a list that is read: its object -/
theorem lstR {pins : List (Addr × Obj)} {s : Shared} {σ : L2.St} {H : Hp} {l : Addr} {xs : List V} (I : Inv X pins σ H s) (h : Lr X.K H l xs) : xs.length ≤ sizeLine ∧ ∃ (its : List Value) (n : Nat), Vals xs its ∧ xs.length = its.length ∧ s.heap.get? l = some { cls := .type "list", data := .seq its.toArray n } := by
  rcases h with h | ⟨its, n, e, z, r⟩
  · obtain ⟨z, its, n, r, e⟩ := h.ok I.hok
    exact ⟨z, its, n, r, r.length, e⟩
  · have hl := r.length
    refine ⟨by rw [hl, Array.length_toList]; exact z, its.toList, n, r, hl, ?_⟩
    have q := I.kIn l _ e
    rw [Array.toArray_toList]
    exact q
theorem cat_lists {pins : List (Addr × Obj)} {s : Shared} {σ : L2.St} {H : Hp} {l b : Addr} {xs zs : List V} {Q : VK} (I : Inv X pins σ H s) (hl : Lr X.K H l xs) (hb : Lr X.K H b zs) (hz : xs.length + zs.length ≤ sizeLine)
    (q : ∀ p, H p = none → Q (.ref p) (upd H p (.lst (xs ++ zs)))) : wpAny (model X.prog X.w) X.A (binaryOp .Add (.ref l) (.ref b)) (EP X pins σ Q) X.xe s := by
  obtain ⟨z1, its, n1, r, h1, e1⟩ := lstR I hl
  obtain ⟨z2, its2, n2, r2, h2, e2⟩ := lstR I hb
  refine PySem.P.add_list e1 e2 ?_ (by simp only [List.size_toArray]; omega)
  rw [show its.toArray ++ its2.toArray = (its ++ its2).toArray by simp]
  exact ⟨.ref _, _, I.lnew (t' := s.toks) (r.append r2) (by rw [List.length_append]; omega), rfl, q _ I.fresh⟩
/-- a list that is read, times an int -/
theorem rep_list {pins : List (Addr × Obj)} {s : Shared} {σ : L2.St} {H : Hp} {l : Addr} {k : Int} {t : Tok} {xs : List V} {Q : VK} (I : Inv X pins σ H s) (hl : Lr X.K H l xs) (h1 : -(2 ^ 63) ≤ k) (h2 : k < 2 ^ 63) (hz : xs.length * k.toNat ≤ sizeLine)
    (q : ∀ p, H p = none → Q (.ref p) (upd H p (.lst (List.replicate k.toNat xs).flatten))) : wpAny (model X.prog X.w) X.A (binaryOp .Mult (.ref l) (.int k t)) (EP X pins σ Q) X.xe s := by
  obtain ⟨z1, its, n, r, hln, e⟩ := lstR I hl
  have hlen : its.toArray.size * k.toNat ≤ sizeLine := by rw [List.size_toArray, ← hln]; exact hz
  have big : (sizeLine : Nat) ≤ (2 ^ 63 - 1) / 8 := by decide
  have cap : ¬ its.toArray.size * k.toNat > (2 ^ 63 - 1) / 8 := by omega
  have fit : ¬ (!Builtin.List.listFitsIndex k) = true := by rw [fitsIndex_both h1 h2]; exact Bool.false_ne_true
  have long : ¬ Builtin.List.listTooLong (its.toArray.size * k.toNat) = true := by rw [notLongL hlen]; exact Bool.false_ne_true
  have made : List.foldl (fun x1 x2 => x1 ++ x2) #[] (List.replicate (if its.toArray.isEmpty = true then 0 else k.toNat) its.toArray) = (List.replicate k.toNat its).flatten.toArray := by
    cases its with
    | nil => simp
    | cons a r' => rw [if_neg (by simp), size_rep]
  refine wpAny_binaryOp_repeat_ref (T := "list") (U := "int") (by decide) ⟨_, e, rfl⟩ (fun s' => typeIs_int s' k t) noFill_list_mul F.fills_int_mul F.slot_int_rmul repeat_list F.slot_int_index.lookup
    (call_meets F.slot_int_rmul (typeIs_int s k t) F.entry_int_rmul (F.args_int_rmul_2 _ _) (int___rmul___int_list k t l its.toArray n)
      ⟨e, rfl, ⟨_, e, rfl⟩, call_meets F.slot_list_mul ⟨_, e, rfl⟩ F.entry_list_mul (F.args_list_mul_2 _ _) (AutoListH.list___mul___list_int_3 l its.toArray n k t fit cap long) ⟨e, ?_⟩⟩)
  rw [made]
  exact ⟨.ref _, _, I.lnew (t' := s.toks) (r.rep k.toNat) (by rw [PyProof.Rows.lm_len_rep_flat, Nat.mul_comm]; exact hz), rfl, q _ I.fresh⟩
end
end Ev
/-! Ev8: operators and built-ins by values. -/
namespace Ev
open PySem PySem.Spec L2

section
variable {X : Cx} {M : Nat → Bool} {F : Fn} {tg a b c e : Expr} {es : List Expr} {pos p : Pos}
theorem RpV.lstR {K : KK} {N : Addr → Prop} {H : Hp} {v : V} {ds : List PyData} (h : RpV K N H v (.list ds)) : ∃ a xs, v = .ref a ∧ Lr K.k H a xs ∧ RpA K N H xs ds := by
  rcases h with h | ⟨a, rfl, xs, e, r⟩
  · cases h with
    | lst h1 h2 h3 => exact ⟨_, _, rfl, .inl h1, h3⟩
    | lstK h1 h2 h3 h4 => exact ⟨_, _, rfl, .inr ⟨_, _, h1, h2, h3⟩, h4⟩
  · exact ⟨a, xs, rfl, .inl (.inl e), r⟩
/-! ### + - * // % ** -/
def fAdd : PyData → PyData → Option PyData
  | .int i, .int j => some (.int (i + j))
  | .list xs, .list ys => if xs.length + ys.length ≤ sizeLine then some (.list (xs ++ ys)) else none
  | .tuple xs, .tuple ys => if xs.length + ys.length ≤ sizeLine then some (.tuple (xs ++ ys)) else none
  | .str x, .str y => if x.length + y.length ≤ sizeLine then some (.str (x ++ y)) else none
  | _, _ => none
theorem od_add : OpR X (binaryOp .Add) (R2D X.kk fAdd) := by
  intro pins s σ H x y v u Q I rx ry ⟨N, dx, dy, d, ex, hx, hy, hf, q⟩
  unfold fAdd at hf
  split at hf
  · cases hf
    cases hx.int; cases hy.int
    exact op_add pins s σ H _ _ v u Q I rx ry ⟨_, _, rfl, rfl, vr_val (.int _) rfl q⟩
  · split at hf
    · rename_i hz
      cases hf
      obtain ⟨l, ls, rfl, hl, r1⟩ := hx.lstR
      obtain ⟨b, bs, rfl, hb, r2⟩ := hy.lstR
      cases rx; cases ry
      exact cat_lists I hl hb (by rw [r1.length, r2.length]; exact hz) fun p hp => vr_lst ex (r1.append r2) q hp
    · cases hf
  · split at hf
    · rename_i hz
      cases hf
      obtain ⟨l, ls, rfl, hl, r1⟩ := hx.tup
      obtain ⟨b, bs, rfl, hb, r2⟩ := hy.tup
      refine op_catA pins s σ H _ _ v u Q I rx ry ⟨l, b, ls, bs, rfl, rfl, hl, hb, by rw [r1.length, r2.length]; exact hz, fun e => ?_, fun _ e => ?_, fun _ _ p hp => vr_tup (r1.append r2) q hp⟩
      · subst e
        cases r1
        exact vr_val (.tup hb r2) rfl q
      · subst e
        cases r2
        rw [List.append_nil] at q
        exact vr_val (.tup hl r1) rfl q
    · cases hf
  · split at hf
    · rename_i hz
      cases hf
      cases hx.str; cases hy.str
      exact op_add_str pins s σ H _ _ v u Q I rx ry ⟨_, _, rfl, rfl, hz, vr_val (.str _) rfl q⟩
    · cases hf
  · cases hf
def fSub : PyData → PyData → Option PyData
  | .int i, .int j => some (.int (i - j))
  | _, _ => none
theorem od_sub : OpR X (binaryOp .Sub) (R2D X.kk fSub) := by
  intro pins s σ H x y v u Q I rx ry ⟨N, dx, dy, d, ex, hx, hy, hf, q⟩
  unfold fSub at hf
  split at hf
  · cases hf
    cases hx.int; cases hy.int
    exact op_sub pins s σ H _ _ v u Q I rx ry ⟨_, _, rfl, rfl, vr_val (.int _) rfl q⟩
  · cases hf
def small64 (i : Int) : Bool := decide (-(2 ^ 64) < i) && decide (i < 2 ^ 64)
def small63 (i : Int) : Bool := decide (-(2 ^ 63) ≤ i) && decide (i < 2 ^ 63)
theorem small64_iff {i : Int} (h : small64 i = true) : -(2 ^ 64) < i ∧ i < 2 ^ 64 := by
  unfold small64 at h
  rw [Bool.and_eq_true, decide_eq_true_eq, decide_eq_true_eq] at h
  exact h
theorem small63_iff {i : Int} (h : small63 i = true) : -(2 ^ 63) ≤ i ∧ i < 2 ^ 63 := by
  unfold small63 at h
  rw [Bool.and_eq_true, decide_eq_true_eq, decide_eq_true_eq] at h
  exact h
def fMul : PyData → PyData → Option PyData
  | .int i, .int j => if small64 i || small64 j then some (.int (i * j)) else none
  | .list xs, .int k => if small63 k && decide (xs.length * k.toNat ≤ sizeLine) then some (.list (List.replicate k.toNat xs).flatten) else none
  | .tuple xs, .int k => if decide (-(2 ^ 63) ≤ k) && decide (k ≤ 1000) && decide (xs.length ≤ 1000) then some (.tuple (List.replicate k.toNat xs).flatten) else none
  | _, _ => none
theorem od_mul : OpR X (binaryOp .Mult) (R2D X.kk fMul) := by
  intro pins s σ H x y v u Q I rx ry ⟨N, dx, dy, d, ex, hx, hy, hf, q⟩
  unfold fMul at hf
  split at hf
  · split at hf
    · rename_i hz
      cases hf
      cases hx.int; cases hy.int
      rw [Bool.or_eq_true] at hz
      exact op_mul pins s σ H _ _ v u Q I rx ry ⟨_, _, rfl, rfl, hz.imp small64_iff small64_iff, vr_val (.int _) rfl q⟩
    · cases hf
  · split at hf
    · rename_i hz
      cases hf
      rw [Bool.and_eq_true, decide_eq_true_eq] at hz
      obtain ⟨l, ls, rfl, hl, r1⟩ := hx.lstR
      cases hy.int
      obtain ⟨t, rfl⟩ := ry
      cases rx
      obtain ⟨z1, z2⟩ := small63_iff hz.1
      exact rep_list I hl z1 z2 (by rw [r1.length]; exact hz.2) fun p hp => vr_lst ex (r1.rep _) q hp
    · cases hf
  · split at hf
    · rename_i hz
      cases hf
      simp only [Bool.and_eq_true, decide_eq_true_eq] at hz
      obtain ⟨l, ls, rfl, hl, r1⟩ := hx.tup
      cases hy.int
      refine op_repA pins s σ H _ _ v u Q I rx ry ⟨l, _, ls, rfl, rfl, hl, hz.1.1, hz.1.2, by rw [r1.length]; exact hz.2, fun e => ?_, fun _ _ p hp => vr_tup (r1.rep _) q hp⟩
      rcases e with e | e
      · subst e
        cases r1
        refine vr_val (.tup hl ?_) rfl q
        rw [show ∀ n : Nat, (List.replicate n ([] : List PyData)).flatten = [] from fun n => by induction n <;> simp_all [List.replicate_succ]]
        exact .nil
      · subst e
        refine vr_val (.tup hl ?_) rfl q
        simpa using r1
    · cases hf
  · cases hf
def fDiv : PyData → PyData → Option PyData
  | .int i, .int j => if decide (0 < j) && decide (j < 1073741824) then some (.int (i / j)) else none
  | _, _ => none
theorem od_div : OpR X (binaryOp .FloorDiv) (R2D X.kk fDiv) := by
  intro pins s σ H x y v u Q I rx ry ⟨N, dx, dy, d, ex, hx, hy, hf, q⟩
  unfold fDiv at hf
  split at hf
  · split at hf
    · rename_i hz
      cases hf
      cases hx.int; cases hy.int
      simp only [Bool.and_eq_true, decide_eq_true_eq] at hz
      exact op_fdiv pins s σ H _ _ v u Q I rx ry ⟨_, _, rfl, rfl, hz, vr_val (.int _) rfl q⟩
    · cases hf
  · cases hf
def fMod : PyData → PyData → Option PyData
  | .int i, .int j => if 0 < j then some (.int (i % j)) else none
  | _, _ => none
theorem od_mod : OpR X (binaryOp .Mod) (R2D X.kk fMod) := by
  intro pins s σ H x y v u Q I rx ry ⟨N, dx, dy, d, ex, hx, hy, hf, q⟩
  unfold fMod at hf
  split at hf
  · split at hf
    · rename_i hz
      cases hf
      cases hx.int; cases hy.int
      exact op_mod pins s σ H _ _ v u Q I rx ry ⟨_, _, rfl, rfl, hz, vr_val (.int _) rfl q⟩
    · cases hf
  · cases hf
def fPow : PyData → PyData → Option PyData
  | .int i, .int j => if decide (0 ≤ j) && decide (j ≤ 1000000) && decide (i.natAbs < 2 ^ 64) then some (.int (i ^ j.toNat)) else none
  | _, _ => none
theorem od_pow : OpR X (binaryOp .Pow) (R2D X.kk fPow) := by
  intro pins s σ H x y v u Q I rx ry ⟨N, dx, dy, d, ex, hx, hy, hf, q⟩
  unfold fPow at hf
  split at hf
  · split at hf
    · rename_i hz
      cases hf
      cases hx.int; cases hy.int
      simp only [Bool.and_eq_true, decide_eq_true_eq] at hz
      exact op_pow pins s σ H _ _ v u Q I rx ry ⟨_, _, rfl, rfl, ⟨hz.1.1, hz.1.2, hz.2⟩, vr_val (.int _) rfl q⟩
    · cases hf
  · cases hf
/-! ### minus -/
def R1D (K : KK) (f : PyData → Option PyData) : V → Hp → VK → Prop := fun x H Q => ∃ N dx d, (∀ a, N a → H a ≠ none) ∧ RpV K N H x dx ∧ f dx = some d ∧ VR K N H d Q
def cUn (f : PyData → Option PyData) (o : Opd) : CE := fun F s => match o.ev F s with
  | some (d1, s1, l) => match f d1 with
    | some d => some (.d d, back l s1)
    | none => none
  | none => none
theorem tx_un {o : Opd} {f : PyData → Option PyData} {σ : L2.St} {H : Hp} {Q : VK} (h : TX X.kk F M true (cUn f o) σ H Q) : tUn (R1D X.kk f) (TP X.kk F M o) σ H Q := by
  obtain ⟨g, s, x, s', r, ev, q⟩ := h
  unfold cUn at ev
  split at ev
  · rename_i d1 s1 l1 e1
    split at ev
    · rename_i d e3
      cases ev
      exact ⟨g, s, d1, s1, l1, r, e1, fun v1 g1 H1 r1 v1' rp1 L1 => ⟨g1.N, d1, d, r1.ex, rp1.v, e3, fin_op r1 L1 v1' q⟩⟩
    · cases ev
  · cases ev
def fNeg : PyData → Option PyData
  | .int i => some (.int (-i))
  | _ => none
theorem od_neg : UnR X (unaryOp .USub) (R1D X.kk fNeg) := by
  intro pins s σ H x v Q I rx ⟨N, dx, d, ex, hx, hf, q⟩
  unfold fNeg at hf
  split at hf
  · cases hf
    cases hx.int
    exact un_neg pins s σ H _ v Q I rx ⟨_, rfl, vr_val (.int _) rfl q⟩
  · cases hf
theorem sx_neg {o : Opd} (ha : PE X a (TP X.kk F M o)) : PE X (.UnaryOp .USub a pos) (TX X.kk F M true (cUn fNeg o)) := peI (pe_un od_neg ha) fun _ _ _ h => tx_un h

/-! ### comparisons of whole numbers -/
def fCmp (f : Int → Int → Bool) : PyData → PyData → Option PyData
  | .int i, .int j => some (.bool (f i j))
  | _, _ => none
theorem od_cmp {op : CmpOp} {f : Int → Int → Bool} (h : OpR X (compareOp op) (rI0 fun i j => .bl (f i j))) : OpR X (compareOp op) (R2D X.kk (fCmp f)) := by
  intro pins s σ H x y v u Q I rx ry ⟨N, dx, dy, d, ex, hx, hy, hf, q⟩
  unfold fCmp at hf
  split at hf
  · cases hf
    cases hx.int; cases hy.int
    exact h pins s σ H _ _ v u Q I rx ry ⟨_, _, rfl, rfl, vr_val (.bl _) rfl q⟩
  · cases hf
abbrev fLt := fCmp fun i j => decide (i < j)
abbrev fLe := fCmp fun i j => decide (i ≤ j)
abbrev fGt := fCmp fun i j => decide (j < i)
abbrev fGe := fCmp fun i j => decide (j ≤ i)
theorem od_lt : OpR X (compareOp .Lt) (R2D X.kk fLt) := od_cmp op_lt
theorem od_le : OpR X (compareOp .LtE) (R2D X.kk fLe) := od_cmp op_le
theorem od_gt : OpR X (compareOp .Gt) (R2D X.kk fGt) := od_cmp op_gt
theorem od_ge : OpR X (compareOp .GtE) (R2D X.kk fGe) := od_cmp op_ge

/-! ### == and != of data -/
mutual
theorem Rp.dp {K : KK} {N : Addr → Prop} {H : Hp} : ∀ {v : V} {d : PyData}, Rp K N H v d → PyData.canLay0 d = true → Dp K.k H v d
  | _, _, .non, _ => .non
  | _, _, .bl b, _ => .bl b
  | _, _, .int i, _ => .int i
  | _, _, .str x, _ => .str x
  | _, _, .lst h1 _ h3, h => .lst (.inl h1) (RpA.dp h3 (by simpa [PyData.canLay0] using h))
  | _, _, .lstK h1 h2 h3 h4, h => .lst (Lr.sq (.inr ⟨_, _, h1, h2, h3⟩)) (RpA.dp h4 (by simpa [PyData.canLay0] using h))
  | _, _, .tup h1 h2, h => .tup h1 (RpA.dp h2 (by simpa [PyData.canLay0] using h))
  | _, _, .dct .., h => by simp [PyData.canLay0] at h
theorem RpA.dp {K : KK} {N : Addr → Prop} {H : Hp} : ∀ {v : List V} {d : List PyData}, RpA K N H v d → PyData.canLayAll0 d = true → DpAll K.k H v d
  | _, _, .nil, _ => .nil
  | _, _, .cons h t, e => by
    simp only [PyData.canLayAll0, Bool.and_eq_true] at e
    exact .cons (Rp.dp h e.1) (RpA.dp t e.2)
end
theorem RpV.dp {K : KK} {N : Addr → Prop} {H : Hp} {v : V} {d : PyData} (h : RpV K N H v d) (hd : PyData.canLay0 d = true) : Dp K.k H v d := by
  rcases h with h | ⟨a, rfl, t⟩
  · exact h.dp hd
  · cases d with
    | list ds =>
      obtain ⟨xs, e, r⟩ := t
      exact .lst (.inl (.inl e)) (r.dp (by simpa [PyData.canLay0] using hd))
    | dict _ => simp [PyData.canLay0] at hd
    | _ => exact t.elim
/-- data that may be compared: no dicts, not too deep -/
abbrev shp (d : PyData) : Bool := SeqAt.shaped d
def fEq : PyData → PyData → Option PyData := fun d e => if shp d && shp e then some (.bool (PyData.eqv d e)) else none
def fNe : PyData → PyData → Option PyData := fun d e => if shp d && shp e then some (.bool (!PyData.eqv d e)) else none
theorem od_eq (hu : X.A.units + 64 < cLine) : OpR X (compareOp .Eq) (R2D X.kk fEq) := by
  intro pins s σ H x y v u Q I rx ry ⟨N, dx, dy, d, ex, hx, hy, hf, q⟩
  unfold fEq at hf
  split at hf
  · rename_i hz
    cases hf
    rw [Bool.and_eq_true] at hz
    exact op_eqD hu pins s σ H _ _ v u Q I rx ry ⟨dx, dy, hx.dp (SeqAt.canLay_of_shaped hz.1), hy.dp (SeqAt.canLay_of_shaped hz.2), hz.1, hz.2, vr_val (.bl _) rfl q⟩
  · cases hf
theorem od_ne (hu : X.A.units + 64 < cLine) : OpR X (compareOp .NotEq) (R2D X.kk fNe) := by
  intro pins s σ H x y v u Q I rx ry ⟨N, dx, dy, d, ex, hx, hy, hf, q⟩
  unfold fNe at hf
  split at hf
  · rename_i hz
    cases hf
    rw [Bool.and_eq_true] at hz
    exact op_neD hu pins s σ H _ _ v u Q I rx ry ⟨dx, dy, hx.dp (SeqAt.canLay_of_shaped hz.1), hy.dp (SeqAt.canLay_of_shaped hz.2), hz.1, hz.2, vr_val (.bl _) rfl q⟩
  · cases hf

/-! ### is None, is True -/
def isNon : PyData → Bool
  | .none => true
  | _ => false
def fIs : PyData → PyData → Option PyData
  | d, .none => some (.bool (isNon d))
  | .bool a, .bool b => some (.bool (decide (a = b)))
  | _, _ => none
def fIsNot : PyData → PyData → Option PyData
  | d, .none => some (.bool (!isNon d))
  | .bool a, .bool b => some (.bool (!decide (a = b)))
  | _, _ => none
theorem none_dec {K : KK} {N : Addr → Prop} {H : Hp} {v : V} {d : PyData} (h : RpV K N H v d) : decide (v = V.non) = isNon d := by
  cases d with
  | none => rw [h.non]; rfl
  | bool b => rw [h.bl]; rfl
  | int b => rw [h.int]; rfl
  | str b => rw [h.str]; rfl
  | list b => obtain ⟨a, xs, e, _⟩ := h.lst; rw [e]; rfl
  | tuple b => obtain ⟨a, xs, e, _⟩ := h.tup; rw [e]; rfl
  | dict b =>
    rcases h with h | ⟨a, e, _⟩
    · cases h; rfl
    · rw [e]; rfl
theorem od_is : OpR X (compareOp .Is) (R2D X.kk fIs) := by
  intro pins s σ H x y v u Q I rx ry ⟨N, dx, dy, d, ex, hx, hy, hf, q⟩
  unfold fIs at hf
  split at hf
  · cases hf
    cases hy.non
    refine op_isN pins s σ H _ _ v u Q I rx ry ⟨rfl, ?_⟩
    rw [none_dec hx]
    exact vr_val (.bl _) rfl q
  · cases hf
    cases hx.bl; cases hy.bl
    exact op_isBl pins s σ H _ _ v u Q I rx ry ⟨_, _, rfl, rfl, vr_val (.bl _) rfl q⟩
  · cases hf
theorem od_isNot : OpR X (compareOp .IsNot) (R2D X.kk fIsNot) := by
  intro pins s σ H x y v u Q I rx ry ⟨N, dx, dy, d, ex, hx, hy, hf, q⟩
  unfold fIsNot at hf
  split at hf
  · cases hf
    cases hy.non
    refine op_notN pins s σ H _ _ v u Q I rx ry ⟨rfl, ?_⟩
    rw [none_dec hx]
    exact vr_val (.bl _) rfl q
  · cases hf
    cases hx.bl; cases hy.bl
    exact op_notBl pins s σ H _ _ v u Q I rx ry ⟨_, _, rfl, rfl, vr_val (.bl _) rfl q⟩
  · cases hf
end
end Ev
/-! Ev9: sorted. -/
namespace Ev
open PySem PySem.Spec L2

section
variable {X : Cx}
/-- sorted(src), whatever src is, where its items can be collected -/
theorem sorted_gen {pins : List (Addr × Obj)} {s : Shared} {σ : L2.St} {H : Hp} {src : Value} {xs : List V} {ds : List PyData} {N : Addr → Prop} {Q : VK} (I : Inv X pins σ H s)
    (col : ∀ (R : List Value → Shared → Prop) (E : Value → Shared → Prop), (∀ h' tk vs, (∀ b o, s.heap.get? b = some o → h'.get? b = some o) → Vals xs vs → R vs { s with heap := h', toks := tk }) → wpAny (model X.prog X.w) X.A.in1 (collect src) R E s)
    (hN : ∀ a, N a → H a ≠ none) (ra : RpA X.kk N H xs ds) (hl : ds.length ≤ sizeLine) (hal : PySem.W.AllAlike ds) (hk : PySem.W.Sortable ds) (hlay : PyData.canLayAll0 ds = true) (hu : X.A.units + 70 < cLine) (hd : ∀ d, d ∈ ds → d.depth ≤ 64)
    (q : VR X.kk N H (.list (ds.mergeSort (PySem.W.dataLe false id))) Q) : wpAny (model X.prog X.w) X.A (call (.builtin "sorted") [src]) (EP X pins σ Q) X.xe s := by
  refine Calls.call_function_entry PyProof.Rows.kind_sorted PyProof.Rows.plain_sorted PyProof.Rows.entry_sorted (PyProof.Rows.args_sorted1 _) ?_
  unfold Builtin.«sorted»
  refine wpAny_bind (m := checkCount "sorted" 1 1 _) (wpAny_pure ?_)
  refine wpAny_bind (col _ _ fun h' tk vs hk' rv => ?_)
  have hlen := rv.length
  have hz : vs.length ≤ sizeLine := by rw [← hlen, ra.length]; exact hl
  have I1 : Inv X pins σ H { s with heap := h', toks := tk } := I.kept hk'
  refine wpAny_bind (wpAny_newList ?_ hz)
  have hoL : (h'.push (PyProof.Rows.seqObj "list" vs.toArray 0)).get? h'.objs.size = some (PyProof.Rows.seqObj "list" vs.toArray 0) := Heap.get?_push_size _ rfl
  show wpAny _ _ _ _ _ { s with heap := h'.push (PyProof.Rows.seqObj "list" vs.toArray 0), toks := tk }
  -- the items as data
  have reads : ∀ (s' : Shared), (∀ b o, h'.get? b = some o → s'.heap.get? b = some o) → PySem.W.EachIs (fun v d => ∃ as, Reads s'.heap v d as) vs ds := fun s' ks => by
    have go : ∀ {xs : List V} {vs : List Value} {ds : List PyData}, Vals xs vs → RpA X.kk N H xs ds → PyData.canLayAll0 ds = true → PySem.W.EachIs (fun v d => ∃ as, Reads s'.heap v d as) vs ds := by
      intro xs
      induction xs with
      | nil => intro vs ds r1 r2 _; cases r1; cases r2; exact .nil
      | cons x xs ih =>
        intro vs ds r1 r2 hc
        cases r1 with
        | cons a1 b1 =>
          cases r2 with
          | cons a2 b2 =>
            simp only [PyData.canLayAll0, Bool.and_eq_true] at hc
            obtain ⟨as, rr⟩ := Dp.reads I1 _ _ _ (a2.dp hc.1) a1
            exact .cons ⟨as, PyProof.Rows.Reads.keeps ks rr⟩ (ih b1 b2 hc.2)
    exact go rv ra hlay
  have olds : ∀ b o, h'.get? b = some o → (PySem.W.sortingHeap (h'.push (PyProof.Rows.seqObj "list" vs.toArray 0)) h'.objs.size vs).get? b = some o := fun b o e => PySem.W.sortingHeap_old (Nat.ne_of_lt (Heap.lt_size e)) (Heap.get?_push_of_some _ e)
  refine wpAny_bind (wpAny_holding (wpAny_call_entry PyProof.Rows.slot_list_sort ⟨_, hoL, rfl⟩ PyProof.Rows.entry_list_sort
    (PySem.W.list_sort_vals (s := { s with heap := h'.push (PyProof.Rows.seqObj "list" vs.toArray 0), toks := tk }) hoL
      (PySem.W.SortsAt.data (ds := ds) (s := { s with heap := PySem.W.sortingHeap (h'.push (PyProof.Rows.seqObj "list" vs.toArray 0)) h'.objs.size vs, toks := tk }) (reads _ olds) hal hk fun d h => ?_) hz ⟨_, rfl, ?_⟩)
    (PyProof.Rows.args_list_sort _)))
  · have := hd d h
    show X.A.units + 1 + 1 + d.depth < cLine
    omega
  · -- the sorted values
    have e0 : PySem.W.EachIs (fun v d => ∃ x, RelV x v ∧ Rp X.kk N H x d) vs ds := by
      have go : ∀ {xs : List V} {vs : List Value} {ds : List PyData}, Vals xs vs → RpA X.kk N H xs ds → PySem.W.EachIs (fun v d => ∃ x, RelV x v ∧ Rp X.kk N H x d) vs ds := by
        intro xs
        induction xs with
        | nil => intro vs ds r1 r2; cases r1; cases r2; exact .nil
        | cons x xs ih =>
          intro vs ds r1 r2
          cases r1 with
          | cons a1 b1 =>
            cases r2 with
            | cons a2 b2 => exact .cons ⟨x, a1, a2⟩ (ih b1 b2)
      exact go rv ra
    have e1 := PySem.W.sortVals_data (h' := (PySem.W.sortingHeap (h'.push (PyProof.Rows.seqObj "list" vs.toArray 0)) h'.objs.size vs)) (R := fun v d => ∃ x, RelV x v ∧ Rp X.kk N H x d) (enc := id) false e0
      (reads { s with heap := PySem.W.sortingHeap (h'.push (PyProof.Rows.seqObj "list" vs.toArray 0)) h'.objs.size vs, toks := tk } olds) (by rw [List.map_id]; exact hal)
    rw [List.map_id] at e1
    obtain ⟨ys, ry, rd⟩ : ∃ ys, Vals ys (PySem.W.sortVals (PySem.W.dataKind (PySem.W.sortingHeap (h'.push (PyProof.Rows.seqObj "list" vs.toArray 0)) h'.objs.size vs) ds) false vs vs) ∧ RpA X.kk N H ys (ds.mergeSort (PySem.W.dataLe false id)) := by
      have go : ∀ {vs : List Value} {ds : List PyData}, PySem.W.EachIs (fun v d => ∃ x, RelV x v ∧ Rp X.kk N H x d) vs ds → ∃ ys, Vals ys vs ∧ RpA X.kk N H ys ds := by
        intro vs
        induction vs with
        | nil => intro ds h; cases h; exact ⟨[], .nil, .nil⟩
        | cons v vs ih =>
          intro ds h
          cases h with
          | cons h t =>
            obtain ⟨x, r1, r2⟩ := h
            obtain ⟨ys, q1, q2⟩ := ih t
            exact ⟨x :: ys, .cons r1 q1, .cons r2 q2⟩
      exact go e1
    have hp : H h'.objs.size = none := I1.hok.fresh (Nat.le_refl _)
    have lenY : ys.length ≤ sizeLine := by rw [rd.length, List.length_mergeSort]; exact hl
    obtain ⟨e', he'⟩ := PyProof.Rows.sortedHeap_at (vs := vs) (out := (PySem.W.sortVals (PySem.W.dataKind (PySem.W.sortingHeap (h'.push (PyProof.Rows.seqObj "list" vs.toArray 0)) h'.objs.size vs) ds) false vs vs).toArray) hoL
    refine wpAny_pure ⟨_, rfl, .ref h'.objs.size, upd H h'.objs.size (.lst ys), I1.laid (t' := tk) (fun b u e => ?_) (Nat.le_refl _)
      (show ObjOk X.prog X.w _ _ _ (.lst ys) from ⟨lenY, _, e', ry, he'⟩), rfl, vr_lst hN rd q hp⟩
    have hb : b < h'.objs.size := Heap.lt_size e
    rw [PyProof.Rows.sortedHeap_old (Nat.ne_of_lt hb) (by rw [PyProof.Rows.size_push']; exact Nat.lt_succ_of_lt hb)]
    exact Heap.get?_push_of_some _ e
end
end Ev
namespace Ev
open PySem PySem.Spec PyProof.Rows
section
variable {prog : Program} {w : World} {A : Around} {E : Value → Shared → Prop} {s : Shared}
/-- the items of a tuple, collected -/
theorem collect_tup {l : Addr} {vs : List Value} {Q : List Value → Shared → Prop} {o : Obj} {n : Nat} (ho : s.heap.get? l = some o) (hc : o.cls = .type "tuple") (hd : o.data = .seq vs.toArray n)
    (h : Q vs { s with heap := (s.heap.push (seqObj "list" #[] 0)).update s.heap.objs.size (Obj.mapSeq (· ++ vs.toArray)) }) (hsz : vs.length ≤ sizeLine) : wpAny (model prog w) A (collect (.ref l)) Q E s := by
  have ho' : (s.heap.push (seqObj "list" #[] 0)).get? l = some o := Heap.get?_push_of_some _ ho
  have new : (s.heap.push (seqObj "list" #[] 0)).get? s.heap.objs.size = some (seqObj "list" #[] 0) := Heap.get?_push_size _ rfl
  unfold collect
  refine wpAny_bind (wpAny_runValue (codeAny_builtin entry_proto_collect' ?_))
  show wpAny _ _ (do again (.builtin "list.__iadd__" ⟨[← newList [], .ref l], []⟩)) _ _ s
  refine wpAny_bind (wpAny_newList (wpAny_pure ⟨Code.quiet_builtin _ (by decide +kernel), codeAny_builtin entry_list_iadd' ?_⟩))
  show wpAny _ _ (Builtin.List.listExtendWith (.ref s.heap.objs.size) (.ref l) (.ref s.heap.objs.size)) _ _ { s with heap := s.heap.push (seqObj "list" #[] 0) }
  unfold Builtin.List.listExtendWith
  refine wpAny_bind (wpAny_typeOf (T := "tuple") ⟨o, ho', hc⟩ ?_)
  have yes : (Value.type "tuple" == Value.type "tuple") = true := rfl
  rw [if_pos (by rw [yes]; simp)]
  refine wpAny_bind (listItems_at ho' hd ?_)
  refine wpAny_bind (listItems_at (xs := #[]) (n := 0) new rfl ?_)
  rw [if_neg (by simp)]
  refine wpAny_bind (listUpdate_at (xs := #[]) (n := 0) new rfl ?_ (Nat.zero_le _) (by show (#[] ++ vs.toArray).size ≤ sizeLine + 1; simp only [Array.size_append, List.size_toArray, List.length_nil]; omega))
  refine wpAny_pure ?_
  show wpAny (model prog w) A (do
      let o ← load s.heap.objs.size
      match o.data with
      | .seq xs _ => pure xs.toList
      | _ => unsupported "internal:collect") Q E { s with heap := (s.heap.push (seqObj "list" #[] 0)).update s.heap.objs.size (Obj.mapSeq (· ++ vs.toArray)) }
  refine wpAny_bind (wpAny_load (get?_update_seq new _) ?_)
  show wpAny _ _ (pure ((#[] : Array Value) ++ vs.toArray).toList) Q E _
  rw [show ((#[] : Array Value) ++ vs.toArray).toList = vs by simp]
  exact wpAny_pure h
end
end Ev
/-! Ev10: built-in calls, subscripts, slices, in. -/
namespace Ev
open PySem PySem.Spec L2

section
variable {X : Cx} {M : Nat → Bool} {F : Fn} {tg a b c e : Expr} {es : List Expr} {pos p p2 : Pos}
/-! ### calls -/
theorem sx_callB {id : String} {x : Str} {f : List PyData → Option PyData} {os : List Opd} (hc : CallR X (.builtin id) (RnD X.kk f)) (hg : Gl X x) (hm : X.mg x = none) (hv : bootBuiltins x = some (.builtin id)) (ha : PA X (e :: es) (TPA X.kk F M os)) (hn : x ≠ "__name__" := by decide) (hdb : (x == ("__debug__" : Str)) = false := by decide)
    (he : starEach (e :: es) X.env = (false, eval e X.env) :: starEach es X.env := by rfl) (hpl : (backTo pos (starEach es X.env)).any (·.1) = false := by rfl) : PE X (.Call (.Name x p) (e :: es) [] pos) (TX X.kk F M true (cNat f os)) :=
  peI (pe_callB hc hg hm hv ha hn hdb he hpl) fun _ _ _ h => tx_nat h
theorem sx_callT {T : String} {x : Str} {f : List PyData → Option PyData} {os : List Opd} (hc : CallR X (.type T) (RnD X.kk f)) (hg : Gl X x) (hm : X.mg x = none) (hv : bootBuiltins x = some (.type T)) (ha : PA X (e :: es) (TPA X.kk F M os)) (hn : x ≠ "__name__" := by decide) (hdb : (x == ("__debug__" : Str)) = false := by decide)
    (he : starEach (e :: es) X.env = (false, eval e X.env) :: starEach es X.env := by rfl) (hpl : (backTo pos (starEach es X.env)).any (·.1) = false := by rfl) : PE X (.Call (.Name x p) (e :: es) [] pos) (TX X.kk F M true (cNat f os)) :=
  peI (pe_callTy hc hg hm hv ha hn hdb he hpl) fun _ _ _ h => tx_nat h

theorem rp1 {K : KK} {N : Addr → Prop} {H : Hp} {vs : List V} {d : PyData} (h : Paired (RpV K N H) vs [d]) : ∃ v, vs = [v] ∧ RpV K N H v d := by
  cases h with
  | cons h t => cases t; exact ⟨_, rfl, h⟩
theorem rp2 {K : KK} {N : Addr → Prop} {H : Hp} {vs : List V} {d d' : PyData} (h : Paired (RpV K N H) vs [d, d']) : ∃ v v', vs = [v, v'] ∧ RpV K N H v d ∧ RpV K N H v' d' := by
  cases h with
  | cons h t => cases t with
    | cons h' t => cases t; exact ⟨_, _, rfl, h, h'⟩
def fLen : List PyData → Option PyData
  | [.list ds] => some (.int ds.length)
  | [.tuple ds] => some (.int ds.length)
  | [.str x] => if x.length ≤ sizeLine then some (.int x.length) else none
  | _ => none
theorem cd_len : CallR X (.builtin "len") (RnD X.kk fLen) := by
  intro pins s σ H xs us Q I r ⟨N, ds, d, ex, rp, hf, q⟩
  unfold fLen at hf
  split at hf
  · cases hf
    obtain ⟨v, rfl, h⟩ := rp1 rp
    obtain ⟨a, ls, rfl, hl, ra⟩ := h.lst
    exact call_len_seq pins s σ H _ us Q I r ⟨a, ls, rfl, .inl hl, by rw [ra.length]; exact vr_val (.int _) rfl q⟩
  · cases hf
    obtain ⟨v, rfl, h⟩ := rp1 rp
    obtain ⟨a, ls, rfl, hl, ra⟩ := h.tup
    exact call_len_seq pins s σ H _ us Q I r ⟨a, ls, rfl, .inr hl, by rw [ra.length]; exact vr_val (.int _) rfl q⟩
  · split at hf
    · rename_i hz
      cases hf
      obtain ⟨v, rfl, h⟩ := rp1 rp
      cases h.str
      exact call_len_str pins s σ H _ us Q I r ⟨_, rfl, hz, vr_val (.int _) rfl q⟩
    · cases hf
  · cases hf
def fAbs : List PyData → Option PyData
  | [.int i] => some (.int (if i < 0 then -i else i))
  | _ => none
theorem cd_abs : CallR X (.builtin "abs") (RnD X.kk fAbs) := by
  intro pins s σ H xs us Q I r ⟨N, ds, d, ex, rp, hf, q⟩
  unfold fAbs at hf
  split at hf
  · cases hf
    obtain ⟨v, rfl, h⟩ := rp1 rp
    cases h.int
    exact call_abs pins s σ H _ us Q I r ⟨_, rfl, vr_val (.int _) rfl q⟩
  · cases hf
def fInt : List PyData → Option PyData
  | [.int i] => some (.int i)
  | [.bool b] => some (.int (if b then 1 else 0))
  | _ => none
theorem cd_int : CallR X (.type "int") (RnD X.kk fInt) := by
  intro pins s σ H xs us Q I r ⟨N, ds, d, ex, rp, hf, q⟩
  unfold fInt at hf
  split at hf
  · cases hf
    obtain ⟨v, rfl, h⟩ := rp1 rp
    cases h.int
    exact call_int1 pins s σ H _ us Q I r (.inl ⟨_, rfl, vr_val (.int _) rfl q⟩)
  · cases hf
    obtain ⟨v, rfl, h⟩ := rp1 rp
    cases h.bl
    exact call_int1 pins s σ H _ us Q I r (.inr ⟨_, rfl, vr_val (.int _) rfl q⟩)
  · cases hf
def fMax2 : List PyData → Option PyData
  | [.int i, .int j] => some (.int (if j > i then j else i))
  | _ => none
theorem cd_max2 (hc : X.calm = true) : CallR X (.builtin "max") (RnD X.kk fMax2) := by
  intro pins s σ H xs us Q I r ⟨N, ds, d, ex, rp, hf, q⟩
  unfold fMax2 at hf
  split at hf
  · cases hf
    obtain ⟨v, v', rfl, h, h'⟩ := rp2 rp
    cases h.int; cases h'.int
    exact call_max2 hc pins s σ H _ us Q I r ⟨_, _, rfl, vr_val (.int _) rfl q⟩
  · cases hf
def fMin2 : List PyData → Option PyData
  | [.int i, .int j] => some (.int (if j < i then j else i))
  | _ => none
theorem cd_min2 (hc : X.calm = true) : CallR X (.builtin "min") (RnD X.kk fMin2) := by
  intro pins s σ H xs us Q I r ⟨N, ds, d, ex, rp, hf, q⟩
  unfold fMin2 at hf
  split at hf
  · cases hf
    obtain ⟨v, v', rfl, h, h'⟩ := rp2 rp
    cases h.int; cases h'.int
    exact call_min2 hc pins s σ H _ us Q I r ⟨_, _, rfl, vr_val (.int _) rfl q⟩
  · cases hf
def fList : List PyData → Option PyData
  | [.list ds] => some (.list ds)
  | [.tuple ds] => some (.list ds)
  | _ => none
theorem cd_list : CallR X (.type "list") (RnD X.kk fList) := by
  intro pins s σ H xs us Q I r ⟨N, ds, d, ex, rp, hf, q⟩
  unfold fList at hf
  split at hf
  · cases hf
    obtain ⟨v, rfl, h⟩ := rp1 rp
    obtain ⟨a, ls, rfl, hl, ra⟩ := h.lst
    exact call_list_of pins s σ H _ us Q I r ⟨a, ls, rfl, .inl hl, fun l hl => vr_lst ex ra q hl⟩
  · cases hf
    obtain ⟨v, rfl, h⟩ := rp1 rp
    obtain ⟨a, ls, rfl, hl, ra⟩ := h.tup
    exact call_list_of pins s σ H _ us Q I r ⟨a, ls, rfl, .inr hl, fun l hl => vr_lst ex ra q hl⟩
  · cases hf
def fTuple : List PyData → Option PyData
  | [.list ds] => some (.tuple ds)
  | [.tuple ds] => some (.tuple ds)
  | _ => none
theorem cd_tuple : CallR X (.type "tuple") (RnD X.kk fTuple) := by
  intro pins s σ H xs us Q I r ⟨N, ds, d, ex, rp, hf, q⟩
  unfold fTuple at hf
  split at hf
  · cases hf
    obtain ⟨v, rfl, h⟩ := rp1 rp
    obtain ⟨a, ls, rfl, hl, ra⟩ := h.lst
    exact call_tuple_of pins s σ H _ us Q I r ⟨a, ls, rfl, .inl ⟨hl, fun l hl => vr_tup ra q hl⟩⟩
  · cases hf
    obtain ⟨v, rfl, h⟩ := rp1 rp
    obtain ⟨a, ls, rfl, hl, ra⟩ := h.tup
    exact call_tuple_of pins s σ H _ us Q I r ⟨a, ls, rfl, .inr ⟨hl, vr_val (.tup hl ra) rfl q⟩⟩
  · cases hf
/-- sorted(..) -/
def isTupC : PyData → Bool
  | .tuple (_ :: _) => true
  | _ => false
def isOth : PyData → Bool
  | .none => false
  | .tuple _ => false
  | _ => true
def sortOk (ds : List PyData) : Bool := decide (ds.length ≤ sizeLine) && (ds.all fun d => ds.all fun e => PySem.W.alike d e) && (ds.all isTupC || ds.all isOth) && PyData.canLayAll0 ds && ds.all fun d => decide (d.depth ≤ 64)
def sortD (ds : List PyData) : List PyData := ds.mergeSort (PySem.W.dataLe false id)
def fSorted : List PyData → Option PyData
  | [.list ds] => if sortOk ds then some (.list (sortD ds)) else none
  | [.tuple ds] => if sortOk ds then some (.list (sortD ds)) else none
  | _ => none
theorem sortOk_facts {ds : List PyData} (h : sortOk ds = true) : ds.length ≤ sizeLine ∧ PySem.W.AllAlike ds ∧ PySem.W.Sortable ds ∧ PyData.canLayAll0 ds = true ∧ ∀ d, d ∈ ds → d.depth ≤ 64 := by
  unfold sortOk at h
  simp only [Bool.and_eq_true, Bool.or_eq_true, decide_eq_true_eq, List.all_eq_true] at h
  obtain ⟨⟨⟨⟨h1, h2⟩, h3⟩, h4⟩, h5⟩ := h
  refine ⟨h1, fun d hd d' hd' => h2 d hd d' hd', h3.imp (fun h d hd => ?_) (fun h d hd => ?_), h4, h5⟩
  · have := h d hd
    unfold isTupC at this
    split at this
    · exact ⟨_, _, rfl⟩
    · cases this
  · have := h d hd
    unfold isOth at this
    refine ⟨fun e => ?_, fun xs e => ?_⟩ <;> (subst e; cases this)
theorem cd_sorted (hu : X.A.units + 70 < cLine) : CallR X (.builtin "sorted") (RnD X.kk fSorted) := by
  intro pins s σ H xs us Q I r ⟨N, ds, d, ex, rp, hf, q⟩
  unfold fSorted at hf
  split at hf
  · split at hf
    · rename_i hz
      cases hf
      obtain ⟨h1, h2, h3, h4, h5⟩ := sortOk_facts hz
      obtain ⟨v, rfl, h⟩ := rp1 rp
      obtain ⟨a, ls, rfl, hl, ra⟩ := h.lst
      obtain ⟨u, rfl, ru⟩ := vals1 r
      cases ru
      obtain ⟨its, rv, pl, zz⟩ := I.list hl
      refine sorted_gen I (fun R E h => PyProof.Rows.collect_list pl.isList (h _ s.toks its (fun b o e => ?_) rv) (by rw [← rv.length]; exact zz)) ex ra h1 h2 h3 h4 hu h5 q
      exact (Heap.get?_update_ne _ _ _ _ (Nat.ne_of_lt (Heap.lt_size e))).trans (Heap.get?_push_of_some _ e)
    · cases hf
  · split at hf
    · rename_i hz
      cases hf
      obtain ⟨h1, h2, h3, h4, h5⟩ := sortOk_facts hz
      obtain ⟨v, rfl, h⟩ := rp1 rp
      obtain ⟨a, ls, rfl, hl, ra⟩ := h.tup
      obtain ⟨u, rfl, ru⟩ := vals1 r
      cases ru
      obtain ⟨its, rv, ⟨o, ho, hc, n, hd⟩, zz⟩ := I.tuple hl
      refine sorted_gen I (fun R E h => collect_tup ho hc hd (h _ s.toks its (fun b o e => ?_) rv) (by rw [← rv.length]; exact zz)) ex ra h1 h2 h3 h4 hu h5 q
      exact (Heap.get?_update_ne _ _ _ _ (Nat.ne_of_lt (Heap.lt_size e))).trans (Heap.get?_push_of_some _ e)
    · cases hf
  · cases hf
/-- any, all, sum of a list -/
def boolsOf : List PyData → Option (List Bool)
  | [] => some []
  | .bool b :: r => (boolsOf r).map (b :: ·)
  | _ :: _ => none
theorem boolsOf_v {K : KK} {N : Addr → Prop} {H : Hp} : ∀ {vs : List V} {ds : List PyData} {bs : List Bool}, RpA K N H vs ds → boolsOf ds = some bs → vs = bs.map V.bl
  | _, _, _, .nil, e => by cases e; rfl
  | _, .bool b :: r, bs, .cons h t, e => by
    unfold boolsOf at e
    cases e2 : boolsOf r with
    | none => rw [e2] at e; cases e
    | some bs' =>
      rw [e2] at e
      cases e
      cases h
      rw [boolsOf_v t e2]; rfl
  | _, .none :: r, bs, .cons h t, e => by cases e
  | _, .int _ :: r, bs, .cons h t, e => by cases e
  | _, .str _ :: r, bs, .cons h t, e => by cases e
  | _, .list _ :: r, bs, .cons h t, e => by cases e
  | _, .tuple _ :: r, bs, .cons h t, e => by cases e
  | _, .dict _ :: r, bs, .cons h t, e => by cases e
def intsOf : List PyData → Option (List Int)
  | [] => some []
  | .int b :: r => (intsOf r).map (b :: ·)
  | _ :: _ => none
theorem intsOf_v {K : KK} {N : Addr → Prop} {H : Hp} : ∀ {vs : List V} {ds : List PyData} {bs : List Int}, RpA K N H vs ds → intsOf ds = some bs → vs = bs.map V.int
  | _, _, _, .nil, e => by cases e; rfl
  | _, .int b :: r, bs, .cons h t, e => by
    unfold intsOf at e
    cases e2 : intsOf r with
    | none => rw [e2] at e; cases e
    | some bs' =>
      rw [e2] at e
      cases e
      cases h
      rw [intsOf_v t e2]; rfl
  | _, .none :: r, bs, .cons h t, e => by cases e
  | _, .bool _ :: r, bs, .cons h t, e => by cases e
  | _, .str _ :: r, bs, .cons h t, e => by cases e
  | _, .list _ :: r, bs, .cons h t, e => by cases e
  | _, .tuple _ :: r, bs, .cons h t, e => by cases e
  | _, .dict _ :: r, bs, .cons h t, e => by cases e
def fAny : List PyData → Option PyData
  | [.list ds] => (boolsOf ds).map fun bs => .bool (bs.any id)
  | _ => none
def fAll : List PyData → Option PyData
  | [.list ds] => (boolsOf ds).map fun bs => .bool (bs.all id)
  | _ => none
def fSum : List PyData → Option PyData
  | [.list ds] => (intsOf ds).map fun bs => .int bs.sum
  | _ => none
theorem cd_any (hc : X.calm = true) : CallR X (.builtin "any") (RnD X.kk fAny) := by
  intro pins s σ H xs us Q I r ⟨N, ds, d, ex, rp, hf, q⟩
  unfold fAny at hf
  split at hf
  · obtain ⟨bs, e1, e2⟩ := Option.map_eq_some_iff.mp hf
    subst e2
    obtain ⟨v, rfl, h⟩ := rp1 rp
    obtain ⟨a, ls, rfl, hl, ra⟩ := h.lst
    have e3 := boolsOf_v ra e1
    subst e3
    exact cr_any hc pins s σ H _ us Q I r ⟨a, bs, rfl, hl, vr_val (.bl _) rfl q⟩
  · cases hf
theorem cd_all (hc : X.calm = true) : CallR X (.builtin "all") (RnD X.kk fAll) := by
  intro pins s σ H xs us Q I r ⟨N, ds, d, ex, rp, hf, q⟩
  unfold fAll at hf
  split at hf
  · obtain ⟨bs, e1, e2⟩ := Option.map_eq_some_iff.mp hf
    subst e2
    obtain ⟨v, rfl, h⟩ := rp1 rp
    obtain ⟨a, ls, rfl, hl, ra⟩ := h.lst
    have e3 := boolsOf_v ra e1
    subst e3
    exact cr_all hc pins s σ H _ us Q I r ⟨a, bs, rfl, hl, vr_val (.bl _) rfl q⟩
  · cases hf
theorem cd_sum (hc : X.calm = true) : CallR X (.builtin "sum") (RnD X.kk fSum) := by
  intro pins s σ H xs us Q I r ⟨N, ds, d, ex, rp, hf, q⟩
  unfold fSum at hf
  split at hf
  · obtain ⟨bs, e1, e2⟩ := Option.map_eq_some_iff.mp hf
    subst e2
    obtain ⟨v, rfl, h⟩ := rp1 rp
    obtain ⟨a, ls, rfl, hl, ra⟩ := h.lst
    have e3 := intsOf_v ra e1
    subst e3
    exact cr_sum hc pins s σ H _ us Q I r ⟨a, bs, rfl, hl, vr_val (.int _) rfl q⟩
  · cases hf

/-! ### subscripts -/
def fIx : PyData → PyData → Option PyData
  | .list ds, .int i => atI ds i
  | .tuple ds, .int i => atI ds i
  | _, _ => none
theorem VR.at {K : KK} {N : Addr → Prop} {H : Hp} {v : V} {d : PyData} {Q : VK} (r : Rp K N H v d) (h : ∀ v H', Same H H' → Rp K N H' v d → Q v H') : Q v H := h v H (fun _ _ e => e) r
theorem RpA.atI {K : KK} {N : Addr → Prop} {H : Hp} {vs : List V} {ds : List PyData} {i : Int} {d : PyData} (h : RpA K N H vs ds) (e : L2.atI ds i = some d) : ∃ v, L2.atI vs i = some v ∧ Rp K N H v d := by
  unfold L2.atI at e ⊢
  rw [h.length]
  cases e2 : ixN ds.length i with
  | none => rw [e2] at e; cases e
  | some j =>
    rw [e2] at e
    exact h.get (show ds[j]? = some d from e)
/-- an item: it is not new -/
def R2P (K : KK) (f : PyData → PyData → Option PyData) : R2 := fun x y H Q => ∃ N dx dy d, (∀ a, N a → H a ≠ none) ∧ RpV K N H x dx ∧ RpV K N H y dy ∧ f dx dy = some d ∧ ∀ v H', Same H H' → Rp K N H' v d → Q v H'
theorem tx_binP {oa ob : Opd} {f : PyData → PyData → Option PyData} {σ : L2.St} {H : Hp} {Q : VK} (h : TX X.kk F M false (cBin f oa ob) σ H Q) : tOp (R2P X.kk f) (TP X.kk F M oa) (TP X.kk F M ob) σ H Q := by
  obtain ⟨g, s, x, s', r, ev, q⟩ := h
  unfold cBin at ev
  split at ev
  · rename_i d1 s1 l1 e1
    split at ev
    · rename_i d2 s2 l2 e2
      split at ev
      · rename_i d e3
        cases ev
        refine ⟨g, s, d1, s1, l1, r, e1, fun v1 g1 H1 r1 v1' rp1 L1 => ⟨g1, s1, d2, s2, l2, r1, e2, fun v2 g2 H2 r2 v2' rp2 L2 => ?_⟩⟩
        refine ⟨g2.N, d1, d2, d, r2.ex, (rp1.move v2' r1.wn).v, rp2.v, e3, fun v H' k rp => ?_⟩
        obtain ⟨g3, r3, e3', n3, _⟩ := (L1.trans v2'.grow L2) g2 s2 H' (r2.same k) (Evo.same k)
        exact q v g3 H' r3 e3' (Rp.forbid (fun a h => .inl (n3 a h)) rp) fun z => nomatch z
      · cases ev
    · cases ev
  · cases ev
theorem id_ix : IxR X (R2P X.kk fIx) := by
  have lst : IxR X (fun x y H Q => ∃ N dx dy d, (∀ a, N a → H a ≠ none) ∧ RpV X.kk N H x (.list dx) ∧ RpV X.kk N H y (.int dy) ∧ atI dx dy = some d ∧ ∀ v H', Same H H' → Rp X.kk N H' v d → Q v H') := by
    intro va sl pins s σ H x y v u Q I rx ry ⟨N, dx, dy, d, ex, hx, hy, hf, q⟩ hs
    obtain ⟨a, ls, rfl, hl, ra⟩ := hx.lst
    cases hy.int
    obtain ⟨w, ew, rw⟩ := ra.atI hf
    exact ix_list va sl pins s σ H _ _ v u Q I rx ry ⟨a, ls, _, w, rfl, rfl, hl, ew, VR.at rw q⟩ hs
  have tup : IxR X (fun x y H Q => ∃ N dx dy d, (∀ a, N a → H a ≠ none) ∧ RpV X.kk N H x (.tuple dx) ∧ RpV X.kk N H y (.int dy) ∧ atI dx dy = some d ∧ ∀ v H', Same H H' → Rp X.kk N H' v d → Q v H') := by
    intro va sl pins s σ H x y v u Q I rx ry ⟨N, dx, dy, d, ex, hx, hy, hf, q⟩ hs
    obtain ⟨a, ls, rfl, hl, ra⟩ := hx.tup
    cases hy.int
    obtain ⟨w, ew, rw⟩ := ra.atI hf
    exact ix_tup va sl pins s σ H _ _ v u Q I rx ry ⟨a, ls, _, w, rfl, rfl, hl, ew, VR.at rw q⟩ hs
  intro va sl pins s σ H x y v u Q I rx ry ⟨N, dx, dy, d, ex, hx, hy, hf, q⟩ hs
  unfold fIx at hf
  split at hf
  · exact lst va sl pins s σ H x y v u Q I rx ry ⟨N, _, _, d, ex, hx, hy, hf, q⟩ hs
  · exact tup va sl pins s σ H x y v u Q I rx ry ⟨N, _, _, d, ex, hx, hy, hf, q⟩ hs
  · cases hf
theorem sx_ixP {oa ob : Opd} {f : PyData → PyData → Option PyData} (ho : IxR X (R2P X.kk f)) (ha : PE X a (TP X.kk F M oa)) (hb : PE X b (TP X.kk F M ob)) (hs : PlainIx b) : PE X (.Subscript a b pos) (TX X.kk F M false (cBin f oa ob)) :=
  peI (pe_ix ho ha hb hs) fun _ _ _ h => tx_binP h

/-! ### slices -/
/-- a part of a slice -/
def evPart (o : Option Opd) : Fn → S → Option (Option Int × S × List (Nat × PyData)) := fun F s => match o with
  | none => some (none, s, [])
  | some o => match o.ev F s with
    | some (.int i, s', l) => some (some i, s', l)
    | _ => none
def TPO (K : KK) (F : Fn) (M : Nat → Bool) (o : Option Opd) : TO := fun σ H Q => ∃ g s i s' l, Rel K M g s σ H ∧ evPart o F s = some (i, s', l) ∧
  ∀ g' H', Rel K M g' s' σ H' → Evo g g' H H' → Lent K M σ g H l g' H' → Q i H'
theorem poI {e : Option Expr} {t t' : TO} (h : PO X e t) (hi : ∀ σ H Q, t' σ H Q → t σ H Q) : PO X e t' := ⟨fun pins s σ H Q I q => h.run pins s σ H Q I (hi _ _ _ q)⟩
theorem op_none : PO X none (TPO X.kk F M none) := poI po_none fun σ H Q ⟨g, s, i, s', l, r, e, q⟩ => by
  cases e
  exact q g H r Evo.refl (Lent.nil Evo.refl)
theorem op_some {o : Opd} (h : PE X e (TP X.kk F M o)) : PO X (some e) (TPO X.kk F M (some o)) := poI (po_some h) fun σ H Q ⟨g, s, i, s', l, r, ev, q⟩ => by
  unfold evPart at ev
  simp only at ev
  split at ev
  · rename_i i' s1 l1 e1
    cases ev
    refine ⟨g, s, _, s', l, r, e1, fun v g1 H1 r1 v1 rp L => ⟨i', rp.v.int, q g1 H1 r1 v1 L⟩⟩
  · cases ev
def cutD (xs : List PyData) (lo hi : Option Int) : List PyData := (xs.drop (HT.sIx xs.length 0 lo)).take (HT.sIx xs.length xs.length hi - HT.sIx xs.length 0 lo)
def fCut (d : PyData) (lo hi : Option Int) : Option PyData := match d with
  | .list ds => some (.list (cutD ds lo hi))
  | .tuple ds => some (.tuple (cutD ds lo hi))
  | _ => none
def cCut (o : Opd) (lo hi : Option Opd) : CE := fun F s => match o.ev F s with
  | some (d, s1, l1) => match evPart lo F s1 with
    | some (i, s2, l2) => match evPart hi F s2 with
      | some (j, s3, l3) => match fCut d i j with
        | some d' => some (.d d', back (l1 ++ (l2 ++ l3)) s3)
        | none => none
      | none => none
    | none => none
  | none => none
def rCut (K : KK) : V → Option Int → Option Int → Hp → VK → Prop := fun x lo hi H Q => ∃ N dx d, (∀ a, N a → H a ≠ none) ∧ RpV K N H x dx ∧ fCut dx lo hi = some d ∧ VR K N H d Q
theorem RpA.cut {K : KK} {N : Addr → Prop} {H : Hp} {vs : List V} {ds : List PyData} (h : RpA K N H vs ds) (lo hi : Option Int) : RpA K N H (cutV vs lo hi) (cutD ds lo hi) := by
  unfold cutV cutD
  rw [h.length]
  exact (h.drop _).take _
theorem cutD_whole {ds : List PyData} {lo hi : Option Int} (h : HT.sIx ds.length 0 lo = 0 ∧ HT.sIx ds.length ds.length hi = ds.length) : cutD ds lo hi = ds := by
  unfold cutD
  rw [h.1, h.2]
  simp
theorem sd_cut : SlR X (rCut X.kk) := by
  have lst : SlR X (fun x lo hi H Q => ∃ N dx, (∀ a, N a → H a ≠ none) ∧ RpV X.kk N H x (.list dx) ∧ VR X.kk N H (.list (cutD dx lo hi)) Q) := by
    intro pins s σ H x v vl vu lo hi sl Q I rx hs pl pu ⟨N, dx, ex, hx, q⟩
    obtain ⟨a, ls, rfl, hl, ra⟩ := hx.lst
    exact sl_list pins s σ H _ v vl vu lo hi sl Q I rx hs pl pu ⟨a, ls, rfl, hl, fun p hp => vr_lst ex (ra.cut lo hi) q hp⟩
  have tup : SlR X (fun x lo hi H Q => ∃ N dx, (∀ a, N a → H a ≠ none) ∧ RpV X.kk N H x (.tuple dx) ∧ VR X.kk N H (.tuple (cutD dx lo hi)) Q) := by
    intro pins s σ H x v vl vu lo hi sl Q I rx hs pl pu ⟨N, dx, ex, hx, q⟩
    obtain ⟨a, ls, rfl, hl, ra⟩ := hx.tup
    refine sl_tupA pins s σ H _ v vl vu lo hi sl Q I rx hs pl pu ⟨a, ls, rfl, hl, fun w => ?_, fun _ p hp => vr_tup (ra.cut lo hi) q hp⟩
    rw [ra.length] at w
    rw [cutD_whole w] at q
    exact vr_val (.tup hl ra) rfl q
  intro pins s σ H x v vl vu lo hi sl Q I rx hs pl pu ⟨N, dx, d, ex, hx, hf, q⟩
  unfold fCut at hf
  split at hf
  · cases hf; exact lst pins s σ H x v vl vu lo hi sl Q I rx hs pl pu ⟨N, _, ex, hx, q⟩
  · cases hf; exact tup pins s σ H x v vl vu lo hi sl Q I rx hs pl pu ⟨N, _, ex, hx, q⟩
  · cases hf
theorem sx_cut {o : Opd} {ol oh : Option Opd} {lo hi : Option Expr} (he : PE X e (TP X.kk F M o)) (hl : PO X lo (TPO X.kk F M ol)) (hh : PO X hi (TPO X.kk F M oh)) : PE X (.Subscript e (.Slice lo hi none p2) pos) (TX X.kk F M true (cCut o ol oh)) :=
  peI (pe_slice sd_cut he hl hh) fun σ H Q ⟨g, s, x, s', r, ev, q⟩ => by
    unfold cCut at ev
    split at ev
    · rename_i d1 s1 l1 e1
      split at ev
      · rename_i i s2 l2 e2
        split at ev
        · rename_i j s3 l3 e3
          split at ev
          · rename_i d e4
            cases ev
            refine ⟨g, s, d1, s1, l1, r, e1, fun v g1 H1 r1 v1 rp L1 => ⟨g1, s1, i, s2, l2, r1, e2, fun g2 H2 r2 v2 L2 => ⟨g2, s2, j, s3, l3, r2, e3, fun g3 H3 r3 v3 L3 => ?_⟩⟩⟩
            exact ⟨g3.N, d1, d, r3.ex, ((rp.move v2 r1.wn).move v3 r2.wn).v, e4, fin_op r3 (L1.trans (fun a h => v3.grow a (v2.grow a h)) (L2.trans v3.grow L3)) ((v1.trans v2).trans v3) q⟩
          · cases ev
        · cases ev
      · cases ev
    · cases ev
/-- xs[::-1] of a list -/
def fRev : PyData → Option PyData
  | .list ds => some (.list ds.reverse)
  | _ => none
theorem sx_rev {o : Opd} {k : Nat} {p1 p3 : Pos} (he : PE X e (TP X.kk F M o)) : PE X (.Subscript e (.Slice none none (some (.UnaryOp .USub (.Constant (.int 1) k p1) p2)) p3) pos) (TX X.kk F M true (cUn fRev o)) := peI (pe_revL he) fun σ H Q h => by
  obtain ⟨g, s, d, s', l, r, ev, q⟩ := tx_un h
  refine ⟨g, s, d, s', l, r, ev, fun v g1 H1 r1 v1 rp L => ?_⟩
  obtain ⟨N, dx, d', ex, rp', hf, q'⟩ := q v g1 H1 r1 v1 rp L
  unfold fRev at hf
  split at hf
  · cases hf
    obtain ⟨a, ls, rfl, hl, ra⟩ := rp'.lst
    exact ⟨a, ls, rfl, hl, fun p hp => vr_lst ex ra.reverse q' hp⟩
  · cases hf

/-! ### in, not in, of lists and tuples -/
def fIn (n : Bool) : PyData → PyData → Option PyData := fun d c => match itemsOf c with
  | some ds => if shp d && PyData.canLayAll0 ds then some (.bool (xor n (ds.any fun y => PyData.eqv y d))) else none
  | none => none
theorem fIn_facts {n : Bool} {d c d' : PyData} (h : fIn n d c = some d') : ∃ ds, itemsOf c = some ds ∧ shp d = true ∧ PyData.canLayAll0 ds = true ∧ d' = .bool (xor n (ds.any fun y => PyData.eqv y d)) := by
  unfold fIn at h
  split at h
  · rename_i ds e
    split at h
    · rename_i hz
      rw [Bool.and_eq_true] at hz
      cases h
      exact ⟨ds, e, hz.1, hz.2, rfl⟩
    · cases h
  · cases h
theorem itemsOf_cases {c : PyData} {ds : List PyData} (h : itemsOf c = some ds) : c = .list ds ∨ c = .tuple ds := by
  unfold itemsOf at h
  split at h <;> cases h
  · exact .inl rfl
  · exact .inr rfl
theorem od_in (hu : X.A.units + 65 < cLine) : OpR X (compareOp .In) (R2D X.kk (fIn false)) := by
  intro pins s σ H x y v u Q I rx ry ⟨N, dx, dy, d, ex, hx, hy, hf, q⟩
  obtain ⟨ds, e, h1, h2, rfl⟩ := fIn_facts hf
  obtain ⟨as, r1⟩ := Dp.reads I dx x v (hx.dp (SeqAt.canLay_of_shaped h1)) rx
  have q' : Q (.bl (ds.any fun y => PyData.eqv y dx)) H := vr_val (.bl _) rfl (by simpa using q)
  rcases itemsOf_cases e with rfl | rfl
  · obtain ⟨bs, r2⟩ := Dp.reads I _ y u (hy.dp (by simpa [PyData.canLay0] using h2)) ry
    exact SeqAt.in_list_reads r2 r1 h2 (SeqAt.canLay_of_shaped h1) (PyProof.Rows.room_in_shaped h1 hu) ⟨.bl _, H, I, rfl, q'⟩
  · obtain ⟨bs, r2⟩ := Dp.reads I _ y u (hy.dp (by simpa [PyData.canLay0] using h2)) ry
    exact SeqAt.in_tuple_reads r2 r1 h2 (SeqAt.canLay_of_shaped h1) (PyProof.Rows.room_in_shaped h1 hu) ⟨.bl _, H, I, rfl, q'⟩
theorem od_notIn (hu : X.A.units + 65 < cLine) : OpR X (compareOp .NotIn) (R2D X.kk (fIn true)) := by
  intro pins s σ H x y v u Q I rx ry ⟨N, dx, dy, d, ex, hx, hy, hf, q⟩
  obtain ⟨ds, e, h1, h2, rfl⟩ := fIn_facts hf
  obtain ⟨as, r1⟩ := Dp.reads I dx x v (hx.dp (SeqAt.canLay_of_shaped h1)) rx
  have q' : Q (.bl (!ds.any fun y => PyData.eqv y dx)) H := vr_val (.bl _) rfl (by simpa using q)
  rcases itemsOf_cases e with rfl | rfl
  · obtain ⟨bs, r2⟩ := Dp.reads I _ y u (hy.dp (by simpa [PyData.canLay0] using h2)) ry
    exact SeqAt.notIn_list_reads r2 r1 h2 (SeqAt.canLay_of_shaped h1) (PyProof.Rows.room_in_shaped h1 hu) ⟨.bl _, H, I, rfl, q'⟩
  · obtain ⟨bs, r2⟩ := Dp.reads I _ y u (hy.dp (by simpa [PyData.canLay0] using h2)) ry
    exact SeqAt.notIn_tuple_reads r2 r1 h2 (SeqAt.canLay_of_shaped h1) (PyProof.Rows.room_in_shaped h1 hu) ⟨.bl _, H, I, rfl, q'⟩
end
end Ev
/-! Ev11: methods that change a list of one's own. -/
namespace Ev
open PySem PySem.Spec L2

section
variable {K : KK} {M : Nat → Bool} {F : Fn} {g g' : G} {s s' : S} {σ : L2.St} {H H' : Hp}
/-- may it be overwritten: it is no tuple, nothing locked -/
def Plain0 : HO → Prop
  | .lst _ => True
  | .dK _ => True
  | .ext _ => True
  | _ => False
theorem Top.plain {N : Addr → Prop} {a : Addr} {d : PyData} (h : Top K N H a d) : ∃ o, H a = some o ∧ Plain0 o := by
  cases d with
  | list ds => obtain ⟨xs, e, _⟩ := h; exact ⟨_, e, trivial⟩
  | dict kvs =>
    obtain ⟨o, kv, vv, kds, vds, rfl, e, ho, _⟩ := h
    refine ⟨o, e, ?_⟩
    cases ho <;> exact trivial
  | _ => exact h.elim
theorem upd_keep {N : Addr → Prop} {p : Addr} {o o' : HO} (hp : N p) : ∀ a u, H a = some u → ¬ N a → upd H p o' a = some u := fun a u e hn => by
  rw [upd_ne (fun z => hn (by rw [z]; exact hp))]; exact e
theorem upd_tup {p : Addr} {o o' : HO} (e : H p = some o) (ho : Plain0 o) : ∀ a xs, H a = some (.tup xs) → upd H p o' a = some (.tup xs) := fun a xs h => by
  rw [upd_ne (fun z => by rw [z, e] at h; cases h; exact ho)]; exact h
theorem upd_frz {p : Addr} {o o' : HO} (e : H p = some o) (ho : Plain0 o) : ∀ a ob u, H a = some (.frz ob u) → upd H p o' a = some (.frz ob u) := fun a ob u h => by
  rw [upd_ne (fun z => by rw [z, e] at h; cases h; exact ho)]; exact h
theorem RpA.upd {N : Addr → Prop} {p : Addr} {o o' : HO} (hp : N p) (e : H p = some o) (ho : Plain0 o) {vs : List V} {ds : List PyData} (h : RpA K N H vs ds) : RpA K N (upd H p o') vs ds :=
  h.move (upd_keep (o := o) hp) (fun _ _ => seq_keep (upd_tup e ho) (upd_frz e ho)) fun _ z => .inl z
theorem Rp.upd {N : Addr → Prop} {p : Addr} {o o' : HO} (hp : N p) (e : H p = some o) (ho : Plain0 o) {vs : V} {ds : PyData} (h : Rp K N H vs ds) : Rp K N (upd H p o') vs ds :=
  h.move (upd_keep (o := o) hp) (fun _ _ => seq_keep (upd_tup e ho) (upd_frz e ho)) fun _ z => .inl z
theorem Top.upd {N : Addr → Prop} {p a : Addr} {o o' : HO} (hp : N p) (e : H p = some o) (ho : Plain0 o) (ha : a ≠ p) {d : PyData} (h : Top K N H a d) : Top K N (upd H p o') a d :=
  h.move (upd_ne ha) (upd_keep (o := o) hp) (fun _ _ => seq_keep (upd_tup e ho) (upd_frz e ho)) fun _ z => .inl z
theorem SrcOk.upd {SA CA : Addr → Prop} {p : Addr} {o' : HO} (hs : ¬ SA p) (hc : ¬ CA p) {x : Option Src} (h : SrcOk SA CA H x) : SrcOk SA CA (upd H p o') x := by
  cases x with
  | none => exact h
  | some s =>
    obtain ⟨a, c, h1, h2, h3, h4, h5⟩ := h
    exact ⟨a, c, h1, h2, h3, by rw [upd_ne (fun z => hs ((h1 p).mpr z.symm))]; exact h4, by rw [upd_ne (fun z => hc ((h2 p).mpr z.symm))]; exact h5⟩
/-- an owned slot's thing is changed -/
theorem Rel.owned {i : Nat} {d : PyData} (r : Rel K M g s σ H) (e : s.env[i]? = some (some (.d d))) (hm : M i = true ∧ isM d = true) :
    ∃ p, σ[i]? = some (some (.ref p)) ∧ g.P i = some p ∧ Top K g.N H p d ∧ ∀ o' d', Top K g.N (upd H p o') p d' → Rel K M g { s with env := s.env.set i (some (.d d')) } σ (upd H p o') ∧ Evo g g H (upd H p o') := by
  obtain ⟨v, ev, hs⟩ := r.slot i _ e
  obtain ⟨p, rfl, hp, t⟩ := hs.1 hm
  obtain ⟨o, eo, ho⟩ := t.plain
  have hN : g.N p := .inr ⟨i, hp⟩
  have nS : ¬ (g.SA p ∨ g.CA p) := fun z => r.sep i p hp (r.srN p z)
  refine ⟨p, ev, hp, t, fun o' d' t' => ⟨⟨fun j x ej => ?_, r.inj, r.sep, fun a h => ?_, r.srN, r.src.upd (fun z => nS (.inl z)) (fun z => nS (.inr z)), ?_⟩, ?_⟩⟩
  · rcases get_set ej with ⟨h0, z, hi⟩ | ⟨hne, ej⟩
    · subst h0
      cases z
      exact ⟨_, ev, fun _ => ⟨p, rfl, hp, t'⟩, fun c => absurd ⟨hm.1, t'.isM⟩ c⟩
    · obtain ⟨v, h1, h2⟩ := r.slot j x ej
      refine ⟨v, h1, ?_⟩
      cases x with
      | d d2 => exact ⟨fun c => let ⟨b, e1, q, t2⟩ := h2.1 c; ⟨b, e1, q, t2.upd hN eo ho fun z => hne (r.inj i j p hp (by rw [← z]; exact q))⟩, fun c => (h2.2 c).upd hN eo ho⟩
      | z d => exact Rp.upd hN eo ho h2
      | src => exact h2
      | srcc => exact h2
  · by_cases z : a = p
    · rw [z, upd_same]; simp
    · rw [upd_ne z]; exact r.ex a h
  · rw [env_set_len]; exact r.len
  · refine ⟨fun _ h => .inl h, fun _ h => .inl h, fun _ h => h, fun _ h => h, fun _ h => h, fun a u h hw => ?_, upd_tup eo ho, upd_frz eo ho, fun a h => ?_, fun _ h => .inl h⟩
    · rw [upd_ne (fun z => hw (by rw [z]; exact .inl ⟨i, hp⟩))]; exact h
    · by_cases z : a = p
      · rw [z, upd_same]; simp
      · rw [upd_ne z]; exact h
theorem top_list {p : Addr} {N : Addr → Prop} {o : HO} {ys : List V} {ds : List PyData} (hp : N p) (e : H p = some o) (ho : Plain0 o) (r : RpA K N H ys ds) : Top K N (upd H p (.lst ys)) p (.list ds) := ⟨ys, upd_same, r.upd hp e ho⟩
end

section
variable {X : Cx} {M : Nat → Bool} {F : Fn} {a b c e : Expr} {es : List Expr} {pos p apos cpos : Pos} {x : Str} {i : Nat}
/-- x.append(e) -/
def cAppend (i : Nat) (c : CE) : CE := fun F s => match s.env[i]? with
  | some (some (.d (.list _))) => match c F s with
    | some (.d y, s1) => match s1.env[i]? with
      | some (some (.d (.list ds))) => if ds.length < sizeLine then some (.d .none, { s1 with env := s1.env.set i (some (.d (.list (ds ++ [y])))) }) else none
      | _ => none
    | _ => none
  | _ => none
theorem slot_list {K : KK} {g : G} {s : S} {σ : L2.St} {H : Hp} {ds : List PyData} (r : Rel K M g s σ H) (e : s.env[i]? = some (some (.d (.list ds)))) (hm : M i = true) : ∃ l xs, σ[i]? = some (some (.ref l)) ∧ g.P i = some l ∧ H l = some (.lst xs) ∧ RpA K g.N H xs ds ∧
    ∀ o' d', Top K g.N (upd H l o') l d' → Rel K M g { s with env := s.env.set i (some (.d d')) } σ (upd H l o') ∧ Evo g g H (upd H l o') := by
  obtain ⟨l, ev, hp, ⟨xs, ex, ra⟩, w⟩ := r.owned e ⟨hm, rfl⟩
  exact ⟨l, xs, ev, hp, ex, ra, w⟩
theorem sx_append {ce : CE} {fr : Bool} (hN : X.N[i]? = some x) (hv : Vis X.env.scope x) (hm : M i = true) (ha : PE X e (TX X.kk F M fr ce)) (hd : (x == ("__debug__" : Str)) = false := by decide) (hcd : (x == ("__classdict__" : Str)) = false := by decide)
    (hbase : attributeBase (.Name x p) "append" X.env (eval (.Name x p) X.env) = eval (.Name x p) X.env := by rfl)
    (hfew : ((backTo cpos (starEach [e] X.env)).all (fun x => !x.1) && (backToKw cpos (keywordEach [] X.env)).all (fun x => x.1.isSome) && decide (([e] : List Expr).length + ([] : List Keyword).length + (if ([] : List Keyword).isEmpty then 0 else 1) < 30)) = true := by rfl)
    (hline : (apos.endLine == cpos.line) = true := by rfl) (hs : starEach [e] X.env = (false, eval e X.env) :: starEach [] X.env := by rfl) (hpl : (backTo cpos (starEach [] X.env)).any (·.1) = false := by rfl) :
    PE X (.Call (.Attribute (.Name x p) "append" apos) [e] [] cpos) (TX X.kk F M true (cAppend i ce)) :=
  peI (pe_bm PySem.F.plainAttrs_list PySem.F.slot_list_append PySem.F.type_list_append mt_append (pe_var hN hv hd hcd) (pa_cons ha pa_nil hs) hbase hfew hline hs hpl) fun σ H Q ⟨g, s, y, s', r, ev, q⟩ => by
    unfold cAppend at ev
    split at ev
    · rename_i ds0 e0
      split at ev
      · rename_i y s1 e1
        split at ev
        · rename_i ds e2
          split at ev
          · rename_i hz
            cases ev
            obtain ⟨l0, xs0, ev0, hp0, hl0, ra0, _⟩ := slot_list r e0 hm
            refine ⟨_, ev0, .inl ⟨rfl, xs0, .inl (.inl hl0)⟩, g, s, .d y, s1, r, e1, fun v g1 H1 r1 v1 rp _ => ?_⟩
            obtain ⟨l, xs, ev1, hp, hl, ra, w⟩ := slot_list r1 e2 hm
            rw [ev0] at ev1
            cases ev1
            have t := top_list (.inr ⟨i, hp⟩) hl trivial (ra.append (.cons rp .nil))
            obtain ⟨r2, v2⟩ := w (.lst (xs ++ [v])) _ t
            exact ⟨l0, xs, v, rfl, rfl, hl, by rw [ra.length]; exact hz, q .non g1 _ r2 (v1.trans v2) .non fun _ d' e' h => by cases e'; cases h⟩
          · cases ev
        · cases ev
      · cases ev
    · cases ev
/-- x.pop(): the last -/
def cPop (i : Nat) : CE := fun F s => match s.env[i]? with
  | some (some (.d (.list ds))) => match ds[ds.length - 1]? with
    | some y => some (.d y, { s with env := s.env.set i (some (.d (.list ds.dropLast))) })
    | none => none
  | _ => none
theorem RpA.dropLast {K : KK} {N : Addr → Prop} {H : Hp} {xs : List V} {ds : List PyData} (h : RpA K N H xs ds) : RpA K N H xs.dropLast ds.dropLast := by
  rw [List.dropLast_eq_take, List.dropLast_eq_take, h.length]
  exact h.take _
theorem sx_pop (hN : X.N[i]? = some x) (hv : Vis X.env.scope x) (hm : M i = true) (hd : (x == ("__debug__" : Str)) = false := by decide) (hcd : (x == ("__classdict__" : Str)) = false := by decide)
    (hbase : attributeBase (.Name x p) "pop" X.env (eval (.Name x p) X.env) = eval (.Name x p) X.env := by rfl) (hline : (apos.endLine == cpos.line) = true := by rfl) :
    PE X (.Call (.Attribute (.Name x p) "pop" apos) [] [] cpos) (TX X.kk F M false (cPop i)) :=
  peI (pe_bm0 PySem.F.plainAttrs_list PySem.F.slot_list_pop PySem.F.type_list_pop mt_pop (pe_var hN hv hd hcd) hbase hline) fun σ H Q ⟨g, s, y, s', r, ev, q⟩ => by
    unfold cPop at ev
    split at ev
    · rename_i ds e0
      split at ev
      · rename_i y e1
        cases ev
        obtain ⟨l, xs, ev0, hp, hl, ra, w⟩ := slot_list r e0 hm
        obtain ⟨v, e2, rv⟩ := ra.get e1
        have t := top_list (.inr ⟨i, hp⟩) hl trivial ra.dropLast
        obtain ⟨r2, v2⟩ := w (.lst xs.dropLast) _ t
        refine ⟨_, ev0, .inl ⟨rfl, xs, .inl (.inl hl)⟩, l, xs, v, rfl, rfl, hl, by rw [ra.length]; exact e2, q v g _ r2 v2 (rv.upd (.inr ⟨i, hp⟩) hl trivial) fun z => nomatch z⟩
      · cases ev
    · cases ev
/-- x.pop(k) -/
def cPopAt (i : Nat) (c : CE) : CE := fun F s => match s.env[i]? with
  | some (some (.d (.list _))) => match c F s with
    | some (.d (.int k), s1) => match s1.env[i]? with
      | some (some (.d (.list ds))) => if small63 k then match seqIndex? k ds.length with
        | some j => match ds[j]? with
          | some y => some (.d y, { s1 with env := s1.env.set i (some (.d (.list (ds.eraseIdx j)))) })
          | none => none
        | none => none
        else none
      | _ => none
    | _ => none
  | _ => none
theorem sx_popAt {ce : CE} {fr : Bool} (hN : X.N[i]? = some x) (hv : Vis X.env.scope x) (hm : M i = true) (ha : PE X e (TX X.kk F M fr ce)) (hd : (x == ("__debug__" : Str)) = false := by decide) (hcd : (x == ("__classdict__" : Str)) = false := by decide)
    (hbase : attributeBase (.Name x p) "pop" X.env (eval (.Name x p) X.env) = eval (.Name x p) X.env := by rfl)
    (hfew : ((backTo cpos (starEach [e] X.env)).all (fun x => !x.1) && (backToKw cpos (keywordEach [] X.env)).all (fun x => x.1.isSome) && decide (([e] : List Expr).length + ([] : List Keyword).length + (if ([] : List Keyword).isEmpty then 0 else 1) < 30)) = true := by rfl)
    (hline : (apos.endLine == cpos.line) = true := by rfl) (hs : starEach [e] X.env = (false, eval e X.env) :: starEach [] X.env := by rfl) (hpl : (backTo cpos (starEach [] X.env)).any (·.1) = false := by rfl) :
    PE X (.Call (.Attribute (.Name x p) "pop" apos) [e] [] cpos) (TX X.kk F M false (cPopAt i ce)) :=
  peI (pe_bm PySem.F.plainAttrs_list PySem.F.slot_list_pop PySem.F.type_list_pop mt_popAt (pe_var hN hv hd hcd) (pa_cons ha pa_nil hs) hbase hfew hline hs hpl) fun σ H Q ⟨g, s, y, s', r, ev, q⟩ => by
    unfold cPopAt at ev
    split at ev
    · rename_i ds0 e0
      split at ev
      · rename_i k s1 e1
        split at ev
        · rename_i ds e2
          split at ev
          · rename_i hz
            split at ev
            · rename_i j e3
              split at ev
              · rename_i y e4
                cases ev
                obtain ⟨l0, xs0, ev0, hp0, hl0, ra0, _⟩ := slot_list r e0 hm
                refine ⟨_, ev0, .inl ⟨rfl, xs0, .inl (.inl hl0)⟩, g, s, .d (.int k), s1, r, e1, fun v g1 H1 r1 v1 rp _ => ?_⟩
                obtain ⟨l, xs, ev1, hp, hl, ra, w⟩ := slot_list r1 e2 hm
                rw [ev0] at ev1
                cases ev1
                have ek : v = .int k := by cases rp; rfl
                subst ek
                obtain ⟨v, e5, rv⟩ := ra.get e4
                have t := top_list (.inr ⟨i, hp⟩) hl trivial (ra.eraseIdx j)
                obtain ⟨r2, v2⟩ := w (.lst (xs.eraseIdx j)) _ t
                obtain ⟨z1, z2⟩ := small63_iff hz
                exact ⟨l0, xs, k, j, v, rfl, rfl, hl, z1, z2, by rw [ra.length]; exact e3, e5, q v g1 _ r2 (v1.trans v2) (rv.upd (.inr ⟨i, hp⟩) hl trivial) fun z => nomatch z⟩
              · cases ev
            · cases ev
          · cases ev
        · cases ev
      · cases ev
    · cases ev
/-- x[k] = e, x a list of one's own -/
def sSetIx (i : Nat) (cv ck : CE) : CS := fun F s => match cv F s with
  | some (.d y, s1) => match s1.env[i]? with
    | some (some (.d (.list _))) => match ck F s1 with
      | some (.d (.int k), s2) => match s2.env[i]? with
        | some (some (.d (.list ds))) => match ixN ds.length k with
          | some j => some (.nx, { s2 with env := s2.env.set i (some (.d (.list (ds.set j y)))) })
          | none => none
        | _ => none
      | _ => none
    | _ => none
  | _ => none
theorem ss_setIx {cv ck : CE} {f1 f2 : Bool} {tpos : Pos} (hN : X.N[i]? = some x) (hv : Vis X.env.scope x) (hm : M i = true) (he : PE X e (TX X.kk F M f1 cv)) (hk : PE X b (TX X.kk F M f2 ck)) (hd : (x == ("__debug__" : Str)) = false := by decide) (hcd : (x == ("__classdict__" : Str)) = false := by decide)
    (ha : ∀ v, assign (.Subscript (.Name x p) b tpos) X.env v = (do
      let ov ← holding [v] (eval (.Name x p) X.env)
      let iv ← holding [v, ov] (eval b X.env)
      standAt tpos
      holding [v, ov, iv] (setItem ov iv v)
      release [v, ov, iv] []) := by intro _; rfl)
    (hs : swapsWithSole [.Subscript (.Name x p) b tpos] e pos.line X.env = pure false := by rfl) (hw : swappedStores [.Subscript (.Name x p) b tpos] e X.env = pure none := by rfl)
    (h1 : (assignEach [.Subscript (.Name x p) b tpos] X.env).map (·.2) = [assign (.Subscript (.Name x p) b tpos) X.env] := by rfl) :
    PS X (.Assign [.Subscript (.Name x p) b tpos] e pos) (TSt X.kk F M (sSetIx i cv ck)) :=
  psI (ps_asg he (pg_sub (pe_var hN hv hd hcd) hk set_list ha) hs hw h1) fun D σ H ⟨g, s, f, s', r, ev, q⟩ => by
    unfold sSetIx at ev
    split at ev
    · rename_i y s1 e1
      split at ev
      · rename_i ds0 e0
        split at ev
        · rename_i k s2 e2
          split at ev
          · rename_i ds e3
            split at ev
            · rename_i j e4
              cases ev
              refine ⟨g, s, .d y, s1, r, e1, fun v g1 H1 r1 v1 rp _ => ?_⟩
              obtain ⟨l0, xs0, ev0, hp0, hl0, ra0, _⟩ := slot_list r1 e0 hm
              refine ⟨_, ev0, g1, s1, .d (.int k), s2, r1, e2, fun w g2 H2 r2 v2 rp2 _ => ?_⟩
              obtain ⟨l, xs, ev1, hp, hl, ra, ww⟩ := slot_list r2 e3 hm
              rw [ev0] at ev1
              cases ev1
              have ek : w = .int k := by cases rp2; rfl
              subst ek
              have rv : Rp X.kk g2.N H2 v y := v2.rp r1.wn rp
              have t := top_list (.inr ⟨i, hp⟩) hl trivial (ra.set rv j)
              obtain ⟨r3, v3⟩ := ww (.lst (xs.set j v)) _ t
              exact ⟨l0, xs, k, j, rfl, rfl, hl, by rw [ra.length]; exact e4, q σ g2 _ r3 ((v1.trans v2).trans v3)⟩
            · cases ev
          · cases ev
        · cases ev
      · cases ev
    · cases ev
end
end Ev
/-! Ev12: list comprehensions. -/
namespace Ev
open PySem PySem.Spec L2

/-- the block's own names are not set -/
def wipeE : List (Option Vx) → List Nat → List (Option Vx)
  | e, [] => e
  | e, v :: vs => (wipeE e vs).set v none
def wipeS (own : List Nat) (s : S) : S := { s with env := wipeE s.env own }
/-- they are again what they were -/
def unwipeE : List (Option Vx) → List (Option Vx) → List Nat → List (Option Vx)
  | _, e, [] => e
  | e0, e, v :: vs => (unwipeE e0 e vs).set v (e0.getD v none)
def unwipeS (own : List Nat) (s0 s : S) : S := { s with env := unwipeE s0.env s.env own }
theorem wipeE_len (e : List (Option Vx)) : ∀ vs : List Nat, (wipeE e vs).length = e.length
  | [] => rfl
  | v :: vs => by unfold wipeE; rw [List.length_set, wipeE_len e vs]
theorem unwipeE_len (e0 e : List (Option Vx)) : ∀ vs : List Nat, (unwipeE e0 e vs).length = e.length
  | [] => rfl
  | v :: vs => by unfold unwipeE; rw [List.length_set, unwipeE_len e0 e vs]
theorem wipeE_some {e : List (Option Vx)} {i : Nat} {x : Vx} : ∀ {vs : List Nat}, (wipeE e vs)[i]? = some (some x) → e[i]? = some (some x) ∧ i ∉ vs
  | [], h => ⟨h, fun z => nomatch z⟩
  | v :: vs, h => by
    unfold wipeE at h
    rcases get_set h with ⟨_, z, _⟩ | ⟨hne, h⟩
    · cases z
    · have q := wipeE_some h
      exact ⟨q.1, fun z => (List.mem_cons.mp z).elim (fun z => hne z.symm) q.2⟩
theorem wipe_keep {σ : L2.St} {i : Nat} {v : V} : ∀ {vs : List Nat}, i ∉ vs → σ[i]? = some (some v) → (wipe σ vs)[i]? = some (some v)
  | [], _, h => h
  | w :: vs, hn, h => by
    unfold wipe
    rw [List.getElem?_set_ne (fun z => hn (by rw [z]; exact List.mem_cons_self))]
    exact wipe_keep (fun z => hn (List.mem_cons_of_mem _ z)) h
theorem unwipeE_some {e0 e : List (Option Vx)} {i : Nat} {x : Vx} : ∀ {vs : List Nat}, (unwipeE e0 e vs)[i]? = some (some x) → (i ∈ vs ∧ e0[i]? = some (some x)) ∨ (i ∉ vs ∧ e[i]? = some (some x))
  | [], h => .inr ⟨(fun z => nomatch z), h⟩
  | v :: vs, h => by
    unfold unwipeE at h
    rcases get_set h with ⟨e1, z, _⟩ | ⟨hne, h⟩
    · subst e1
      refine .inl ⟨List.mem_cons_self, ?_⟩
      rw [List.getD_eq_getElem?_getD] at z
      cases q : e0[v]? with
      | none => rw [q] at z; cases z
      | some y => rw [q] at z; rw [show y = some x from z]
    · rcases unwipeE_some h with ⟨h1, h2⟩ | ⟨h1, h2⟩
      · exact .inl ⟨List.mem_cons_of_mem _ h1, h2⟩
      · exact .inr ⟨fun z => (List.mem_cons.mp z).elim (fun z => hne z.symm) h1, h2⟩

section
variable {K : KK} {M : Nat → Bool} {F : Fn} {g g' : G} {s s' s0 : S} {σ : L2.St} {H H' H0 : Hp}
theorem Rel.wiped {own : List Nat} (ho : ∀ i ∈ own, M i = false) (r : Rel K M g s σ H) : Rel K M g (wipeS own s) (wipe σ own) H where
  slot := fun i x e => by
    obtain ⟨h1, h2⟩ := wipeE_some e
    obtain ⟨v, e1, h3⟩ := r.slot i x h1
    exact ⟨v, wipe_keep h2 e1, h3⟩
  inj := r.inj
  sep := r.sep
  ex := r.ex
  srN := r.srN
  src := r.src
  len := by
    show (wipeE s.env own).length = (wipe σ own).length
    rw [wipeE_len, wipe_length]; exact r.len
/-- back from the block: its own names as they were -/
theorem Rel.unwiped {own : List Nat} {g0 : G} (ho : ∀ i ∈ own, M i = false) (r0 : Rel K M g0 s0 σ H0) (e : Evo g0 g H0 H) (r : Rel K M g s (wipe σ own) H) : Rel K M g (unwipeS own s0 s) σ H where
  slot := fun i x e1 => by
    rcases unwipeE_some e1 with ⟨h1, h2⟩ | ⟨h1, h2⟩
    · obtain ⟨v, e2, h3⟩ := r0.slot i x h2
      refine ⟨v, e2, ?_⟩
      have hm := ho i h1
      cases x with
      | d d => exact ⟨fun c => (by rw [hm] at c; cases c.1), fun c => e.rp r0.wn (h3.2 c)⟩
      | z d => exact e.rp r0.wn h3
      | src => exact Evo.rpX (K := K) e r0.wn (x := .src) h3
      | srcc => exact Evo.rpX (K := K) e r0.wn (x := .srcc) h3
    · obtain ⟨v, e2, h3⟩ := r.slot i x h2
      exact ⟨v, (wipe_some e2).1, h3⟩
  inj := r.inj
  sep := r.sep
  ex := r.ex
  srN := r.srN
  src := r.src
  len := by
    show (unwipeE s0.env s.env own).length = σ.length
    rw [unwipeE_len, r.len, wipe_length]
/-- what is locked, and nothing knows, is changed -/
theorem Rel.scratch {D : Addr} {o o' : HO} (r : Rel K M g s σ H) (hD : g.N0 D) (hs : ¬ g.SA D) (hc : ¬ g.CA D) (e : H D = some o) (ho : Plain0 o) : Rel K M g s σ (upd H D o') where
  slot := fun i x ei => by
    obtain ⟨v, h1, h2⟩ := r.slot i x ei
    refine ⟨v, h1, ?_⟩
    cases x with
    | d d => exact ⟨fun c => let ⟨b, e1, q, t⟩ := h2.1 c; ⟨b, e1, q, t.upd (.inl hD) e ho fun z => r.sep i b q (by rw [z]; exact hD)⟩, fun c => (h2.2 c).upd (.inl hD) e ho⟩
    | z d => exact Rp.upd (.inl hD) e ho h2
    | src => exact h2
    | srcc => exact h2
  inj := r.inj
  sep := r.sep
  ex := fun a h => by
    by_cases z : a = D
    · rw [z, upd_same]; simp
    · rw [upd_ne z]; exact r.ex a h
  srN := r.srN
  src := r.src.upd hs hc
  len := r.len
theorem Evo.scratch {D : Addr} {o o' : HO} {g0 : G} (v : Evo g0 g H0 H) (h0 : H0 D = none) (e : H D = some o) (ho : Plain0 o) : Evo g0 g H0 (upd H D o') where
  n := v.n
  w := v.w
  sa := v.sa
  ca := v.ca
  n0 := v.n0
  keep := fun a u h hw => by rw [upd_ne (fun z => by rw [z, h0] at h; cases h)]; exact v.keep a u h hw
  tup := fun a xs h => upd_tup e ho a xs (v.tup a xs h)
  frz := fun a ob u h => upd_frz e ho a ob u (v.frz a ob u h)
  grow := fun a h => by
    by_cases z : a = D
    · rw [z, upd_same]; simp
    · rw [upd_ne z]; exact v.grow a h
  sr := v.sr
/-- the lock taken off -/
def G.open (g : G) (a : Addr) : G := { g with N0 := fun b => g.N0 b ∧ b ≠ a }
theorem G.open_N {a b : Addr} (h : (g.open a).N b) : g.N b := h.imp (fun z => z.1) id
theorem Rel.opened {D : Addr} (r : Rel K M g s σ H) (hs : ¬ g.SA D) (hc : ¬ g.CA D) : Rel K M (g.open D) s σ H where
  slot := fun i x ei => by
    obtain ⟨v, h1, h2⟩ := r.slot i x ei
    refine ⟨v, h1, ?_⟩
    have hn : ∀ b, (g.open D).N b → g.N b ∨ H b = none := fun b h => .inl (G.open_N h)
    cases x with
    | d d => exact ⟨fun c => let ⟨b, e1, q, t⟩ := h2.1 c; ⟨b, e1, q, t.forbid hn⟩, fun c => (h2.2 c).forbid hn⟩
    | z d => exact Rp.forbid hn h2
    | src => exact h2
    | srcc => exact h2
  inj := r.inj
  sep := fun i a h z => r.sep i a h z.1
  ex := fun a h => r.ex a (G.open_N h)
  srN := fun a h => ⟨r.srN a h, fun z => by rw [z] at h; exact h.elim hs hc⟩
  src := r.src
  len := r.len
theorem Evo.opened {D : Addr} {g0 : G} (v : Evo g0 g H0 H) (ex : ∀ a, g0.N a → H0 a ≠ none) (h0 : H0 D = none) : Evo g0 (g.open D) H0 H :=
  ⟨fun b h => v.n b (G.open_N h), fun b h => v.w b h, v.sa, v.ca, fun b h => ⟨v.n0 b h, fun z => ex b (.inl h) (by rw [z]; exact h0)⟩, v.keep, v.tup, v.frz, v.grow, v.sr⟩
end

/-! ### [elt for target in .. if ..] -/
def lcL (as : PyData → S → Option S) (own : List Nat) (t : CB) (c : CE) (F : Fn) : List PyData → S → Option (List PyData × S)
  | [], s => some ([], s)
  | d :: ds, s => match as d (wipeS own s) with
    | some s1 => match t F s1 with
      | some (true, s2) => match c F s2 with
        | some (.d y, s3) => match lcL as own t c F ds s3 with
          | some (ys, s4) => some (y :: ys, s4)
          | none => none
        | _ => none
      | some (false, s2) => lcL as own t c F ds s2
      | none => none
    | none => none
def cLc (own : List Nat) (as : PyData → S → Option S) (ic : IC) (t : CB) (c : CE) : CE := fun F s => match ic F s with
  | some (ds, s1, l) => if ds.length ≤ sizeLine then match lcL as own t c F ds s1 with
      | some (ys, s2) => some (.d (.list ys), back l (unwipeS own s1 (wipeS own s2)))
      | none => none
    else none
  | none => none
def bYes : CB := fun _ s => some (true, s)
section
variable {X : Cx} {M : Nat → Bool} {F : Fn} {elt tg iter : Expr} {ifs : List Expr} {scope : Scope} {own : List (Str × Nat)} {pos : Pos}
structure PTss (X : Cx) (ifs : List Expr) (t : TT) : Prop where
  p : PTs X ifs t
theorem ptsI {t t' : TT} (h : PTs X ifs t) (hi : ∀ σ H Q, t' σ H Q → t σ H Q) : PTs X ifs t' := ⟨fun pins s σ H Q I q => h.run pins s σ H Q I (hi _ _ _ q)⟩
theorem tb_yes : PTs X [] (TB X.kk F M bYes) := ptsI pts_nil fun σ H Q ⟨g, s, b, s', r, e, q⟩ => by
  cases e
  exact q g H r Evo.refl
theorem tb_if {c : Expr} {cb : CB} (h : PT X c (TB X.kk F M cb)) : PTs X [c] (TB X.kk F M cb) := pts_one h
theorem tx_lc {ic : IC} {ts own : List Nat} {as : PyData → S → Option S} {cb : CB} {ce : CE} {fr : Bool} {σ : L2.St} {H : Hp} {Q : VK} (hm : ∀ i ∈ own, M i = false) (hts : ∀ t ∈ ts, t ∈ own)
    (h : TX X.kk F M true (cLc own as ic cb ce) σ H Q) : tLc (TIX X.kk F M ic) (TGX X.kk M ts as) (TB X.kk F M cb) (TX X.kk F M fr ce) own σ H Q := by
  obtain ⟨g, s, x, s', r, ev, q⟩ := h
  unfold cLc at ev
  split at ev
  · rename_i ds s1 l e1
    split at ev
    · rename_i hz
      split at ev
      · rename_i ys s2 e2
        cases ev
        refine ⟨g, s, ds, s1, l, r, e1, fun J g1 H1 r1 v1 L W D hD => ?_⟩
        have nSC : ¬ (g1.SA D ∨ g1.CA D) := fun z => r1.ex D (.inl (r1.srN D z)) hD
        have k0 : Same H1 (upd H1 D (.lst [])) := fun b o e => by rw [upd_ne (ne_of_none e hD)]; exact e
        refine ⟨fun i m Hk => m + i = ds.length ∧ ∃ gk sk accV accD ys', Rel X.kk M gk (wipeS own sk) (wipe σ own) Hk ∧ Evo g1 gk H1 Hk ∧ gk.N0 D ∧ ¬ (gk.SA D ∨ gk.CA D) ∧ Hk D = some (.lst accV) ∧ RpA X.kk gk.N Hk accV accD ∧ accD.length ≤ i ∧
          lcL as own cb ce F (ds.drop i) sk = some (ys', s2) ∧ accD ++ ys' = ys, ⟨ds.length, rfl, g1.lock D, s1, [], [], ys, (r1.wiped hm).fresh hD k0 (by rw [upd_same]; simp), ?_, .inr rfl, nSC, upd_same, .nil, Nat.zero_le _, by simpa using e2, rfl⟩, ?_⟩
        · have e := Evo.same (g := g1) k0
          exact ⟨fun b h => (G.lock_N.mp h).elim .inl fun z => .inr (by rw [z]; exact hD), fun b h => .inl h, fun _ h => h, fun _ h => h, fun _ h => .inl h, e.keep, e.tup, e.frz, e.grow, fun _ h => .inl h⟩
        · rintro i m Hk ⟨him, gk, sk, accV, accD, ys', rk, vk, hN0, hS, hDk, ra, hla, ek, ey⟩
          obtain ⟨w1, w2⟩ := W gk Hk vk rk.wn rk.ex
          have nW : ¬ gk.W D := by
            rintro (⟨j, z⟩ | z)
            · exact rk.sep j D z hN0
            · exact hS z
          cases m with
          | zero =>
            have hi : i = ds.length := by omega
            subst hi
            rw [List.drop_length] at ek
            cases ek
            rw [List.append_nil] at ey
            subst ey
            refine .inl ⟨w2, ?_⟩
            have rf := Rel.unwiped hm r1 vk rk
            obtain ⟨g3, r3, v3, n3, sa3, ca3, k3⟩ := L gk _ Hk rf vk
            have n03 : g3.N0 D := k3 D hD hN0
            have hS3 : ¬ (g3.SA D ∨ g3.CA D) := fun z => hS (by rw [sa3, ca3] at z; exact z)
            have hDH : H D = none := none_back v1.grow hD
            have ra3 : RpA X.kk g3.N Hk accV accD := ra.forbid fun a h => .inl (n3 a h)
            refine q (.ref D) (g3.open D) Hk (r3.opened (fun z => hS3 (.inl z)) fun z => hS3 (.inr z)) (v3.opened r.ex hDH) (.lst (.inl hDk) ?_ (ra3.forbid fun a h => .inl (G.open_N h))) fun _ d ed hd => ?_
            · rintro (z | ⟨j, z⟩)
              · exact z.2 rfl
              · exact r3.sep j D z n03
            · cases ed
              exact ⟨D, g3, rfl, hDH, r3, v3, n03, fun z => hS3 (.inl z), fun z => hS3 (.inr z), accV, hDk, ra3⟩
          | succ m =>
            have hi : i < ds.length := by omega
            obtain ⟨go, yl⟩ := w1 i _ (List.getElem?_eq_getElem hi)
            rw [List.drop_eq_getElem_cons hi] at ek
            unfold lcL at ek
            split at ek
            · rename_i sa ea
              split at ek
              · rename_i sb eb
                split at ek
                · rename_i y sc ec
                  split at ek
                  · rename_i ys2 s4 er
                    cases ek
                    refine .inr ⟨go, fun H' => ∃ g4, Rel X.kk M g4 (wipeS own sc) (wipe σ own) H' ∧ Evo g1 g4 H1 H' ∧ g4.N0 D ∧ ¬ (g4.SA D ∨ g4.CA D) ∧ ∃ accV', H' D = some (.lst accV') ∧ RpA X.kk g4.N H' accV' (accD ++ [y]), fun H' z => ?_, fun x H3 yx => ?_⟩
                    · obtain ⟨g4, r4, v4, n4, s4', accV', d4, ra4⟩ := z
                      exact ⟨m, Nat.lt_succ_self m, by omega, g4, sc, accV', accD ++ [y], ys2, r4, v4, n4, s4', d4, ra4, by simp; omega, er, by rw [List.append_assoc]; exact ey⟩
                    · obtain ⟨k, rp⟩ := yl x H3 yx
                      refine ⟨gk, _, ds[i], sa, rk.same k, rp, ea, fun σ2 g2 H2 r2 v2 o2 => ⟨?_, g2, sa, true, sb, r2, eb, fun g3 H4 r3 v3 => ?_⟩⟩
                      · rw [o2 own hts]
                        have id : ∀ (τ : L2.St) (vs : List Nat), wipe (wipe τ vs) vs = wipe τ vs := by
                          intro τ vs
                          have sub : ∀ (us ws : List Nat) (τ : L2.St), (∀ u ∈ us, u ∈ ws) → wipe (wipe τ us) ws = wipe τ ws := by
                            intro us
                            induction us with
                            | nil => intro ws τ _; rfl
                            | cons u us ih =>
                              intro ws τ h
                              show wipe ((wipe τ us).set u none) ws = _
                              rw [wipe_set _ _ _ _ (h u List.mem_cons_self)]
                              exact ih ws τ fun z hz => h z (List.mem_cons_of_mem _ hz)
                          exact sub vs vs τ fun _ h => h
                        exact id σ own
                      · refine iteT ⟨g3, sb, .d y, sc, r3, ec, fun v g4 H5 r4 v4 rpv _ => ?_⟩
                        have vv : Evo gk g4 Hk H5 := (((Evo.same k).trans v2).trans v3).trans v4
                        have d5 : H5 D = some (.lst accV) := vv.keep D _ hDk nW
                        have n5 : g4.N0 D := vv.n0 D hN0
                        have s5 : ¬ (g4.SA D ∨ g4.CA D) := fun z => (vv.sr D z).elim hS fun z => by rw [hDk] at z; cases z
                        have ra5 := (vv.rpA rk.wn ra).append (.cons rpv .nil)
                        have hw : wipe σ2 own = wipe σ own := by
                          rw [o2 own hts]
                          have sub : ∀ (us ws : List Nat) (τ : L2.St), (∀ u ∈ us, u ∈ ws) → wipe (wipe τ us) ws = wipe τ ws := by
                            intro us
                            induction us with
                            | nil => intro ws τ _; rfl
                            | cons u us ih =>
                              intro ws τ h
                              show wipe ((wipe τ us).set u none) ws = _
                              rw [wipe_set _ _ _ _ (h u List.mem_cons_self)]
                              exact ih ws τ fun z hz => h z (List.mem_cons_of_mem _ hz)
                          exact sub own own σ fun _ h => h
                        have rs := (r4.scratch (o' := .lst (accV ++ [v])) n5 (fun z => s5 (.inl z)) (fun z => s5 (.inr z)) d5 trivial).wiped hm
                        rw [hw] at rs
                        refine ⟨accV, d5, ?_, g4, rs, (vk.trans vv).scratch hD d5 trivial, n5, s5, accV ++ [v], upd_same, ra5.upd (.inl n5) d5 trivial⟩
                        rw [ra.length]
                        omega
                  · cases ek
                · cases ek
              · rename_i sb eb
                refine .inr ⟨go, fun H' => ∃ g4, Rel X.kk M g4 (wipeS own sb) (wipe σ own) H' ∧ Evo gk g4 Hk H', fun H' z => ?_, fun x H3 yx => ?_⟩
                · obtain ⟨g4, r4, v4⟩ := z
                  exact ⟨m, Nat.lt_succ_self m, by omega, g4, sb, accV, accD, ys', r4, vk.trans v4, v4.n0 D hN0, fun z => (v4.sr D z).elim hS fun z => (by rw [hDk] at z; cases z), v4.keep D _ hDk nW, v4.rpA rk.wn ra, by omega, ek, ey⟩
                · obtain ⟨k, rp⟩ := yl x H3 yx
                  have sub : ∀ (us ws : List Nat) (τ : L2.St), (∀ u ∈ us, u ∈ ws) → wipe (wipe τ us) ws = wipe τ ws := by
                    intro us
                    induction us with
                    | nil => intro ws τ _; rfl
                    | cons u us ih =>
                      intro ws τ h
                      show wipe ((wipe τ us).set u none) ws = _
                      rw [wipe_set _ _ _ _ (h u List.mem_cons_self)]
                      exact ih ws τ fun z hz => h z (List.mem_cons_of_mem _ hz)
                  refine ⟨gk, _, ds[i], sa, rk.same k, rp, ea, fun σ2 g2 H2 r2 v2 o2 => ?_⟩
                  have hw : wipe σ2 own = wipe σ own := by
                    rw [o2 own hts]
                    exact sub own own σ fun _ h => h
                  refine ⟨hw, g2, sa, false, sb, r2, eb, fun g3 H4 r3 v3 => iteF ⟨g3, ?_, ((Evo.same k).trans v2).trans v3⟩⟩
                  have rs := r3.wiped hm
                  rw [hw] at rs
                  exact rs
              · cases ek
            · cases ek
      · cases ev
    · cases ev
  · cases ev
theorem sx_lc {ic : IC} {ts : List Nat} {as : PyData → S → Option S} {cb : CB} {ce : CE} {fr : Bool} (hc : X.calm = true) (hN : X.N.Nodup) (hi : PI X tg iter (TIX X.kk F M ic)) (ok : BlkOk X.N X.env.scope scope own) (hm : ∀ i ∈ own.map (·.2), M i = false) (hts : ∀ t ∈ ts, t ∈ own.map (·.2))
    (hg : ∀ (s : Shared) (H : Hp) (C : Addr) (cl : List (Str × Addr)) (fp : List Addr), PG (X.blk s H scope (compEnvC scope cl C X.env) fp) tg (TGX X.kk M ts as)) (ht : ∀ (s : Shared) (H : Hp) (C : Addr) (cl : List (Str × Addr)) (fp : List Addr), PTs (X.blk s H scope (compEnvC scope cl C X.env) fp) ifs (TB X.kk F M cb))
    (he : ∀ (s : Shared) (H : Hp) (C : Addr) (cl : List (Str × Addr)) (fp : List Addr), PE (X.blk s H scope (compEnvC scope cl C X.env) fp) elt (TX X.kk F M fr ce)) (hs : ∀ x, foldedSetIterable iter X.env x = pure x := by intro _; rfl) :
    PE X (.ListComp elt [⟨tg, iter, ifs, 0⟩] scope pos) (TX X.kk F M true (cLc (own.map (·.2)) as ic cb ce)) :=
  peI (pe_lc hc hN hi ok hg ht he hs) fun _ _ _ h => tx_lc hm hts h
end
end Ev
/-! Ev13: defs and their calls. -/
namespace Ev
open PySem PySem.Spec L2 PyProof.Rows

/-- a def's promise where no object is being shown (so repr may be asked) -/
structure FnG (P : Program) (w : World) (K : PySem.W.Frag) (mg : Str → Option Value) (base : Heap) (k : Nat) (f : Addr) (fd : FuncData) (ps : List Str) (sp : List V → Hp → VK → Prop) : Prop where
  len : ∀ vs H Q, sp vs H Q → vs.length = ps.length
  run : ∀ (A : Around) (outer : List Env) (s : Shared) (H : Hp) (args : Args) (us : List Value) (vs : List V) (Q : VK), Room k A → A.guards = some [] → Env0 P w K mg base A outer s H → BindsTo s fd args (ps.zip us) → Vals vs us → sp vs H Q →
    codeAny (model P w) A (.call (.ref f) args) (CR CX0 outer P w H s Q E0) s
/-- where a def's body runs -/
abbrev cxG (P : Program) (w : World) (K : PySem.W.Frag) (mg : Str → Option Value) (base : Heap) (N : List Str) (qual : Str) (sc : Scope) (f : Addr) (cdv : Value) (A : Around) (outer : List Env) (s : Shared) (H : Hp) : Cx := (cxOf CX0 P w K mg base N qual sc f cdv A outer s H E0).nox

theorem fnG_of {P : Program} {w : World} {K : PySem.W.Frag} {mg : Str → Option Value} {base : Heap} {x qual : Str} {st : Stmt} {f : Addr} {fd : FuncData} {N ps : List Str} {k : Nat} {sp : List V → Hp → VK → Prop} (D : Fun K x qual st f fd) (S : FnScope N ps (defScope st)) (len : ∀ vs H Q, sp vs H Q → vs.length = ps.length)
    (body : ∀ (cdv : Value) (A : Around) (outer : List Env) (s : Shared) (H : Hp) (vs : List V) (Q : VK), Room k (A.deeper (envOfC qual (defScope st) s.heap.objs.size f cdv)) → (A.deeper (envOfC qual (defScope st) s.heap.objs.size f cdv)).guards = some [] → sp vs H Q →
      ∃ t, PSs (cxG P w K mg base N qual (defScope st) f cdv A outer s H) (defBody st) t ∧ t { nx := fun _ H' => Q .non H', rt := Q } (L2.start N vs) H) : FnG P w K mg base (k + 1) f fd ps sp := by
  obtain ⟨oc, od, kV, doc, pm, an, cdv, ct, osl, rfl, lk, hcd⟩ := D.ex
  refine ⟨len, fun A outer s H args us vs Q hr hgd e0 hb r hsp => ?_⟩
  have hl := len _ _ _ hsp
  have KX : K.In s.heap := e0.mod.kin.keeps fun b o e => (e0.bs b o e).1
  have lim : s.heap.NoLimit := e0.mod.nolimit.keeps fun b o e => (e0.bs b o e).1
  have kinds : ∀ y ∈ ps.zip us, (defScope st).names.lookup y.1 = some .local ∨ ((defScope st).names.lookup y.1 = some .cell ∧ ((cellsFrom (s.heap.objs.size + 1) (defScope st).names []).lookup y.1).isSome = true) := fun ⟨n, v⟩ hy =>
    (S.par n (List.of_mem_zip hy).1).imp id fun q => ⟨q, PySem.W.cellsFrom_some _ _ _ (.inl q)⟩
  refine codeAny_call_function hr.depth (KX _ _ lk) rfl S.co S.gen rfl (PySem.W.codeRec_of KX hcd) (hb _ _ _ _ ?_)
  refine wpAny_newFunctionEnv_cells S.kind kinds fun env he s1 x1 => ?_
  subst he
  refine ⟨lim.keeps x1.toInCall.keep, codeAny_func ?_⟩
  obtain ⟨t, ht, hq⟩ := body cdv A outer s H vs Q (hr.deeper _) hgd hsp
  have I := inv_start (CX := CX0) (E := E0) (qual := qual) (f := f) (cd := cdv) S hr.hd e0 hl r x1
  refine wpAny_mono (ht.nox.run [] s1 (L2.start N vs) H _ I hq) (fun fl s' hs => ?_) fun e s' hs => hs
  cases fl with
  | ret u =>
    obtain ⟨v, σ', H', J, rv, q⟩ := hs
    exact ⟨v, H', J.os, J.bare, J.base, J.hok, rv, q⟩
  | next =>
    obtain ⟨σ', H', J, q⟩ := hs
    exact ⟨V.non, H', J.os, J.bare, J.base, J.hok, rfl, q⟩
  | brk =>
    obtain ⟨_, _, _, q⟩ := hs
    exact q.elim
  | cont =>
    obtain ⟨_, _, _, q⟩ := hs
    exact q.elim

/-! ### the defs of a program -/
structure FnDef where
  n : Nat
  nn : Nat
  body : CS
def runDef (d : FnDef) (F : Fn) (xs : List Vx) (src : Option Src) : Option (Vx × Option Src) :=
  if xs.length = d.n then match d.body F ⟨xs.map some ++ List.replicate (d.nn - xs.length) none, src⟩ with
    | some (.rt x, s') => some (x, s'.src)
    | some (.nx, s') => some (.d .none, s'.src)
    | _ => none
  else none
def fnAt (T : String → Option FnDef) (fuel : Nat) : Nat → Fn
  | 0 => ⟨fun _ _ _ => none, fuel⟩
  | k + 1 => ⟨fun nm xs src => match T nm with
    | some d => runDef d (fnAt T fuel k) xs src
    | none => none, fuel⟩
def g0 (N SA CA : Addr → Prop) : G := ⟨N, fun _ => none, SA, CA⟩
theorem g0_N {N SA CA : Addr → Prop} {a : Addr} : (g0 N SA CA).N a ↔ N a := ⟨fun h => h.elim id fun ⟨_, z⟩ => (nomatch z), .inl⟩
/-- what a call promises -/
def SpF (K : KK) (F : Fn) (nm : String) (n : Nat) : List V → Hp → VK → Prop := fun vs H Q => vs.length = n ∧ ∃ N SA CA xs src x src', (∀ a, N a → H a ≠ none) ∧ (∀ a, SA a ∨ CA a → N a) ∧ SrcOk SA CA H src ∧ Paired (RpX K (g0 N SA CA) H) vs xs ∧ F.call nm xs src = some (x, src') ∧
  ∀ v gc H', Evo (g0 N SA CA) gc H H' → SrcOk gc.SA gc.CA H' src' → (∀ a, gc.SA a ∨ gc.CA a → gc.N0 a) → RpX K gc H' v x → Q v H'
theorem paired_get {α β : Type} {R : α → β → Prop} : ∀ {l : List α} {m : List β} {i : Nat} {y : β}, Paired R l m → m[i]? = some y → ∃ x, l[i]? = some x ∧ R x y
  | _, _, _, _, .nil, e => by simp at e
  | _, _, 0, _, .cons h _, e => by simp at e; subst e; exact ⟨_, rfl, h⟩
  | _, _, i + 1, y, .cons _ t, e => by
    obtain ⟨x, h1, h2⟩ := paired_get (i := i) t (by simpa using e)
    exact ⟨x, by simpa using h1, h2⟩
theorem start_get {vs : List V} {xs : List Vx} {R : V → Vx → Prop} {N : List Str} {m : Nat} (r : Paired R vs xs) {i : Nat} {x : Vx} (e : (xs.map some ++ List.replicate m none)[i]? = some (some x)) : ∃ v, i < xs.length ∧ (L2.start N vs)[i]? = some (some v) ∧ R v x := by
  have hl := r.length
  by_cases hi : i < xs.length
  · rw [List.getElem?_append_left (by simpa using hi), List.getElem?_map] at e
    cases q : xs[i]? with
    | none => rw [q] at e; cases e
    | some y =>
      rw [q] at e
      cases e
      obtain ⟨v, h1, h2⟩ := paired_get r q
      refine ⟨v, hi, ?_, h2⟩
      unfold L2.start
      rw [List.getElem?_append_left (by simp; omega), List.getElem?_map, h1]
      rfl
  · rw [List.getElem?_append_right (by simpa using hi), List.getElem?_replicate] at e
    split at e <;> cases e
/-- a def whose body is read so keeps its promise -/
theorem defG {P : Program} {w : World} {K : PySem.W.Frag} {mg : Str → Option Value} {base : Heap} {x qual : Str} {st : Stmt} {f : Addr} {fd : FuncData} {N ps : List Str} {k fuel : Nat} {T : String → Option FnDef} {nm : String} {d : FnDef} {M : Nat → Bool} (D : Fun K x qual st f fd) (S : FnScope N ps (defScope st)) (hT : T nm = some d) (hn : d.n = ps.length) (hnn : d.nn = N.length) (hM : ∀ i, i < d.n → M i = false)
    (body : ∀ (cdv : Value) (A : Around) (outer : List Env) (s : Shared) (H : Hp), Room k (A.deeper (envOfC qual (defScope st) s.heap.objs.size f cdv)) → (A.deeper (envOfC qual (defScope st) s.heap.objs.size f cdv)).guards = some [] →
      PSs (cxG P w K mg base N qual (defScope st) f cdv A outer s H) (defBody st) (TSt ⟨K, w, P⟩ (fnAt T fuel k) M d.body)) : FnG P w K mg base (k + 1) f fd ps (SpF ⟨K, w, P⟩ (fnAt T fuel (k + 1)) nm d.n) := by
  refine fnG_of D S (fun vs H Q h => h.1.trans hn) fun cdv A outer s H vs Q hr hgd hsp => ⟨_, body cdv A outer s H hr hgd, ?_⟩
  obtain ⟨hv, N', SA, CA, xs, src, y, src', hex, hsN, hsrc, rp, hcall, q⟩ := hsp
  have hc : runDef d (fnAt T fuel k) xs src = some (y, src') := by
    have z : (match T nm with | some d => runDef d (fnAt T fuel k) xs src | none => none) = some (y, src') := hcall
    rw [hT] at z
    exact z
  unfold runDef at hc
  split at hc
  · rename_i hx
    have rel : Rel ⟨K, w, P⟩ M (g0 N' SA CA) ⟨xs.map some ++ List.replicate (d.nn - xs.length) none, src⟩ (L2.start N vs) H := by
      refine ⟨fun i z e => ?_, fun i j a h => (nomatch h), fun i a h => (nomatch h), fun a h => hex a (g0_N.mp h), fun a h => hsN a h, hsrc, ?_⟩
      · obtain ⟨v, h1, h2, h3⟩ := start_get (N := N) rp e
        refine ⟨v, h2, ?_⟩
        have hm := hM i (by rw [← hx]; exact h1)
        cases z with
        | d dd => exact ⟨fun c => (by rw [hm] at c; cases c.1), fun _ => h3⟩
        | z d => exact h3
        | src => exact h3
        | srcc => exact h3
      · have hl := rp.length
        show (xs.map some ++ List.replicate (d.nn - xs.length) none).length = (L2.start N vs).length
        unfold L2.start
        simp only [List.length_append, List.length_map, List.length_replicate]
        omega
    split at hc
    · rename_i z s' e1
      cases hc
      exact ⟨_, _, _, _, rel, e1, fun σ' g' H' r' v' => fun v rv => q v g' H' v' r'.src (fun a h => r'.srN a h) rv⟩
    · rename_i s' e1
      cases hc
      exact ⟨_, _, _, _, rel, e1, fun σ' g' H' r' v' => q .non g' H' v' r'.src (fun a h => r'.srN a h) .non⟩
    · cases hc
  · cases hc

/-! ### calls -/
/-- the def nm of the text, as it stands behind the name x -/
def Callee (P : Program) (w : World) (K : PySem.W.Frag) (mg : Str → Option Value) (base : Heap) (F : Fn) (k : Nat) (nm : String) (x : Str) (n : Nat) : Prop :=
  ∃ f fd ps, FnG P w K mg base k f fd ps (SpF ⟨K, w, P⟩ F nm n) ∧ mg x = some (.ref f) ∧ PySem.W.keepIn K (.ref f) = true ∧ Binds K fd ps []
def cCall (nm : String) (cs : List CE) : CE := fun F s => match evArgs cs F s with
  | some (xs, s1) => match F.call nm xs s1.src with
    | some (x, src') => some (x, { s1 with src := src' })
    | none => none
  | none => none
theorem SrcOk.ex {SA CA : Addr → Prop} {H : Hp} {o : Option Src} (h : SrcOk SA CA H o) : ∀ a, SA a ∨ CA a → H a ≠ none := fun a z => by
  cases o with
  | none => exact absurd z fun z => z.elim (h.1 a) (h.2 a)
  | some s =>
    obtain ⟨p, c, h1, h2, h3, h4, h5⟩ := h
    rcases z with z | z
    · rw [(h1 a).mp z, h4]; simp
    · rw [(h2 a).mp z, h5]; simp
section
variable {K : KK} {M : Nat → Bool} {F : Fn} {g gc : G} {s s' : S} {σ : L2.St} {H H' : Hp}
def G.behind (g gc : G) : G := { N0 := fun a => g.N0 a ∨ gc.SA a ∨ gc.CA a, P := g.P, SA := gc.SA, CA := gc.CA }
theorem Rel.called {src' : Option Src} (r : Rel K M g s σ H) (v : Evo (g0 g.N g.SA g.CA) gc H H') (hs : SrcOk gc.SA gc.CA H' src') : Rel K M (g.behind gc) { s with src := src' } σ H' ∧ Evo g (g.behind gc) H H' := by
  have W0 : ∀ a, (g0 g.N g.SA g.CA).W a → g.SA a ∨ g.CA a := fun a h => h.elim (fun ⟨_, z⟩ => by cases z) id
  have hn : ∀ a, (g.behind gc).N a → g.N a ∨ H a = none := fun a h => by
    rcases h with (h | h) | h
    · exact .inl (.inl h)
    · exact (v.sr a h).imp (fun z => .inl (r.srN a z)) id
    · exact .inl (.inr h)
  have kp : ∀ a o, H a = some o → ¬ g.N a → H' a = some o := fun a o e h => v.keep a o e fun z => h (.inl (r.srN a (W0 a z)))
  refine ⟨⟨fun i x e => ?_, r.inj, fun i a h z => ?_, fun a h => ?_, fun a h => .inr h, hs, r.len⟩, ?_⟩
  · obtain ⟨u, e1, hx⟩ := r.slot i x e
    refine ⟨u, e1, ?_⟩
    cases x with
    | d d =>
      refine ⟨fun c => ?_, fun c => (hx.2 c).move kp (fun _ _ => seq_keep v.tup v.frz) hn⟩
      obtain ⟨p, e2, hp, t⟩ := hx.1 c
      refine ⟨p, e2, hp, t.move ?_ kp (fun _ _ => seq_keep v.tup v.frz) hn⟩
      cases q : H p with
      | none => exact absurd q t.nn
      | some o => exact v.keep p o q fun z => r.sep i p hp (r.srN p (W0 p z))
    | z d => exact Rp.move kp (fun _ _ => seq_keep v.tup v.frz) hn hx
    | src => obtain ⟨a, e2, h⟩ := hx; exact ⟨a, e2, v.sa a h⟩
    | srcc => obtain ⟨a, e2, h⟩ := hx; exact ⟨a, e2, v.ca a h⟩
  · rcases z with z | z
    · exact r.sep i a h z
    · exact (v.sr a z).elim (fun q => r.sep i a h (r.srN a q)) fun q => r.ex a (.inr ⟨i, h⟩) q
  · rcases hn a h with z | z
    · exact v.grow a (r.ex a z)
    · rcases h with (h | h) | h
      · exact absurd z (r.ex a (.inl h))
      · exact hs.ex a h
      · exact absurd z (r.ex a (.inr h))
  · refine ⟨hn, fun a h => ?_, v.sa, v.ca, fun a h => .inl h, fun a o e hw => v.keep a o e fun z => hw (.inr (W0 a z)), v.tup, v.frz, v.grow, fun a h => v.sr a h⟩
    rcases h with h | h
    · exact .inl (.inl h)
    · exact (v.sr a h).imp .inr id
end
section
variable {X : Cx} {M : Nat → Bool} {F : Fn} {e : Expr} {es : List Expr} {x : Str} {p pos : Pos} {k n : Nat} {nm : String}
def tCallG (sp : List V → Hp → VK → Prop) (t : TA) : TE := fun σ H Q => t σ H fun vs H1 => sp vs H1 Q
theorem run_g {f : Addr} {fd : FuncData} {ps : List Str} {sp : List V → Hp → VK → Prop} {pins : List (Addr × Obj)} {σ : L2.St} {H : Hp} {s : Shared} {Q : VK} {us : List Value} {vs : List V} (D : FnG X.prog X.w X.K X.mg X.base k f fd ps sp) (hr : Room k X.A) (hgd : X.A.guards = some []) (hb : Binds X.K fd ps [])
    (I : Inv X pins σ H s) (r : Vals vs us) (h : sp vs H Q) : wpAny (model X.prog X.w) X.A (call (.ref f) us) (EP X pins σ Q) X.xe s := by
  have hl : us.length = ps.length := by rw [← r.length]; exact D.len _ _ _ h
  have b := hb s us I.kIn (by rw [List.append_nil]; exact hl)
  rw [List.append_nil] at b
  refine wpAny_call (codeAny_mono (D.run X.A X.stack s H ⟨us, []⟩ us vs Q hr hgd I.env0 b r h) fun res s' hq => ?_)
  cases res with
  | error er => exact hq.elim
  | ok fl =>
    cases fl with
    | ret u => exact I.after hq
    | next => exact hq.elim
    | brk => exact hq.elim
    | cont => exact hq.elim
theorem tx_call {cs : List CE} {σ : L2.St} {H : Hp} {Q : VK} (hlen : cs.length = n) (h : TX X.kk F M false (cCall nm cs) σ H Q) : tCallG (SpF X.kk F nm n) (TXA X.kk F M cs) σ H Q := by
  obtain ⟨g, s, y, s', r, ev, q⟩ := h
  unfold cCall at ev
  split at ev
  · rename_i xs s1 e1
    split at ev
    · rename_i y' src' e2
      cases ev
      refine ⟨g, s, xs, s1, r, e1, fun vs g1 H1 r1 v1 rp => ⟨?_, g1.N, g1.SA, g1.CA, xs, s1.src, y, src', r1.ex, fun a z => .inl (r1.srN a z), r1.src, ?_, e2, fun v gc H' vc hs hN rv => ?_⟩⟩
      · have len : ∀ {cs : List CE} {s : S} {xs : List Vx} {s1 : S}, evArgs cs F s = some (xs, s1) → xs.length = cs.length := by
          intro cs
          induction cs with
          | nil => intro s xs s1 e; cases e; rfl
          | cons c cs ih =>
            intro s xs s1 e
            unfold evArgs at e
            split at e
            · split at e
              · rename_i e3
                cases e
                rw [List.length_cons, List.length_cons, ih e3]
              · cases e
            · cases e
        rw [rp.length, len e1]; exact hlen
      · refine Paired.mapP rp fun v z hz => ?_
        cases z with
        | d d => exact Rp.forbid (fun a h => .inl (g0_N.mp h)) hz
        | z d => exact Rp.forbid (fun a h => .inl (g0_N.mp h)) hz
        | src => exact hz
        | srcc => exact hz
      · obtain ⟨r2, v2⟩ := r1.called vc hs
        refine q v _ H' r2 (v1.trans v2) ?_ fun z => nomatch z
        cases y with
        | d d =>
          refine Rp.forbid (fun a h => ?_) rv
          rcases h with (h | h) | h
          · exact .inl (.inl (vc.n0 a (.inl h)))
          · exact .inl (.inl (hN a h))
          · exact .inl (.inl (vc.n0 a (.inr h)))
        | z d =>
          refine Rp.forbid (fun a h => ?_) rv
          rcases h with (h | h) | h
          · exact .inl (.inl (vc.n0 a (.inl h)))
          · exact .inl (.inl (hN a h))
          · exact .inl (.inl (vc.n0 a (.inr h)))
        | src => exact rv
        | srcc => exact rv
    · cases ev
  · cases ev
/-- f(e, ..) -/
theorem sx_call {cs : List CE} (C : Callee X.prog X.w X.K X.mg X.base F k nm x n) (hr : Room k X.A) (hgd : X.A.guards = some []) (hg : Gl X x) (ha : PA X (e :: es) (TXA X.kk F M cs)) (hlen : cs.length = n) (hdb : (x == ("__debug__" : Str)) = false := by decide)
    (he : starEach (e :: es) X.env = (false, eval e X.env) :: starEach es X.env := by rfl) (hpl : (backTo pos (starEach es X.env)).any (·.1) = false := by rfl) : PE X (.Call (.Name x p) (e :: es) [] pos) (TX X.kk F M false (cCall nm cs)) := by
  obtain ⟨f, fd, ps, D, hm, hk, hb⟩ := C
  refine ⟨fun pins s σ H Q I h => ?_⟩
  refine wpAny_Call_Name_kw (ld_glob I hg hm ?_ hdb)
  refine PySem.W.callWith_K (h₀ := X.base) I.ok.mod.kin hk (thn (ha.run pos pins s σ H _ I (tx_call hlen h)) fun us s1 ⟨vs, H1, I1, r, q⟩ => ⟨I1.kIn, ?_⟩) he hpl
  exact run_g D hr hgd hb I1 r q
end
end Ev
/-! Ev14: the law's source; a comprehension for a name. -/
namespace Ev
open PySem PySem.Spec L2

section
variable {K : KK} {M : Nat → Bool} {F : Fn} {g g' : G} {s s' : S} {σ : L2.St} {H H' : Hp}
/-- something that no data stand on is written -/
theorem Rel.hidden {p : Addr} {o o' : HO} {SA' CA' : Addr → Prop} {src' : Option Src} (r : Rel K M g s σ H) (hp : g.N0 p) (e : H p = some o) (ho : Plain0 o) (hs : SrcOk SA' CA' (upd H p o') src') (hsa : ∀ a, g.SA a → SA' a) (hca : ∀ a, g.CA a → CA' a) (hN : ∀ a, SA' a ∨ CA' a → g.N0 a) :
    Rel K M { g with SA := SA', CA := CA' } { s with src := src' } σ (upd H p o') where
  slot := fun i x ei => by
    obtain ⟨v, h1, h2⟩ := r.slot i x ei
    refine ⟨v, h1, ?_⟩
    have hNp : g.N p := .inl hp
    cases x with
    | d d => exact ⟨fun c => let ⟨b, e1, q, t⟩ := h2.1 c; ⟨b, e1, q, t.upd hNp e ho fun z => r.sep i b q (by rw [z]; exact hp)⟩, fun c => (h2.2 c).upd hNp e ho⟩
    | z d => exact Rp.upd hNp e ho h2
    | src => obtain ⟨a, e1, h⟩ := h2; exact ⟨a, e1, hsa a h⟩
    | srcc => obtain ⟨a, e1, h⟩ := h2; exact ⟨a, e1, hca a h⟩
  inj := r.inj
  sep := r.sep
  ex := fun a h => by
    by_cases z : a = p
    · rw [z, upd_same]; simp
    · rw [upd_ne z]; exact r.ex a h
  srN := hN
  src := hs
  len := r.len
theorem Evo.hidden {p : Addr} {o o' : HO} (hp : g.W p) (e : H p = some o) (ho : Plain0 o) : Evo g g H (upd H p o') :=
  ⟨fun _ h => .inl h, fun _ h => .inl h, fun _ h => h, fun _ h => h, fun _ h => h, fun a u h hw => by rw [upd_ne (fun z => hw (by rw [z]; exact hp))]; exact h, upd_tup e ho, upd_frz e ho, fun a h => by
    by_cases z : a = p
    · rw [z, upd_same]; simp
    · rw [upd_ne z]; exact h, fun _ h => .inl h⟩
end

/-- a field of the source that tells a number -/
inductive SF where
  | left | mixed | turn
def SF.str : SF → Str
  | .left => "left"
  | .mixed => "mixed"
  | .turn => "turn"
def SF.get : SF → Src → Int
  | .left, s => s.left
  | .mixed, s => s.mixed
  | .turn, s => s.turn
def SF.set : SF → Src → Int → Src
  | .left, s, i => { s with left := i }
  | .mixed, s, i => { s with mixed := i }
  | .turn, s, i => { s with turn := i }
/-- source[..] -/
def cSF (q : SF) (i : Nat) : CE := fun _ s => match s.env[i]? with
  | some (some .src) => match s.src with
    | some x => some (.d (.int (q.get x)), s)
    | none => none
  | _ => none
def cCells (i : Nat) : CE := fun _ s => match s.env[i]? with
  | some (some .src) => match s.src with
    | some _ => some (.srcc, s)
    | none => none
  | _ => none
def sSF (q : SF) (i : Nat) (c : CE) : CS := fun F s => match c F s with
  | some (.d (.int k), s1) => match s1.env[i]? with
    | some (some .src) => match s1.src with
      | some x => some (.nx, { s1 with src := some (q.set x k) })
      | none => none
    | _ => none
  | _ => none
def cPopS (c : CE) : CE := fun F s => match c F s with
  | some (.srcc, s1) => match s1.src with
    | some x => match x.cells[x.cells.length - 1]? with
      | some y => some (.d (.int y), { s1 with src := some { x with cells := x.cells.dropLast } })
      | none => none
    | none => none
  | _ => none
def cLenS (c : CE) : CE := fun F s => match c F s with
  | some (.srcc, s1) => match s1.src with
    | some x => some (.d (.int x.cells.length), s1)
    | none => none
  | _ => none
section
variable {X : Cx} {M : Nat → Bool} {F : Fn} {a b c e : Expr} {es : List Expr} {pos p p2 apos cpos : Pos} {x : Str} {i : Nat}
theorem src_at {K : KK} {g : G} {s : S} {σ : L2.St} {H : Hp} {y : Src} (r : Rel K M g s σ H) (e : s.env[i]? = some (some .src)) (hs : s.src = some y) :
    ∃ a c, σ[i]? = some (some (.ref a)) ∧ (∀ b, g.SA b ↔ b = a) ∧ (∀ b, g.CA b ↔ b = c) ∧ a ≠ c ∧ H a = some (.dK [(.inr ("cells" : Str), .ref c), (.inr ("left" : Str), .int y.left), (.inr ("mixed" : Str), .int y.mixed), (.inr ("turn" : Str), .int y.turn)]) ∧ H c = some (.lst (y.cells.map V.int)) := by
  obtain ⟨v, ev, a', rfl, ha⟩ := r.slot i _ e
  have z := r.src
  rw [hs] at z
  obtain ⟨a, c, h1, h2, h3, h4, h5⟩ := z
  have := (h1 a').mp ha
  subst this
  exact ⟨a', c, ev, h1, h2, h3, h4, h5⟩
theorem sx_SF (q : SF) {j} (hu : X.A.units + 1 < cLine) (hN : X.N[i]? = some x) (hv : Vis X.env.scope x) (hd : (x == ("__debug__" : Str)) = false := by decide) (hcd : (x == ("__classdict__" : Str)) = false := by decide) : PE X (.Subscript (.Name x p) (.Constant (.str q.str) j p2) pos) (TX X.kk F M true (cSF q i)) :=
  peI (pe_dget hu (pe_var hN hv hd hcd) pe_str fun _ _ => rfl) fun σ H Q ⟨g, s, y, s', r, ev, z⟩ => by
    unfold cSF at ev
    split at ev
    · rename_i e1
      split at ev
      · rename_i sr e2
        cases ev
        obtain ⟨a, c, ea, h1, h2, h3, h4, h5⟩ := src_at r e1 e2
        refine ⟨_, ea, a, .int (q.get sr), rfl, DGet.k (k := .inr q.str) h4 |> fun z => ?_, z _ g H r Evo.refl (.int _) fun _ d e h => by cases e; cases h⟩
        cases q <;> exact z
      · cases ev
    · cases ev
theorem sx_cells {j} (hu : X.A.units + 1 < cLine) (hN : X.N[i]? = some x) (hv : Vis X.env.scope x) (hd : (x == ("__debug__" : Str)) = false := by decide) (hcd : (x == ("__classdict__" : Str)) = false := by decide) : PE X (.Subscript (.Name x p) (.Constant (.str ("cells" : Str)) j p2) pos) (TX X.kk F M false (cCells i)) :=
  peI (pe_dget hu (pe_var hN hv hd hcd) pe_str fun _ _ => rfl) fun σ H Q ⟨g, s, y, s', r, ev, z⟩ => by
    unfold cCells at ev
    split at ev
    · rename_i e1
      split at ev
      · rename_i sr e2
        cases ev
        obtain ⟨a, c, ea, h1, h2, h3, h4, h5⟩ := src_at r e1 e2
        exact ⟨_, ea, a, .ref c, rfl, DGet.k (k := .inr ("cells" : Str)) h4, z _ g H r Evo.refl ⟨c, rfl, (h2 c).mpr rfl⟩ fun z => nomatch z⟩
      · cases ev
    · cases ev
theorem ss_SF (q : SF) {j} {ce : CE} {fr : Bool} (hu : X.A.units + 1 < cLine) (hN : X.N[i]? = some x) (hv : Vis X.env.scope x) (he : PE X e (TX X.kk F M fr ce)) (hd : (x == ("__debug__" : Str)) = false := by decide) (hcd : (x == ("__classdict__" : Str)) = false := by decide)
    (hs : swapsWith e (some (.Subscript (.Name x p) (.Constant (.str q.str) j p2) apos)) pos.line X.env = pure false := by rfl) : PS X (.Assign [.Subscript (.Name x p) (.Constant (.str q.str) j p2) apos] e pos) (TSt X.kk F M (sSF q i ce)) :=
  psI (ps_dput hu (pe_var hN hv hd hcd) pe_str he hs) fun D σ H ⟨g, s, f, s', r, ev, z⟩ => by
    unfold sSF at ev
    split at ev
    · rename_i k s1 e1
      split at ev
      · rename_i e2
        split at ev
        · rename_i sr e3
          cases ev
          refine ⟨g, s, .d (.int k), s1, r, e1, fun v g1 H1 r1 v1 rp _ => ?_⟩
          have ek : v = .int k := by cases rp; rfl
          subst ek
          obtain ⟨a, c, ea, h1, h2, h3, h4, h5⟩ := src_at r1 e2 e3
          refine ⟨_, ea, a, _, rfl, DPut.k (k := .inr q.str) h4 (by rw [sizeLine_eq]; simp), ?_⟩
          have hN0 : g1.N0 a := r1.srN a (.inl ((h1 a).mpr rfl))
          have hW : g1.W a := .inr (.inl ((h1 a).mpr rfl))
          refine z σ _ _ (r1.hidden (SA' := g1.SA) (CA' := g1.CA) hN0 h4 trivial ?_ (fun _ h => h) (fun _ h => h) r1.srN) (v1.trans (Evo.hidden hW h4 trivial))
          refine ⟨a, c, h1, h2, h3, ?_, by rw [upd_ne (Ne.symm h3)]; cases q <;> exact h5⟩
          rw [upd_same]
          cases q <;> rfl
        · cases ev
      · cases ev
    · cases ev
theorem sx_popS {ce : CE} {fr : Bool} (he : PE X e (TX X.kk F M fr ce)) (hbase : attributeBase e "pop" X.env (eval e X.env) = eval e X.env := by rfl) (hline : (apos.endLine == cpos.line) = true := by rfl) :
    PE X (.Call (.Attribute e "pop" apos) [] [] cpos) (TX X.kk F M true (cPopS ce)) :=
  peI (pe_bm0 PySem.F.plainAttrs_list PySem.F.slot_list_pop PySem.F.type_list_pop mt_pop he hbase hline) fun σ H Q ⟨g, s, y, s', r, ev, z⟩ => by
    unfold cPopS at ev
    split at ev
    · rename_i s1 e1
      split at ev
      · rename_i sr e2
        split at ev
        · rename_i y e3
          cases ev
          refine ⟨g, s, .srcc, s1, r, e1, fun v g1 H1 r1 v1 rp _ => ?_⟩
          obtain ⟨c', rfl, hc⟩ := rp
          have q := r1.src
          rw [e2] at q
          obtain ⟨a, c, h1, h2, h3, h4, h5⟩ := q
          have := (h2 c').mp hc
          subst this
          have hN0 : g1.N0 c' := r1.srN c' (.inr hc)
          have hW : g1.W c' := .inr (.inr hc)
          refine ⟨.inl ⟨rfl, _, .inl (.inl h5)⟩, c', sr.cells.map V.int, .int y, rfl, rfl, h5, by rw [List.length_map, List.getElem?_map, e3]; rfl, ?_⟩
          refine z _ _ _ (r1.hidden (SA' := g1.SA) (CA' := g1.CA) hN0 h5 trivial ?_ (fun _ h => h) (fun _ h => h) r1.srN) (v1.trans (Evo.hidden hW h5 trivial)) (.int _) fun _ d e h => by cases e; cases h
          exact ⟨a, c', h1, h2, h3, by rw [upd_ne h3]; exact h4, by rw [upd_same, List.map_dropLast]⟩
        · cases ev
      · cases ev
    · cases ev
theorem sx_lenS {ce : CE} {fr : Bool} (hg : Gl X ("len" : Str)) (hm : X.mg ("len" : Str) = none) (he : PE X e (TX X.kk F M fr ce)) 
    (hst : starEach [e] X.env = (false, eval e X.env) :: starEach [] X.env := by rfl) (hpl : (backTo pos (starEach [] X.env)).any (·.1) = false := by rfl) : PE X (.Call (.Name ("len" : Str) p) [e] [] pos) (TX X.kk F M true (cLenS ce)) :=
  peI (pe_callB call_len_seq hg hm rfl (pa_cons he pa_nil hst) (by decide) (by decide) hst hpl) fun σ H Q ⟨g, s, y, s', r, ev, z⟩ => by
    unfold cLenS at ev
    split at ev
    · rename_i s1 e1
      split at ev
      · rename_i sr e2
        cases ev
        refine ⟨g, s, .srcc, _, r, e1, fun v g1 H1 r1 v1 rp _ => ?_⟩
        obtain ⟨c', rfl, hc⟩ := rp
        have q := r1.src
        rw [e2] at q
        obtain ⟨a, c, h1, h2, h3, h4, h5⟩ := q
        have := (h2 c').mp hc
        subst this
        refine ⟨c', sr.cells.map V.int, rfl, .inl (.inl (.inl h5)), ?_⟩
        rw [List.length_map]
        exact z _ _ _ r1 v1 (.int _) fun _ d e h => by cases e; cases h
      · cases ev
    · cases ev

/-! ### the new source -/
def cellsOf : List PyData → Option (List Int)
  | [] => some []
  | .int i :: ds => (cellsOf ds).map (i :: ·)
  | _ => none
theorem ints_at {K : KK} {N : Addr → Prop} {H : Hp} : ∀ {xs : List V} {ds : List PyData} {is : List Int}, RpA K N H xs ds → cellsOf ds = some is → xs = is.map V.int
  | _, _, _, .nil, e => by cases e; rfl
  | _, _, _, .cons (d := d) h t, e => by
    cases d with
    | int i =>
      unfold cellsOf at e
      rw [Option.map_eq_some_iff] at e
      obtain ⟨js, e1, rfl⟩ := e
      cases h
      rw [List.map_cons, ints_at t e1]
    | _ => cases e
def cSrc (c1 c2 c3 c4 : CE) : CE := fun F s => match c1 F s with
  | some (.d (.list ds), s1) => match cellsOf ds with
    | some cs => match c2 F s1 with
      | some (.d (.int l), s2) => match c3 F s2 with
        | some (.d (.int m), s3) => match c4 F s3 with
          | some (.d (.int t), s4) => match s4.src with
            | none => some (.src, { s4 with src := some ⟨cs, l, m, t⟩ })
            | _ => none
          | _ => none
        | _ => none
      | _ => none
    | none => none
  | _ => none
theorem sx_src {e1 e2 e3 e4 : Expr} {j1 j2 j3 j4} {q1 q2 q3 q4 : Pos} {c1 c2 c3 c4 : CE} {f2 f3 f4 : Bool} (h1 : PE X e1 (TX X.kk F M true c1)) (h2 : PE X e2 (TX X.kk F M f2 c2)) (h3 : PE X e3 (TX X.kk F M f3 c3)) (h4 : PE X e4 (TX X.kk F M f4 c4)) :
    PE X (.Dict [some (.Constant (.str ("cells" : Str)) j1 q1), some (.Constant (.str ("left" : Str)) j2 q2), some (.Constant (.str ("mixed" : Str)) j3 q3), some (.Constant (.str ("turn" : Str)) j4 q4)] [e1, e2, e3, e4] pos) (TX X.kk F M false (cSrc c1 c2 c3 c4)) :=
  peI (pe_disp (pps_cons pe_str h1 (pps_cons pe_str h2 (pps_cons pe_str h3 (pps_cons pe_str h4 pps_nil)))) rfl rfl (by simp) (by simp)) fun σ H Q ⟨g, s, y, s', r, ev, z⟩ => by
    unfold cSrc at ev
    split at ev
    rotate_left
    · cases ev
    rename_i ds s1 e1
    split at ev
    rotate_left
    · cases ev
    rename_i cs ei
    split at ev
    rotate_left
    · cases ev
    rename_i l s2 e2
    split at ev
    rotate_left
    · cases ev
    rename_i m s3 e3
    split at ev
    rotate_left
    · cases ev
    rename_i t s4 e4
    split at ev
    rotate_left
    · cases ev
    rename_i e5
    cases ev
    intro p hp
    have k0 : Same H (upd H p (.dK [])) := fun b o e => by rw [upd_ne (ne_of_none e hp)]; exact e
    have r0 := r.fresh (H' := upd H p (.dK [])) hp k0 (by rw [upd_same]; simp)
    have v0 : Evo g (g.lock p) H (upd H p (.dK [])) := by
      have e := Evo.same (g := g) k0
      exact ⟨fun b h => (G.lock_N.mp h).elim .inl fun z => .inr (by rw [z]; exact hp), fun b h => .inl h, fun _ h => h, fun _ h => h, fun _ h => .inl h, e.keep, e.tup, e.frz, e.grow, fun _ h => .inl h⟩
    refine ⟨g.lock p, s, _, s1, r0, e1, fun v1 g1 H1 r1 w1 rp1 f1 => ?_⟩
    obtain ⟨a, g1', rfl, ha, r1', w1', n1, sa1, ca1, xs, ex, rxs⟩ := f1 rfl _ rfl rfl
    have hxs := ints_at rxs ei
    refine ⟨g1', s1, _, s2, r1', e2, fun v2 g2 H2 r2 w2 rp2 _ => ⟨g2, s2, _, s3, r2, e3, fun v3 g3 H3 r3 w3 rp3 _ => ⟨g3, s3, _, s4, r3, e4, fun v4 g4 H4 r4 w4 rp4 _ => ?_⟩⟩⟩
    have i2 : v2 = .int l := by cases rp2; rfl
    have i3 : v3 = .int m := by cases rp3; rfl
    have i4 : v4 = .int t := by cases rp4; rfl
    subst i2 i3 i4
    have w := w2.trans (w3.trans w4)
    have W := w1'.trans w
    have npW : ¬ (g.lock p).W p := by
      rintro (⟨j, z⟩ | z)
      · exact r0.sep j p z (.inr rfl)
      · exact r.ex p (.inl (r.srN p z)) hp
    have naW : ¬ g1'.W a := by
      rintro (⟨j, z⟩ | z | z)
      · exact r1'.sep j a z n1
      · exact sa1 z
      · exact ca1 z
    have hp4 : H4 p = some (.dK []) := W.keep p _ upd_same npW
    have ha4 : H4 a = some (.lst xs) := w.keep a _ ex naW
    have np4 : g4.N0 p := W.n0 p (.inr rfl)
    have na4 : g4.N0 a := w.n0 a n1
    have hpa : p ≠ a := fun z => by rw [z, upd_same] at ha; cases ha
    have hHa : H a = none := by rw [upd_ne (Ne.symm hpa)] at ha; exact ha
    have S4 : (∀ b, ¬ g4.SA b) ∧ ∀ b, ¬ g4.CA b := by have q := r4.src; rw [e5] at q; exact q
    refine ⟨hp4, [(.inr ("cells" : Str), .ref a), (.inr ("left" : Str), .int l), (.inr ("mixed" : Str), .int m), (.inr ("turn" : Str), .int t)], rfl, by simp, ?_⟩
    have r5 := r4.hidden (p := p) (o := .dK []) (o' := .dK (mergeK [] [(.inr ("cells" : Str), .ref a), (.inr ("left" : Str), .int l), (.inr ("mixed" : Str), .int m), (.inr ("turn" : Str), .int t)])) (SA' := fun b => b = p) (CA' := fun b => b = a) (src' := some ⟨cs, l, m, t⟩) np4 hp4 trivial
      ⟨p, a, fun _ => Iff.rfl, fun _ => Iff.rfl, hpa, by rw [upd_same]; rfl, by rw [upd_ne (Ne.symm hpa), ha4, hxs]⟩ (fun b h => absurd h (S4.1 b)) (fun b h => absurd h (S4.2 b)) (fun b h => by
        rcases h with h | h
        · rw [h]; exact np4
        · rw [h]; exact na4)
    refine z (.ref p) _ _ r5 ?_ ⟨p, rfl, rfl⟩ fun z => nomatch z
    have V := v0.trans W
    refine ⟨V.n, fun b h => ?_, fun b h => absurd (V.sa b h) (S4.1 b), fun b h => absurd (V.ca b h) (S4.2 b), V.n0, fun b o h hw => ?_, fun b ys h => ?_, fun b o u h => ?_, fun b h => ?_, fun b h => ?_⟩
    · rcases h with h | h | h
      · exact V.w b (.inl h)
      · exact .inr (by rw [h]; exact hp)
      · exact .inr (by rw [h]; exact hHa)
    · rw [upd_ne (ne_of_none h hp)]; exact V.keep b o h hw
    · rw [upd_ne (ne_of_none h hp)]; exact V.tup b ys h
    · rw [upd_ne (ne_of_none h hp)]; exact V.frz b o u h
    · by_cases q : b = p
      · rw [q, upd_same]; simp
      · rw [upd_ne q]; exact V.grow b h
    · rcases h with h | h
      · exact .inr (by rw [h]; exact hp)
      · exact .inr (by rw [h]; exact hHa)

/-! ### a comprehension for a name -/
theorem tx_set {ce : CE} {fr : Bool} {σ : L2.St} {H : Hp} {D : Ends} (hm : M i = true → fr = true) (h : TSt X.kk F M (sPar [i] [ce]) D σ H) : TX X.kk F M fr ce σ H fun v H1 => gName i v σ H1 D.nx := by
  obtain ⟨g, s, xs, s', r, ev, q⟩ := tx_par h
  unfold evArgs at ev
  split at ev
  · rename_i y s1 e1
    rw [show evArgs [] F s1 = some ([], s1) from rfl] at ev
    cases ev
    refine ⟨g, s, y, s', r, e1, fun v g1 H1 r1 v1 rp1 f1 => ?_⟩
    obtain ⟨g2, s2, xs2, s2', r2, e2, q2⟩ := pend_cons (F := F) (m := M i) (ms := []) (cs := []) (xs := []) (Q := fun vs H1 => D.nx (setAll [i] vs σ) H1) r1 v1 rp1 (fun z => f1 (hm z)) rfl q
    cases e2
    exact q2 [] g2 H1 [] r2 Evo.refl .nil fun _ h => nomatch h
  · cases ev
theorem ss_setLc {y : Str} {py spos : Pos} {elt tg iter : Expr} {ifs : List Expr} {scope : Scope} {own : List (Str × Nat)} {ic : IC} {ts : List Nat} {as : PyData → S → Option S} {cb : CB} {ce : CE} {fr : Bool} (hc : X.calm = true) (hN : X.N.Nodup) (hy : X.N[i]? = some y) (hyl : X.env.scope.names.lookup y = some .local)
    (hi : PI X tg iter (TIX X.kk F M ic)) (ok : BlkOk X.N X.env.scope scope own) (hm : ∀ i ∈ own.map (·.2), M i = false) (hts : ∀ t ∈ ts, t ∈ own.map (·.2))
    (hg : ∀ (s : Shared) (H : Hp) (C : Addr) (cl : List (Str × Addr)) (fp : List Addr), PG (X.blk s H scope (compEnvC scope cl C X.env) fp) tg (TGX X.kk M ts as)) (ht : ∀ (s : Shared) (H : Hp) (C : Addr) (cl : List (Str × Addr)) (fp : List Addr), PTs (X.blk s H scope (compEnvC scope cl C X.env) fp) ifs (TB X.kk F M cb))
    (he : ∀ (s : Shared) (H : Hp) (C : Addr) (cl : List (Str × Addr)) (fp : List Addr), PE (X.blk s H scope (compEnvC scope cl C X.env) fp) elt (TX X.kk F M fr ce)) (hsw : swapsWith (.ListComp elt [⟨tg, iter, ifs, 0⟩] scope pos) (some (.Name y py)) spos.line X.env = pure true) (hs : ∀ x, foldedSetIterable iter X.env x = pure x := by intro _; rfl) :
    PS X (.Assign [.Name y py] (.ListComp elt [⟨tg, iter, ifs, 0⟩] scope pos) spos) (TSt X.kk F M (sPar [i] [cLc (own.map (·.2)) as ic cb ce])) :=
  psI (ps_setLc hc hN hy hyl hsw hi ok hg ht he hs) fun D σ H h => tx_lc hm hts (tx_set (fun _ => rfl) h)
end
end Ev
/-! Ev15: repr. -/
namespace Ev
open PySem PySem.Spec L2
def fRepr : List PyData → Option PyData
  | [d] => if PyData.canLay0 d && d.showable && decide (d.shown.length ≤ sizeLine) && decide (d.depth ≤ 64) then some (.str d.shown) else none
  | _ => none
section
variable {X : Cx}
theorem cd_repr (hu : X.A.units + 70 < cLine) (hg : X.A.guards = some []) : CallR X (.builtin "repr") (RnD X.kk fRepr) := by
  intro pins s σ H xs us Q I r ⟨N, ds, d, ex, rp, hf, q⟩
  unfold fRepr at hf
  split at hf
  · split at hf
    · rename_i d0 hz
      cases hf
      simp only [Bool.and_eq_true, decide_eq_true_eq] at hz
      obtain ⟨⟨⟨h1, h2⟩, h3⟩, h4⟩ := hz
      obtain ⟨v, rfl, h⟩ := rp1 rp
      have dp := h.dp h1
      obtain ⟨u, rfl, ru⟩ := L2.vals1 r
      obtain ⟨as, rd⟩ := Dp.reads I _ _ _ dp ru
      have fin : ∀ h' t tk, (∀ b o, s.heap.get? b = some o → h'.get? b = some o) → EP X pins σ Q (.str d0.shown t) { s with heap := h', toks := tk } := fun h' t tk hk => by
        have I' := I.kept (h' := h') (t' := tk) hk
        exact ⟨.str d0.shown, H, I', ⟨t, rfl⟩, vr_val (.str _) rfl q⟩
      have tok : ∀ t, EP X pins σ Q (.str d0.shown t) { s with toks := s.toks + 1 } := fun t => fin s.heap t _ fun _ _ e => e
      cases rd with
      | none => exact PySem.P.repr_of_none (tok _)
      | bool b => exact PySem.P.repr_of_bool (tok _)
      | int i t => exact PySem.P.repr_of_int (by simpa [PyData.showable] using h2) (tok _)
      | str x t => exact PySem.P.repr_of_str (tok _) (by simpa [PyData.shown] using h3)
      | list g1 g2 g3 g4 => exact repr_of_reads' (.list g1 g2 g3 g4) h2 (PyData.noDict_hsm (PyData.hasDict_of_canLay _ h1)) hg (by omega) (fun _ _ e => e) (fun h' u tk hk => fin h' u tk hk) h3
      | tuple g1 g2 g3 g4 => exact repr_of_reads' (.tuple g1 g2 g3 g4) h2 (PyData.noDict_hsm (PyData.hasDict_of_canLay _ h1)) hg (by omega) (fun _ _ e => e) (fun h' u tk hk => fin h' u tk hk) h3
      | dict g1 g2 g3 g4 g5 => simp [PyData.canLay0] at h1
    · cases hf
  · cases hf
end
end Ev
/-! Ev16: dicts, by their data. -/
namespace Ev
open PySem PySem.Spec L2

/-! ### data -/
def keq (a b : PyData) : Bool := match keyOf a, keyOf b with
  | some x, some y => decide (x = y)
  | _, _ => false
def dGet (kvs : List (PyData × PyData)) (k : PyData) : Option PyData := (kvs.find? fun p => keq p.1 k).map (·.2)
def dPut (kvs : List (PyData × PyData)) (k v : PyData) : List (PyData × PyData) :=
  if (kvs.any fun p => keq p.1 k) = true then kvs.map (fun p => if keq p.1 k = true then (p.1, v) else p) else kvs ++ [(k, v)]
def isK1 : PyData → Bool
  | .int _ | .str _ => true
  | _ => false
def isKN : PyData → Bool
  | .tuple ds => match keyOf (.tuple ds) with
    | some k => decide (k.depth ≤ 8)
    | none => false
  | _ => false
/-- may k be asked of the dict kvs -/
def dKey (kvs : List (PyData × PyData)) (k : PyData) : Bool := (isK1 k && kvs.all fun p => isK1 p.1) || (isKN k && kvs.all fun p => isKN p.1)

/-! ### entries -/
def E2 (K : KK) (N : Addr → Prop) (H : Hp) (p : V × V) (q : PyData × PyData) : Prop := Rp K N H p.1 q.1 ∧ Rp K N H p.2 q.2
inductive DE (K : KK) (a : Addr) : HO → List (V × V) → List (PyData × PyData) → Prop
  | dK {ob : Obj} {ks : List (Key × V)} {kvs} : DE K a (.ext (PhiK K a ob ks)) (ks.map fun p => (kV p.1, p.2)) kvs
  | dN {ob : Obj} {xs : List (NestedKey × Addr × V)} {kvs} : xs.map (fun x => some x.1) = kvs.map (fun p => keyOf p.1) → DE K a (.ext (PhiN K a ob xs)) (xs.map fun x => (.ref x.2.1, x.2.2)) kvs
def DAt (K : KK) (N : Addr → Prop) (H : Hp) (a : Addr) (kvs : List (PyData × PyData)) : Prop := ∃ o es, H a = some o ∧ DE K a o es kvs ∧ Paired (E2 K N H) es kvs
section
variable {K : KK} {N : Addr → Prop} {H : Hp} {a : Addr} {o : HO}
theorem zip_paired : ∀ {kv vv : List V} {kds vds : List PyData}, RpA K N H kv kds → RpA K N H vv vds → kv.length = vv.length → Paired (E2 K N H) (kv.zip vv) (kds.zip vds)
  | _, _, _, _, .nil, .nil, _ => .nil
  | _, _, _, _, .cons h t, .cons h' t', e => .cons ⟨h, h'⟩ (zip_paired t t' (by simpa using e))
  | _, _, _, _, .nil, .cons .., e => by simp at e
  | _, _, _, _, .cons .., .nil, e => by simp at e
theorem paired_fst : ∀ {es : List (V × V)} {kvs : List (PyData × PyData)}, Paired (E2 K N H) es kvs → RpA K N H (es.map (·.1)) (kvs.map (·.1))
  | _, _, .nil => .nil
  | _, _, .cons h t => .cons h.1 (paired_fst t)
theorem paired_snd : ∀ {es : List (V × V)} {kvs : List (PyData × PyData)}, Paired (E2 K N H) es kvs → RpA K N H (es.map (·.2)) (kvs.map (·.2))
  | _, _, .nil => .nil
  | _, _, .cons h t => .cons h.2 (paired_snd t)
theorem zip_self {α β : Type} : ∀ l : List (α × β), (l.map (·.1)).zip (l.map (·.2)) = l
  | [] => rfl
  | p :: l => by rw [List.map_cons, List.map_cons, List.zip_cons_cons, zip_self l]
theorem dat_of {kv vv : List V} {kds vds : List PyData} (e : H a = some o) (d : DObj K a o kv vv kds) (r1 : RpA K N H kv kds) (r2 : RpA K N H vv vds) : DAt K N H a (kds.zip vds) := by
  have hl : kv.length = vv.length := by cases d <;> simp
  have hz : kds.length = vds.length := by rw [← r1.length, ← r2.length, hl]
  refine ⟨o, kv.zip vv, e, ?_, zip_paired r1 r2 hl⟩
  cases d with
  | dK => rw [List.zip_map']; exact .dK
  | dN h =>
    rw [List.zip_map']
    refine .dN ?_
    rw [h]
    have : (kds.zip vds).map (fun p => keyOf p.1) = ((kds.zip vds).map (·.1)).map keyOf := by rw [List.map_map]; rfl
    rw [this, List.map_fst_zip (by omega)]
theorem DAt.obj {kvs : List (PyData × PyData)} (h : DAt K N H a kvs) : ∃ o kv vv, H a = some o ∧ DObj K a o kv vv (kvs.map (·.1)) ∧ RpA K N H kv (kvs.map (·.1)) ∧ RpA K N H vv (kvs.map (·.2)) := by
  obtain ⟨o, es, e, d, r⟩ := h
  have r1 := paired_fst r
  have r2 := paired_snd r
  cases d with
  | dK =>
    rw [List.map_map] at r1 r2
    exact ⟨_, _, _, e, .dK, r1, r2⟩
  | dN h =>
    rw [List.map_map] at r1 r2
    exact ⟨_, _, _, e, .dN (by rw [h, List.map_map]; rfl), r1, r2⟩
theorem DAt.rp {kvs : List (PyData × PyData)} (h : DAt K N H a kvs) (hn : ¬ N a) : Rp K N H (.ref a) (.dict kvs) := by
  obtain ⟨o, kv, vv, e, d, r1, r2⟩ := h.obj
  have := Rp.dct e d hn r1 r2
  rw [zip_self] at this
  exact this
theorem DAt.top {kvs : List (PyData × PyData)} (h : DAt K N H a kvs) : Top K N H a (.dict kvs) := by
  obtain ⟨o, kv, vv, e, d, r1, r2⟩ := h.obj
  exact ⟨o, kv, vv, _, _, (zip_self kvs).symm, e, d, r1, r2⟩
theorem Top.dat {kvs : List (PyData × PyData)} (h : Top K N H a (.dict kvs)) : DAt K N H a kvs := by
  obtain ⟨o, kv, vv, kds, vds, rfl, e, d, r1, r2⟩ := h
  exact dat_of e d r1 r2
theorem RpV.dct {v : V} {kvs : List (PyData × PyData)} (h : RpV K N H v (.dict kvs)) : ∃ a, v = .ref a ∧ DAt K N H a kvs := by
  rcases h with h | ⟨a, rfl, t⟩
  · generalize hd : PyData.dict kvs = d at h
    cases h with
    | dct e d _ r1 r2 => cases hd; exact ⟨_, rfl, dat_of e d r1 r2⟩
    | _ => cases hd
  · exact ⟨a, rfl, t.dat⟩
end

/-! ### keys in the heap -/
section
variable {X : Cx} {pins : List (Addr × Obj)} {σ : L2.St} {H : Hp} {s : Shared} {N : Addr → Prop}
mutual
theorem nested_of (I : Inv X pins σ H s) : ∀ (d : PyData) (v : V) (u : Value) (k : NestedKey), Rp X.kk N H v d → keyOf d = some k → RelV v u → NestedIs s.heap k u
  | .none, _, _, _, h, e, r => by
    cases h; cases e; cases r; exact .none
  | .bool b, _, _, _, h, e, r => by
    cases h; cases e; cases r; exact .bool rfl
  | .int i, _, _, _, h, e, r => by
    cases h; cases e; obtain ⟨t, rfl⟩ := r; exact .int _ _
  | .str x, _, _, _, h, e, r => by
    cases h; cases e; obtain ⟨t, rfl⟩ := r; exact .text _ _
  | .tuple ds, _, _, _, h, e, r => by
    cases h with
    | tup hs ha =>
      cases r
      unfold keyOf at e
      rw [Option.map_eq_some_iff] at e
      obtain ⟨ks, e1, rfl⟩ := e
      obtain ⟨its, rv, ⟨o, ho, hc, n, hd⟩, _⟩ := I.tuple hs
      exact .tup ho hc hd (nested_all I ds _ its ks ha e1 rv)
  | .list _, _, _, _, _, e, _ => by unfold keyOf at e; cases e
  | .dict _, _, _, _, _, e, _ => by unfold keyOf at e; cases e
theorem nested_all (I : Inv X pins σ H s) : ∀ (ds : List PyData) (vs : List V) (us : List Value) (ks : List NestedKey), RpA X.kk N H vs ds → keysOf ds = some ks → Vals vs us → NestedAll s.heap ks us
  | [], _, _, _, h, e, r => by
    cases h; cases e; cases r; exact .nil
  | d :: ds, _, _, _, h, e, r => by
    cases h with
    | cons h1 h2 =>
      cases r with
      | cons r1 r2 =>
        unfold keysOf at e
        split at e
        · rename_i k ks e1 e2
          cases e
          exact .cons (nested_of I d _ _ _ h1 e1 r1) (nested_all I ds _ _ _ h2 e2 r2)
        · cases e
end

/-! ### a dict of one kind or the other -/
/-- a dict with int and text keys -/
structure AsK (X : Cx) (N : Addr → Prop) (H : Hp) (s : Shared) (a : Addr) (kvs : List (PyData × PyData)) (ks : List (Key × V)) (vs : List (Key × Value)) : Prop where
  rel : Paired (E2 X.kk N H) (ks.map fun p => (kV p.1, p.2)) kvs
  len : ks.length ≤ sizeLine
  sys : (a == sysModules) = false
  kv : KV ks vs
  dict : s.heap.DictOf (mixKind X.prog X.w) a vs
abbrev KN : List (NestedKey × Addr × V) → List (NestedKey × Addr × Value) → Prop := Paired fun x y => x.1 = y.1 ∧ x.2.1 = y.2.1 ∧ RelV x.2.2 y.2.2
structure AsN (X : Cx) (N : Addr → Prop) (H : Hp) (s : Shared) (a : Addr) (kvs : List (PyData × PyData)) (xs : List (NestedKey × Addr × V)) (ys : List (NestedKey × Addr × Value)) : Prop where
  rel : Paired (E2 X.kk N H) (xs.map fun x => (.ref x.2.1, x.2.2)) kvs
  keys : xs.map (fun x => some x.1) = kvs.map (fun p => keyOf p.1)
  len : xs.length ≤ sizeLine
  sys : (a == sysModules) = false
  deep : ∀ x ∈ xs, x.1.depth ≤ 8
  kn : KN xs ys
  dict : s.heap.DictOfH (nestedKind X.prog X.w) a ys
theorem paired_nil {α β : Type} {R : α → β → Prop} {l : List β} (h : Paired R [] l) : l = [] := by cases h; rfl
theorem paired_nil' {α β : Type} {R : α → β → Prop} {l : List α} (h : Paired R l []) : l = [] := by cases h; rfl
theorem DAt.asK (I : Inv X pins σ H s) {a : Addr} {kvs : List (PyData × PyData)} (h : DAt X.kk N H a kvs) (hk : (kvs.all fun p => isK1 p.1) = true) : ∃ ks vs, AsK X N H s a kvs ks vs := by
  obtain ⟨o, es, e, d, r⟩ := h
  cases d with
  | dK =>
    obtain ⟨⟨z, hd, _, vs, kv, dd⟩, _, _⟩ := (show ObjOk X.prog X.w H s.heap a (.ext (PhiK X.kk a _ _)) from I.hok a _ e)
    exact ⟨_, vs, r, z, hd, kv, dd⟩
  | @dN ob xs _ hx =>
    have h0 : xs = [] := by
      cases xs with
      | nil => rfl
      | cons x xs =>
        cases kvs with
        | nil => cases r
        | cons p kvs =>
          cases r with
          | cons r1 _ =>
            rw [List.all_cons, Bool.and_eq_true] at hk
            obtain ⟨rk, _⟩ := r1
            have hk1 := hk.1
            revert hk1 rk
            generalize p.1 = pk
            intro rk hk1
            cases rk <;> cases hk1
    subst h0
    have := paired_nil r
    subst this
    obtain ⟨⟨z, hd, _, h1, ys, kn, es, ep, h2, h3, h4, h5⟩, _, _⟩ := (show ObjOk X.prog X.w H s.heap a (.ext (PhiN X.kk a ob [])) from I.hok a _ e)
    have := paired_nil kn
    subst this
    refine ⟨[], [], .nil, Nat.zero_le _, hd, .nil, ob, es, ep, h1, h2, h3, ?_⟩
    have h6 : es.toList = [] := h4
    rw [show es = #[] from Array.toList_inj.mp h6]
    exact ⟨fun e he => by simp at he, .nil, List.nodup_nil⟩
theorem kn_is (I : Inv X pins σ H s) : ∀ {xs : List (NestedKey × Addr × V)} {ys : List (NestedKey × Addr × Value)} {kvs : List (PyData × PyData)}, KN xs ys → Paired (E2 X.kk N H) (xs.map fun x => (V.ref x.2.1, x.2.2)) kvs → xs.map (fun x => some x.1) = kvs.map (fun p => keyOf p.1) → (∀ x ∈ xs, x.1.depth ≤ 8) →
    ∀ y ∈ ys, (nestedKind X.prog X.w).is s.heap y.1 y.2.1
  | _, _, _, .nil, _, _, _, y, hy => nomatch hy
  | x :: xs, y0 :: ys, p :: kvs, .cons h t, .cons r1 r2, e, hd, y, hy => by
    rw [List.map_cons, List.map_cons] at e
    obtain ⟨e1, e2⟩ := List.cons.inj e
    rcases List.mem_cons.mp hy with rfl | hy
    · obtain ⟨g1, g2, _⟩ := h
      refine ⟨?_, by rw [← g1]; exact hd x List.mem_cons_self⟩
      rw [← g1]
      exact nested_of I _ _ _ _ r1.1 e1.symm (by rw [← g2]; rfl)
    · exact kn_is I t r2 e2 (fun z hz => hd z (List.mem_cons_of_mem _ hz)) y hy
theorem DAt.asN (I : Inv X pins σ H s) {a : Addr} {kvs : List (PyData × PyData)} (h : DAt X.kk N H a kvs) (hk : (kvs.all fun p => isKN p.1) = true) : ∃ xs ys, AsN X N H s a kvs xs ys := by
  obtain ⟨o, es, e, d, r⟩ := h
  cases d with
  | @dK ob ks _ =>
    have h0 : ks = [] := by
      cases ks with
      | nil => rfl
      | cons x xs =>
        cases kvs with
        | nil => cases r
        | cons p kvs =>
          cases r with
          | cons r1 _ =>
            rw [List.all_cons, Bool.and_eq_true] at hk
            obtain ⟨rk, _⟩ := r1
            have hk1 := hk.1
            revert hk1 rk
            generalize p.1 = pk
            intro rk hk1
            obtain ⟨xk, xv⟩ := x
            cases xk <;> cases rk <;> cases hk1
    subst h0
    have := paired_nil r
    subst this
    obtain ⟨⟨z, hd, _, vs, kv, o, es, ep, h1, h2, h3, _, h4, _⟩, _, _⟩ := (show ObjOk X.prog X.w H s.heap a (.ext (PhiK X.kk a ob [])) from I.hok a _ e)
    have := paired_nil kv
    subst this
    refine ⟨[], [], .nil, rfl, Nat.zero_le _, hd, (fun _ h => nomatch h), .nil, o, es, ep, h1, h2, h3, ?_, (fun _ h => nomatch h), List.nodup_nil⟩
    have := h4.length
    have h6 : es.toList = [] := List.length_eq_zero_iff.mp this
    exact h6
  | dN hx =>
    obtain ⟨⟨z, hd, hdp, h1, ys, kn, es, ep, h2, h3, h4, h5⟩, _, _⟩ := (show ObjOk X.prog X.w H s.heap a (.ext (PhiN X.kk a _ _)) from I.hok a _ e)
    exact ⟨_, ys, r, hx, z, hd, hdp, kn, _, es, ep, h1, h2, h3, h4, kn_is I kn r hx hdp, h5⟩
end
end Ev
/-! Ev17: dicts asked and written. -/
namespace Ev
open PySem PySem.Spec L2

def nk : Key → NestedKey
  | .inl i => .num i
  | .inr x => .text x
theorem nk_inj {a b : Key} (h : nk a = nk b) : a = b := by
  cases a <;> cases b <;> cases h <;> rfl
def putN (xs : List (NestedKey × Addr × V)) (k : NestedKey) (b : Addr) (v : V) : List (NestedKey × Addr × V) :=
  if (xs.any fun x => decide (x.1 = k)) = true then xs.map (fun x => if x.1 = k then (x.1, x.2.1, v) else x) else xs ++ [(k, b, v)]
section
variable {K : KK} {N : Addr → Prop} {H : Hp}
theorem keyOf_kV {k : Key} {d : PyData} (h : Rp K N H (kV k) d) : keyOf d = some (nk k) := by
  cases k with
  | inl i => cases h; rfl
  | inr x => cases h; rfl
theorem keq_K {k' kk : Key} {d' kd : PyData} (h : Rp K N H (kV k') d') (e : keyOf kd = some (nk kk)) : keq d' kd = decide (k' = kk) := by
  unfold keq
  rw [keyOf_kV h, e]
  by_cases z : k' = kk
  · subst z; simp
  · have z' : ¬ nk k' = nk kk := fun q => z (nk_inj q)
    simp [z, z']
theorem anyK {kk : Key} {kd : PyData} (e : keyOf kd = some (nk kk)) : ∀ {ks : List (Key × V)} {kvs : List (PyData × PyData)}, Paired (E2 K N H) (ks.map fun p => (kV p.1, p.2)) kvs → (kvs.any fun p => keq p.1 kd) = ks.any fun p => decide (p.1 = kk)
  | [], [], _ => rfl
  | p :: ks, q :: kvs, .cons h t => by rw [List.any_cons, List.any_cons, anyK e t, keq_K h.1 e]
theorem getK {kk : Key} {kd : PyData} (e : keyOf kd = some (nk kk)) : ∀ {ks : List (Key × V)} {kvs : List (PyData × PyData)}, Paired (E2 K N H) (ks.map fun p => (kV p.1, p.2)) kvs → (dGet kvs kd).isSome = (valV ks kk).isSome ∧ ∀ d, dGet kvs kd = some d → ∃ v, valV ks kk = some v ∧ Rp K N H v d
  | [], [], _ => ⟨rfl, fun d h => by cases h⟩
  | p :: ks, q :: kvs, .cons h t => by
    obtain ⟨h1, h2⟩ := getK e t
    have z := keq_K h.1 e
    unfold dGet at h1 h2 ⊢
    unfold valV at h1 h2 ⊢
    rw [List.find?_cons, List.find?_cons, z]
    by_cases c : p.1 = kk
    · rw [decide_eq_true c]
      exact ⟨rfl, fun d hd => by cases hd; exact ⟨_, rfl, h.2⟩⟩
    · rw [decide_eq_false c]
      exact ⟨h1, h2⟩
theorem mapK {kk : Key} {kd : PyData} {v : V} {d : PyData} (e : keyOf kd = some (nk kk)) (rv : Rp K N H v d) : ∀ {ks : List (Key × V)} {kvs : List (PyData × PyData)}, Paired (E2 K N H) (ks.map fun p => (kV p.1, p.2)) kvs →
    Paired (E2 K N H) ((ks.map fun kv => if kv.1 = kk then (kv.1, v) else kv).map fun p => (kV p.1, p.2)) (kvs.map fun p => if keq p.1 kd = true then (p.1, d) else p)
  | [], [], _ => .nil
  | p :: ks, q :: kvs, .cons h t => by
    refine .cons ?_ (mapK e rv t)
    dsimp only
    rw [show keq q.1 kd = decide (p.1 = kk) from keq_K h.1 e]
    by_cases c : p.1 = kk
    · rw [if_pos c, if_pos (decide_eq_true c)]; exact ⟨h.1, rv⟩
    · rw [if_neg c, if_neg (by rw [decide_eq_false c]; simp)]; exact h
theorem paired_app {α β : Type} {R : α → β → Prop} : ∀ {as : List α} {bs : List β} {a : α} {b : β}, Paired R as bs → R a b → Paired R (as ++ [a]) (bs ++ [b])
  | _, _, _, _, .nil, h => .cons h .nil
  | _, _, _, _, .cons h t, r => .cons h (paired_app t r)
theorem putK_rel {kk : Key} {kd : PyData} {v : V} {d : PyData} (rk : Rp K N H (kV kk) kd) (rv : Rp K N H v d) {ks : List (Key × V)} {kvs : List (PyData × PyData)} (h : Paired (E2 K N H) (ks.map fun p => (kV p.1, p.2)) kvs) : Paired (E2 K N H) ((putK ks kk v).map fun p => (kV p.1, p.2)) (dPut kvs kd d) := by
  unfold putK dPut
  rw [anyK (keyOf_kV rk) h]
  split
  · exact mapK (keyOf_kV rk) rv h
  · rw [List.map_append]
    exact paired_app h ⟨rk, rv⟩

theorem keq_N {p kd : PyData} {x k : NestedKey} (h : some x = keyOf p) (e : keyOf kd = some k) : keq p kd = decide (x = k) := by
  unfold keq
  rw [← h, e]
theorem anyN {k : NestedKey} {kd : PyData} (e : keyOf kd = some k) : ∀ {xs : List (NestedKey × Addr × V)} {kvs : List (PyData × PyData)}, xs.map (fun x => some x.1) = kvs.map (fun p => keyOf p.1) → (kvs.any fun p => keq p.1 kd) = xs.any fun p => decide (p.1 = k)
  | [], [], _ => rfl
  | x :: xs, q :: kvs, h => by
    rw [List.map_cons, List.map_cons] at h
    obtain ⟨h1, h2⟩ := List.cons.inj h
    rw [List.any_cons, List.any_cons, anyN e h2, keq_N h1 e]
  | [], _ :: _, h => by simp at h
  | _ :: _, [], h => by simp at h
theorem getN {k : NestedKey} {kd : PyData} (e : keyOf kd = some k) : ∀ {xs : List (NestedKey × Addr × V)} {ys : List (NestedKey × Addr × Value)} {kvs : List (PyData × PyData)}, KN xs ys → Paired (E2 K N H) (xs.map fun x => (V.ref x.2.1, x.2.2)) kvs → xs.map (fun x => some x.1) = kvs.map (fun p => keyOf p.1) →
    (dGet kvs kd).isSome = (atKey ys k).isSome ∧ ∀ d, dGet kvs kd = some d → ∃ p v, atKey ys k = some p ∧ RelV v p.2 ∧ Rp K N H v d
  | _, _, [], .nil, _, _ => ⟨rfl, fun d h => by cases h⟩
  | x :: xs, y :: ys, q :: kvs, .cons h t, .cons r1 r2, e0 => by
    rw [List.map_cons, List.map_cons] at e0
    obtain ⟨e1, e2⟩ := List.cons.inj e0
    obtain ⟨h1, h2⟩ := getN e t r2 e2
    have z := keq_N e1 e
    obtain ⟨g1, g2, g3⟩ := h
    unfold dGet at h1 h2 ⊢
    unfold atKey at h1 h2 ⊢
    rw [List.find?_cons, List.find?_cons, z, g1]
    by_cases c : y.1 = k
    · rw [decide_eq_true c]
      exact ⟨rfl, fun d hd => by cases hd; exact ⟨_, _, rfl, g3, r1.2⟩⟩
    · rw [decide_eq_false c]
      exact ⟨h1, h2⟩
theorem anyXY {k : NestedKey} : ∀ {xs : List (NestedKey × Addr × V)} {ys : List (NestedKey × Addr × Value)}, KN xs ys → (xs.any fun x => decide (x.1 = k)) = (atKey ys k).isSome
  | _, _, .nil => rfl
  | x :: xs, y :: ys, .cons h t => by
    have := anyXY (k := k) t
    unfold atKey at this ⊢
    rw [List.any_cons, List.find?_cons, h.1, this]
    by_cases c : y.1 = k
    · rw [decide_eq_true c]; rfl
    · rw [decide_eq_false c]; rfl
theorem mapXY {k : NestedKey} {v : V} {u : Value} (rv : RelV v u) : ∀ {xs : List (NestedKey × Addr × V)} {ys : List (NestedKey × Addr × Value)}, KN xs ys → KN (xs.map fun x => if x.1 = k then (x.1, x.2.1, v) else x) (ys.map (putAt k u))
  | _, _, .nil => .nil
  | x :: xs, y :: ys, .cons h t => by
    refine .cons ?_ (mapXY rv t)
    unfold putAt
    obtain ⟨g1, g2, g3⟩ := h
    dsimp only
    by_cases c : x.1 = k
    · rw [if_pos c, if_pos (by rw [← g1]; exact c)]; exact ⟨g1, g2, rv⟩
    · rw [if_neg c, if_neg (by rw [← g1]; exact c)]; exact ⟨g1, g2, g3⟩
theorem putN_kn {k : NestedKey} {b : Addr} {v : V} {u : Value} (rv : RelV v u) {xs : List (NestedKey × Addr × V)} {ys : List (NestedKey × Addr × Value)} (h : KN xs ys) : KN (putN xs k b v) (storedH ys k b u) := by
  unfold putN storedH
  rw [anyXY h]
  split
  · exact mapXY rv h
  · exact paired_app h ⟨rfl, rfl, rv⟩
theorem mapN {k : NestedKey} {kd : PyData} {v : V} {d : PyData} (e : keyOf kd = some k) (rv : Rp K N H v d) : ∀ {xs : List (NestedKey × Addr × V)} {kvs : List (PyData × PyData)}, Paired (E2 K N H) (xs.map fun x => (V.ref x.2.1, x.2.2)) kvs → xs.map (fun x => some x.1) = kvs.map (fun p => keyOf p.1) →
    Paired (E2 K N H) ((xs.map fun x => if x.1 = k then (x.1, x.2.1, v) else x).map fun x => (V.ref x.2.1, x.2.2)) (kvs.map fun p => if keq p.1 kd = true then (p.1, d) else p) ∧ (xs.map fun x => if x.1 = k then (x.1, x.2.1, v) else x).map (fun x => some x.1) = (kvs.map fun p => if keq p.1 kd = true then (p.1, d) else p).map (fun p => keyOf p.1)
  | [], [], _, _ => ⟨.nil, rfl⟩
  | x :: xs, q :: kvs, .cons h t, e0 => by
    rw [List.map_cons, List.map_cons] at e0
    obtain ⟨e1, e2⟩ := List.cons.inj e0
    obtain ⟨i1, i2⟩ := mapN e rv t e2
    have z := keq_N e1 e
    rw [List.map_cons, List.map_cons, List.map_cons, List.map_cons, List.map_cons, i2, z]
    by_cases c : x.1 = k
    · rw [if_pos c, if_pos (decide_eq_true c)]
      exact ⟨.cons ⟨h.1, rv⟩ i1, by rw [e1]⟩
    · rw [if_neg c, if_neg (by rw [decide_eq_false c]; simp)]
      exact ⟨.cons h i1, by rw [e1]⟩
theorem putN_rel {k : NestedKey} {b : Addr} {kd : PyData} {v : V} {d : PyData} (e : keyOf kd = some k) (rk : Rp K N H (.ref b) kd) (rv : Rp K N H v d) {xs : List (NestedKey × Addr × V)} {kvs : List (PyData × PyData)} (h : Paired (E2 K N H) (xs.map fun x => (V.ref x.2.1, x.2.2)) kvs) (e0 : xs.map (fun x => some x.1) = kvs.map (fun p => keyOf p.1)) :
    Paired (E2 K N H) ((putN xs k b v).map fun x => (V.ref x.2.1, x.2.2)) (dPut kvs kd d) ∧ (putN xs k b v).map (fun x => some x.1) = (dPut kvs kd d).map (fun p => keyOf p.1) := by
  unfold putN dPut
  rw [anyN e e0]
  split
  · exact mapN e rv h e0
  · rw [List.map_append, List.map_append, List.map_append]
    exact ⟨paired_app h ⟨rk, rv⟩, by rw [e0]; simp [e]⟩
theorem putN_len {xs : List (NestedKey × Addr × V)} {k : NestedKey} {b : Addr} {v : V} : (putN xs k b v).length ≤ xs.length + 1 := by
  unfold putN
  split <;> simp
theorem putN_deep {xs : List (NestedKey × Addr × V)} {k : NestedKey} {b : Addr} {v : V} (h : ∀ x ∈ xs, x.1.depth ≤ 8) (hk : k.depth ≤ 8) : ∀ x ∈ putN xs k b v, x.1.depth ≤ 8 := by
  intro x hx
  unfold putN at hx
  split at hx
  · obtain ⟨y, hy, rfl⟩ := List.mem_map.mp hx
    split
    · exact h y hy
    · exact h y hy
  · rcases List.mem_append.mp hx with q | q
    · exact h x q
    · rw [List.mem_singleton.mp q]; exact hk
end

/-! ### asked -/
section
variable {X : Cx} {pins : List (Addr × Obj)} {σ : L2.St} {H : Hp} {s : Shared} {N : Addr → Prop} {a : Addr} {kvs : List (PyData × PyData)} {v : V} {u : Value} {k : PyData} {A : Around} {E : Value → Shared → Prop}
theorem k1_key (h : isK1 k = true) (r : Rp X.kk N H v k) : ∃ kk, v = kV kk ∧ keyOf k = some (nk kk) := by
  cases k with
  | int i => cases r; exact ⟨.inl i, rfl, rfl⟩
  | str x => cases r; exact ⟨.inr x, rfl, rfl⟩
  | _ => cases h
theorem kn_key (I : Inv X pins σ H s) (h : isKN k = true) (r : Rp X.kk N H v k) (ru : RelV v u) : ∃ b kk, v = .ref b ∧ u = .ref b ∧ keyOf k = some kk ∧ kk.depth ≤ 8 ∧ (nestedKind X.prog X.w).is s.heap kk b := by
  cases k with
  | tuple ds =>
    have h : (match keyOf (.tuple ds) with | some k => decide (k.depth ≤ 8) | none => false) = true := h
    split at h
    · rename_i kk e
      have hd : kk.depth ≤ 8 := by simpa using h
      have n := nested_of I _ _ _ _ r e ru
      cases r
      cases ru
      exact ⟨_, kk, rfl, rfl, e, hd, n, hd⟩
    · cases h
  | _ => cases h
theorem D_getItem {d : PyData} {Q : Value → Shared → Prop} (hu : A.units + 20 < cLine) (I : Inv X pins σ H s) (h : DAt X.kk N H a kvs) (hk : dKey kvs k = true) (r : Rp X.kk N H v k) (ru : RelV v u) (e : dGet kvs k = some d)
    (q : ∀ w' v' s', Inv X pins σ H s' → RelV v' w' → Rp X.kk N H v' d → Q w' s') : wpAny (model X.prog X.w) A (getItem (.ref a) u) Q E s := by
  unfold dKey at hk
  rw [Bool.or_eq_true, Bool.and_eq_true, Bool.and_eq_true] at hk
  rcases hk with ⟨h1, h2⟩ | ⟨h1, h2⟩
  · obtain ⟨ks, vs, as⟩ := h.asK I h2
    obtain ⟨kk, rfl, ek⟩ := k1_key h1 r
    obtain ⟨g1, g2⟩ := getK ek as.rel
    obtain ⟨v', e1, rv⟩ := g2 d e
    obtain ⟨w', hw, rw'⟩ := RelO.some_of (v := v') (o := valueAt vs kk) (by rw [← e1]; exact as.kv.val kk)
    exact wpAny_getItem_of (kV_is ru) as.dict.mapOf hw (q w' v' _ (I.tok _) rw' rv)
  · obtain ⟨xs, ys, as⟩ := h.asN I h2
    obtain ⟨b, kk, rfl, rfl, ek, hd, his⟩ := kn_key I h1 r ru
    obtain ⟨g1, g2⟩ := getN ek as.kn as.rel as.keys
    obtain ⟨p, v', e1, rw', rv⟩ := g2 d e
    exact wpAny_getItem_heap (show A.in1.units + 8 < cLine from by show A.units + 1 + 8 < cLine; omega) his as.dict e1 (q _ v' _ (I.tok _) rw' rv)
theorem D_in {Q : Value → Shared → Prop} (hu : A.units + 20 < cLine) (I : Inv X pins σ H s) (h : DAt X.kk N H a kvs) (hk : dKey kvs k = true) (r : Rp X.kk N H v k) (ru : RelV v u) (q : ∀ s', Inv X pins σ H s' → Q (.bool (dGet kvs k).isSome) s') :
    wpAny (model X.prog X.w) A (compareOp .In u (.ref a)) Q E s := by
  unfold dKey at hk
  rw [Bool.or_eq_true, Bool.and_eq_true, Bool.and_eq_true] at hk
  rcases hk with ⟨h1, h2⟩ | ⟨h1, h2⟩
  · obtain ⟨ks, vs, as⟩ := h.asK I h2
    obtain ⟨kk, rfl, ek⟩ := k1_key h1 r
    obtain ⟨g1, g2⟩ := getK ek as.rel
    refine wpAny_in_of (kV_is ru) as.sys as.dict.mapOf ?_
    rw [← (as.kv.val kk).isSome_eq, ← g1]
    exact q _ (I.tok _)
  · obtain ⟨xs, ys, as⟩ := h.asN I h2
    obtain ⟨b, kk, rfl, rfl, ek, hd, his⟩ := kn_key I h1 r ru
    obtain ⟨g1, g2⟩ := getN ek as.kn as.rel as.keys
    refine wpAny_in_heap (show A.in1.units + 8 < cLine from by show A.units + 1 + 8 < cLine; omega) his as.sys as.dict ?_
    rw [← g1]
    exact q _ (I.tok _)
theorem D_notIn {Q : Value → Shared → Prop} (hu : A.units + 20 < cLine) (I : Inv X pins σ H s) (h : DAt X.kk N H a kvs) (hk : dKey kvs k = true) (r : Rp X.kk N H v k) (ru : RelV v u) (q : ∀ s', Inv X pins σ H s' → Q (.bool (!(dGet kvs k).isSome)) s') :
    wpAny (model X.prog X.w) A (compareOp .NotIn u (.ref a)) Q E s := by
  unfold dKey at hk
  rw [Bool.or_eq_true, Bool.and_eq_true, Bool.and_eq_true] at hk
  rcases hk with ⟨h1, h2⟩ | ⟨h1, h2⟩
  · obtain ⟨ks, vs, as⟩ := h.asK I h2
    obtain ⟨kk, rfl, ek⟩ := k1_key h1 r
    obtain ⟨g1, g2⟩ := getK ek as.rel
    refine wpAny_notIn_of (kV_is ru) as.sys as.dict.mapOf ?_
    rw [← (as.kv.val kk).isSome_eq, ← g1]
    exact q _ (I.tok _)
  · obtain ⟨xs, ys, as⟩ := h.asN I h2
    obtain ⟨b, kk, rfl, rfl, ek, hd, his⟩ := kn_key I h1 r ru
    obtain ⟨g1, g2⟩ := getN ek as.kn as.rel as.keys
    refine PyProof.Rows.wpAny_notIn_heap (show A.in1.units + 8 < cLine from by show A.units + 1 + 8 < cLine; omega) his as.sys as.dict ?_
    rw [← g1]
    exact q _ (I.tok _)

/-! ### written -/
/-- what stands behind a writing -/
theorem DAt.put {ob : Obj} (hp : N a) {o : HO} (e : H a = some o) (ho : Plain0 o) {kk : Key} {ks : List (Key × V)} {d : PyData} {v' : V} (rk : Rp X.kk N H (kV kk) k) (rv : Rp X.kk N H v' d) (rel : Paired (E2 X.kk N H) (ks.map fun p => (kV p.1, p.2)) kvs) :
    DAt X.kk N (upd H a (.ext (PhiK X.kk a ob (putK ks kk v')))) a (dPut kvs k d) :=
  ⟨_, _, upd_same, .dK, Paired.mapP (putK_rel rk rv rel) fun p q h => ⟨h.1.upd hp e ho, h.2.upd hp e ho⟩⟩
theorem DAt.putN {ob : Obj} (hp : N a) {o : HO} (e : H a = some o) (ho : Plain0 o) {kk : NestedKey} {b : Addr} {xs : List (NestedKey × Addr × V)} {d : PyData} {v' : V} (ek : keyOf k = some kk) (rk : Rp X.kk N H (.ref b) k) (rv : Rp X.kk N H v' d) (rel : Paired (E2 X.kk N H) (xs.map fun x => (V.ref x.2.1, x.2.2)) kvs) (e0 : xs.map (fun x => some x.1) = kvs.map (fun p => keyOf p.1)) :
    DAt X.kk N (upd H a (.ext (PhiN X.kk a ob (putN xs kk b v')))) a (dPut kvs k d) :=
  let ⟨h1, h2⟩ := putN_rel ek rk rv rel e0
  ⟨_, _, upd_same, .dN h2, Paired.mapP h1 fun p q h => ⟨h.1.upd hp e ho, h.2.upd hp e ho⟩⟩
theorem mut_plain {o : HO} (e : H a = some o) (ho : Plain0 o) : Mut (H a) := by
  rw [e]
  cases o <;> first | exact True.intro | exact ho.elim
theorem D_written {A : Around} {d : PyData} {v' : V} {u' : Value} {Q : Unit → Shared → Prop} {act : Sem Unit} {o : HO} (I : Inv X pins σ H s) (h : DAt X.kk N H a kvs) (e : H a = some o) (ho : Plain0 o) (hp : N a) (hk : dKey kvs k = true) (r : Rp X.kk N H v k) (ru : RelV v u) (rv : Rp X.kk N H v' d) (ru' : RelV v' u') (hz : kvs.length < sizeLine)
    (hK : ∀ (kk : Key) (vs : List (Key × Value)), (mixKind X.prog X.w).is kk u = true → s.heap.DictOf (mixKind X.prog X.w) a vs → vs.length ≤ sizeLine → (∀ h', h'.DictOf (mixKind X.prog X.w) a (stored vs kk u') → Heap.SameBut a s.heap h' → Q () { s with heap := h', toks := s.toks + 1 }) → wpAny (model X.prog X.w) A act Q E s)
    (hNN : ∀ (kk : NestedKey) (b : Addr) (ys : List (NestedKey × Addr × Value)), u = .ref b → (nestedKind X.prog X.w).is s.heap kk b → s.heap.DictOfH (nestedKind X.prog X.w) a ys → ys.length ≤ sizeLine → (∀ h', h'.DictOfH (nestedKind X.prog X.w) a (storedH ys kk b u') → Heap.SameBut a s.heap h' → Q () { s with heap := h', toks := s.toks + (nestedKind X.prog X.w).draws kk }) → wpAny (model X.prog X.w) A act Q E s)
    (q : ∀ o' s', Inv X pins σ (upd H a o') s' → DAt X.kk N (upd H a o') a (dPut kvs k d) → Q () s') : wpAny (model X.prog X.w) A act Q E s := by
  unfold dKey at hk
  rw [Bool.or_eq_true, Bool.and_eq_true, Bool.and_eq_true] at hk
  rcases hk with ⟨h1, h2⟩ | ⟨h1, h2⟩
  · obtain ⟨ks, vs, as⟩ := h.asK I h2
    obtain ⟨kk, rfl, ek⟩ := k1_key h1 r
    refine hK kk vs (kV_is ru) as.dict (by rw [← as.kv.length]; exact as.len) fun h' dd' hs => ?_
    have he : ∃ q, h'.get? a = some q := let ⟨q, _, _, hq, _⟩ := dd'; ⟨q, hq⟩
    obtain ⟨qo, hq⟩ := he
    refine q _ _ ?_ (DAt.put (ob := qo) hp e ho r rv as.rel)
    have hl : (putK ks kk v').length ≤ sizeLine := by
      have h1 := length_putK ks kk v'
      have h2 := as.rel.length
      rw [List.length_map] at h2
      omega
    refine d_write I (mut_plain e ho) hs ⟨qo, hq⟩ ⟨⟨hl, as.sys, hq, _, as.kv.put kk ru', dd'⟩, ⟨qo, hq⟩, ?_⟩
    rintro h1 h2 ⟨p1, p2, p3, vs', p4, o', es', ep', p5, p6⟩ k
    exact ⟨p1, p2, k _ p3, vs', p4, o', es', ep', k _ p5, p6⟩
  · obtain ⟨xs, ys, as⟩ := h.asN I h2
    obtain ⟨b, kk, rfl, rfl, ek, hd, his⟩ := kn_key I h1 r ru
    refine hNN kk b ys rfl his as.dict (by rw [← as.kn.length]; exact as.len) fun h' dd' hs => ?_
    obtain ⟨qo, es, ep, hq, g2, g3, g4, _, g5⟩ := dd'
    refine q _ _ ?_ (DAt.putN (ob := qo) hp e ho ek r rv as.rel as.keys)
    have hl : (putN xs kk b v').length ≤ sizeLine := by
      have h1 := putN_len (xs := xs) (k := kk) (b := b) (v := v')
      have h2 := as.rel.length
      rw [List.length_map] at h2
      omega
    refine d_write I (mut_plain e ho) hs ⟨qo, hq⟩ ⟨⟨hl, as.sys, putN_deep as.deep hd, hq, _, putN_kn ru' as.kn, es, ep, g2, g3, g4, g5⟩, ⟨qo, hq⟩, ?_⟩
    rintro h1 h2 ⟨p1, p2, p3, p4, p5⟩ k
    exact ⟨p1, p2, p3, k _ p4, p5⟩
theorem D_setItem {A : Around} {d : PyData} {v' : V} {u' : Value} {Q : Unit → Shared → Prop} {o : HO} (hu : A.units + 20 < cLine) (I : Inv X pins σ H s) (h : DAt X.kk N H a kvs) (e : H a = some o) (ho : Plain0 o) (hp : N a) (hk : dKey kvs k = true) (r : Rp X.kk N H v k) (ru : RelV v u) (rv : Rp X.kk N H v' d) (ru' : RelV v' u') (hz : kvs.length < sizeLine)
    (q : ∀ o' s', Inv X pins σ (upd H a o') s' → DAt X.kk N (upd H a o') a (dPut kvs k d) → Q () s') : wpAny (model X.prog X.w) A (setItem (.ref a) u u') Q E s :=
  D_written I h e ho hp hk r ru rv ru' hz (fun kk vs h1 h2 h3 h4 => wpAny_setItem_pairs (hsz := h3) h1 h2 h4)
    (fun kk b ys h0 h1 h2 h3 h4 => by subst h0; exact wpAny_setItem_heap (hsz := h3) (show A.in1.units + 8 < cLine from by show A.units + 1 + 8 < cLine; omega) h1 h2 h4) q
theorem D_dictSet {A : Around} {d : PyData} {v' : V} {u' : Value} {Q : Unit → Shared → Prop} {o : HO} (hu : A.units + 20 < cLine) (I : Inv X pins σ H s) (h : DAt X.kk N H a kvs) (e : H a = some o) (ho : Plain0 o) (hp : N a) (hk : dKey kvs k = true) (r : Rp X.kk N H v k) (ru : RelV v u) (rv : Rp X.kk N H v' d) (ru' : RelV v' u') (hz : kvs.length < sizeLine)
    (q : ∀ o' s', Inv X pins σ (upd H a o') s' → DAt X.kk N (upd H a o') a (dPut kvs k d) → Q () s') : wpAny (model X.prog X.w) A (dictSet a u u') Q E s :=
  D_written I h e ho hp hk r ru rv ru' hz (fun kk vs h1 h2 h3 h4 => wpAny_dictSet_pairs (hsz := h3) h1 h2 h4)
    (fun kk b ys h0 h1 h2 h3 h4 => by subst h0; exact wpAny_dictSet_heap (hsz := h3) (show A.units + 8 < cLine from by omega) h1 h2 h4) q
end
end Ev
/-! Ev18: dicts in calls, subscripts, tests, walks. -/
namespace Ev
open PySem PySem.Spec L2

section
variable {K : KK} {N : Addr → Prop} {H : Hp}
theorem vr_dct {kvs : List (PyData × PyData)} {es : List (V × V)} {o : HO} {Q : VK} (hN : ∀ a, N a → H a ≠ none) {p : Addr} (hp : H p = none) (d : DE K p o es kvs) (r : Paired (E2 K N H) es kvs) (h : VR K N H (.dict kvs) Q) : Q (.ref p) (upd H p o) := by
  have k : Same H (upd H p o) := fun b o' e => by rw [upd_ne (ne_of_none e hp)]; exact e
  have r1 : Paired (E2 K (fun b => N b ∨ b = p) (upd H p o)) es kvs := Paired.mapP r fun x y z => ⟨(Rp.forbid (fun a h => h.imp id fun z => by rw [z]; exact hp) z.1).same k, (Rp.forbid (fun a h => h.imp id fun z => by rw [z]; exact hp) z.2).same k⟩
  have r2 : Paired (E2 K N (upd H p o)) es kvs := Paired.mapP r fun x y z => ⟨z.1.same k, z.2.same k⟩
  exact h _ _ k (DAt.rp ⟨o, es, upd_same, d, r2⟩ fun z => hN p z hp) fun _ => ⟨p, rfl, hp, DAt.top ⟨o, es, upd_same, d, r1⟩⟩
end

theorem paired_of_get {α β : Type} {R : α → β → Prop} : ∀ {l : List α} {m : List β}, l.length = m.length → (∀ (i : Nat) (y : β), m[i]? = some y → ∃ x, l[i]? = some x ∧ R x y) → Paired R l m
  | [], [], _, _ => .nil
  | x :: l, y :: m, hl, h => by
    refine .cons ?_ (paired_of_get (by simpa using hl) fun i y e => ?_)
    · obtain ⟨x', h1, h2⟩ := h 0 y rfl
      have e : x = x' := by simpa using h1
      rw [e]; exact h2
    · obtain ⟨x', h1, h2⟩ := h (i + 1) y (by simpa using e)
      exact ⟨x', by simpa using h1, h2⟩
  | [], _ :: _, hl, _ => by simp at hl
  | _ :: _, [], hl, _ => by simp at hl
section
variable {X : Cx} {pins : List (Addr × Obj)} {σ : L2.St} {H : Hp} {s : Shared} {N : Addr → Prop} {a : Addr} {kvs : List (PyData × PyData)}
/-- the object of a dict, wherever it stands in the heap -/
structure PinD (a : Addr) (o : HO) (es : Array DictEntry) (ep : Nat) (ents : List (V × V)) : Prop where
  at' : ∀ (Y : Cx) (pins : List (Addr × Obj)) (σ : L2.St) (H : Hp) (s : Shared), Inv Y pins σ H s → H a = some o → s.heap.DictRaw a es ep
  sys : (a == sysModules) = false
  size : es.size = ents.length
  rel : ∀ i (hi : i < es.size), ∃ p, ents[i]? = some p ∧ RelV p.1 es[i].key ∧ RelV p.2 es[i].val
theorem kv_rel : ∀ {ks : List (Key × V)} {vs : List (Key × Value)} {i : Nat} {k : Key} {u : Value}, KV ks vs → vs[i]? = some (k, u) → ∃ v, ks[i]? = some (k, v) ∧ RelV v u
  | _, _, _, _, _, .nil, e => by simp at e
  | p :: ks, q :: vs, 0, k, u, .cons h t, e => by
    simp at e; subst e
    obtain ⟨h1, h2⟩ := h
    refine ⟨p.2, ?_, h2⟩
    show some p = _
    rw [← show p.1 = k from h1]
  | p :: ks, q :: vs, i + 1, k, u, .cons h t, e => by
    obtain ⟨v, h1, h2⟩ := kv_rel (i := i) t (by simpa using e)
    exact ⟨v, by simpa using h1, h2⟩
theorem kn_rel : ∀ {xs : List (NestedKey × Addr × V)} {ys : List (NestedKey × Addr × Value)} {i : Nat} {y : NestedKey × Addr × Value}, KN xs ys → ys[i]? = some y → ∃ x, xs[i]? = some x ∧ x.2.1 = y.2.1 ∧ RelV x.2.2 y.2.2
  | _, _, _, _, .nil, e => by simp at e
  | p :: ks, q :: vs, 0, y, .cons h t, e => by
    simp at e; subst e
    exact ⟨p, rfl, h.2.1, h.2.2⟩
  | p :: ks, q :: vs, i + 1, y, .cons h t, e => by
    obtain ⟨v, h1, h2⟩ := kn_rel (i := i) t (by simpa using e)
    exact ⟨v, by simpa using h1, h2⟩
theorem DAt.pin (I : Inv X pins σ H s) (h : DAt X.kk N H a kvs) : ∃ o es ep ents, H a = some o ∧ Plain0 o ∧ PinD a o es ep ents ∧ Paired (E2 X.kk N H) ents kvs ∧ kvs.length ≤ sizeLine := by
  obtain ⟨o, ents, e, d, r⟩ := h
  have hl := r.length
  cases d with
  | @dK ob ks _ =>
    obtain ⟨⟨z, hd, hob, vs, kv, o', es, ep, h1, h2, h3, h4, h5, h6⟩, _, _⟩ := (show ObjOk X.prog X.w H s.heap a (.ext (PhiK X.kk a ob ks)) from I.hok a _ e)
    rw [hob] at h1
    cases h1
    refine ⟨_, es, ep, _, e, trivial, ⟨fun Y pins σ H s I e => ?_, hd, ?_, fun i hi => ?_⟩, r, by rw [← hl, List.length_map]; exact z⟩
    · obtain ⟨⟨_, _, hob', _⟩, _, _⟩ := (show ObjOk Y.prog Y.w H s.heap a (.ext (PhiK X.kk a ob ks)) from I.hok a _ e)
      exact ⟨ob, hob', h2, h3⟩
    · have := h5.length
      rw [List.length_map, kv.length, ← this]
      simp
    · have hv : i < vs.length := by rw [← h5.length]; simpa using hi
      obtain ⟨⟨k, u⟩, hu⟩ : ∃ p, vs[i]? = some p := ⟨vs[i], List.getElem?_eq_getElem hv⟩
      obtain ⟨q1, q2⟩ := h5.get? (e := es[i]) (by simp [hi]) hu
      obtain ⟨v, hv1, hv2⟩ := kv_rel kv hu
      refine ⟨_, by rw [List.getElem?_map, hv1]; rfl, relV_key (show keyIs k es[i].key = true from q1), by rw [q2]; exact hv2⟩
  | @dN ob xs _ hx =>
    obtain ⟨⟨z, hd, _, hob, ys, kn, es, ep, h2, h3, h4, h5⟩, _, _⟩ := (show ObjOk X.prog X.w H s.heap a (.ext (PhiN X.kk a ob xs)) from I.hok a _ e)
    have hs : es.size = ys.length := by rw [← Array.length_toList, h4, List.length_map]
    refine ⟨_, es, ep, _, e, trivial, ⟨fun Y pins σ H s I e => ?_, hd, ?_, fun i hi => ?_⟩, r, by rw [← hl, List.length_map]; exact z⟩
    · obtain ⟨⟨_, _, _, hob', _⟩, _, _⟩ := (show ObjOk Y.prog Y.w H s.heap a (.ext (PhiN X.kk a ob xs)) from I.hok a _ e)
      exact ⟨ob, hob', h2, h3⟩
    · rw [List.length_map, kn.length, hs]
    · obtain ⟨y, hy⟩ : ∃ y, ys[i]? = some y := ⟨ys[i], List.getElem?_eq_getElem (by rw [← hs]; exact hi)⟩
      obtain ⟨x, hx1, hx2, hx3⟩ := kn_rel kn hy
      have hen : es[i] = entN X.w y := by
        have : es.toList[i]? = (ys.map (entN X.w))[i]? := by rw [h4]
        rw [List.getElem?_map, hy, Array.getElem?_toList, Array.getElem?_eq_getElem hi] at this
        exact Option.some.inj this
      refine ⟨_, by rw [List.getElem?_map, hx1]; rfl, ?_, ?_⟩
      · rw [hen]; show Value.ref y.2.1 = _; rw [← hx2]
      · rw [hen]; exact hx3
/-- the keys, collected -/
theorem PinD.keys {o : HO} {es : Array DictEntry} {ep : Nat} {ents : List (V × V)} (P : PinD a o es ep ents) {acc : Array Value} (h : ItemsOf (fun i v => ∃ hi : i < es.size, v = es[i].key) acc es.size) : Vals (ents.map (·.1)) acc.toList := by
  obtain ⟨h1, h2⟩ := h
  refine paired_of_get (by rw [List.length_map, ← P.size, Array.length_toList, h1]) fun i v e => ?_
  rw [Array.getElem?_toList] at e
  obtain ⟨hi, rfl⟩ := h2 i v e
  obtain ⟨p, hp, r1, _⟩ := P.rel i hi
  exact ⟨p.1, by rw [List.getElem?_map, hp]; rfl, r1⟩
theorem RpV.rp {K : KK} {v : V} {d : PyData} (h : RpV K N H v d) (hd : isM d = false) : Rp K N H v d := by
  rcases h with h | ⟨a, rfl, t⟩
  · exact h
  · rw [t.isM] at hd; cases hd
theorem isK1_M {k : PyData} (h : isK1 k = true) : isM k = false := by cases k <;> first | rfl | cases h
theorem isKN_M {k : PyData} (h : isKN k = true) : isM k = false := by cases k <;> first | rfl | cases h
theorem dKey_M {k : PyData} (h : dKey kvs k = true) : isM k = false := by
  unfold dKey at h
  rw [Bool.or_eq_true, Bool.and_eq_true, Bool.and_eq_true] at h
  rcases h with ⟨h, _⟩ | ⟨h, _⟩
  · exact isK1_M h
  · exact isKN_M h
end

/-! ### len, sorted, list of a dict -/
def fLenD : List PyData → Option PyData
  | [.dict kvs] => some (.int kvs.length)
  | ds => fLen ds
def fSortedD : List PyData → Option PyData
  | [.dict kvs] => fSorted [.list (kvs.map (·.1))]
  | ds => fSorted ds
def fListD : List PyData → Option PyData
  | [.dict kvs] => some (.list (kvs.map (·.1)))
  | ds => fList ds
section
variable {X : Cx}
theorem len_raw {prog : Program} {w : World} {A : Around} {E : Value → Shared → Prop} {s : Shared} {d : Addr} {es : Array DictEntry} {ep : Nat} {Q : Value → Shared → Prop} (hd : (d == sysModules) = false) (hm : s.heap.DictRaw d es ep) (hfit : (es.size : Int) < 2 ^ 63)
    (h : Q (.int es.size (s.toks + 1)) { s with toks := s.toks + 1 + 1 }) : wpAny (model prog w) A (call (.builtin "len") [.ref d]) Q E s := by
  refine Calls.call_function_entry kind_len plain_len entry_len (args_len1 _) ?_
  unfold Builtin.«len»
  refine wpAny_bind (m := oneArg "len" _) (wpAny_pure ?_)
  refine wpAny_bind (m := callSpecial? (.ref d) (Str.ofString "__len__")) (wpAny_callSpecial?_slot (name := Str.ofString "__len__") hm.typeIs F.slot_dict_len
    (call_len_raw hd hm ?_))
  show wpAny _ _ _ _ _ { s with toks := s.toks + 1 }
  refine wpAny_bind (wpAny_holding (wpAny_pure ?_))
  refine wpAny_bind (wpAny_letGo ?_)
  show wpAny _ _ (if ((es.size : Nat) : Int) < 0 then _ else _) _ _ _
  rw [if_neg (by omega)]
  show wpAny _ _ (if ((es.size : Nat) : Int) ≥ 2 ^ 63 then _ else _) _ _ _
  rw [if_neg (by omega)]
  exact wpAny_bind (wpAny_mkInt (wpAny_pure ⟨_, rfl, h⟩))
theorem cd_lenD : CallR X (.builtin "len") (RnD X.kk fLenD) := by
  intro pins s σ H xs us Q I r ⟨N, ds, d, ex, rp, hf, q⟩
  unfold fLenD at hf
  split at hf
  · cases hf
    obtain ⟨v, rfl, h⟩ := rp1 rp
    obtain ⟨a, rfl, hd⟩ := h.dct
    obtain ⟨u, rfl, ru⟩ := vals1 r
    cases ru
    obtain ⟨o, es, ep, ents, e, _, P, r2, hl⟩ := hd.pin I
    have hz : es.size = _ := P.size.trans r2.length
    refine len_raw P.sys (P.at' _ _ _ _ _ I e) (by rw [sizeLine_eq] at hl; omega) ?_
    rw [hz]
    exact ⟨.int _, H, (I.tok _).tok _, ⟨_, rfl⟩, vr_val (.int _) rfl q⟩
  · exact cd_len pins s σ H xs us Q I r ⟨N, _, d, ex, rp, hf, q⟩
theorem cd_sortedD (hc : X.calm = true) (hu : X.A.units + 70 < cLine) : CallR X (.builtin "sorted") (RnD X.kk fSortedD) := by
  intro pins s σ H xs us Q I r ⟨N, ds, d, ex, rp, hf, q⟩
  unfold fSortedD at hf
  split at hf
  · unfold fSorted at hf
    simp only at hf
    split at hf
    · rename_i hz
      cases hf
      obtain ⟨h1, h2, h3, h4, h5⟩ := sortOk_facts hz
      obtain ⟨v, rfl, h⟩ := rp1 rp
      obtain ⟨a, rfl, hd⟩ := h.dct
      obtain ⟨u, rfl, ru⟩ := vals1 r
      cases ru
      obtain ⟨o, es, ep, ents, e, _, P, r2, hl⟩ := hd.pin I
      have hsz : es.size ≤ sizeLine := by rw [P.size, r2.length]; exact hl
      refine sorted_gen I (fun R E h => PySem.W.kdu_collect (PySem.KdlSrc.rawDict (es := es) (ep := ep) P.sys) (I.ok.hd hc) (P.at' _ _ _ _ _ I e) hsz fun h' tk acc hk hacc => h h' tk _ hk (P.keys hacc)) ex (paired_fst r2) h1 h2 h3 h4 hu h5 q
    · cases hf
  · exact cd_sorted hu pins s σ H xs us Q I r ⟨N, _, d, ex, rp, hf, q⟩
theorem cd_listD (hc : X.calm = true) : CallR X (.type "list") (RnD X.kk fListD) := by
  intro pins s σ H xs us Q I r ⟨N, ds, d, ex, rp, hf, q⟩
  unfold fListD at hf
  split at hf
  · cases hf
    obtain ⟨v, rfl, h⟩ := rp1 rp
    obtain ⟨a, rfl, hd⟩ := h.dct
    obtain ⟨u, rfl, ru⟩ := vals1 r
    cases ru
    obtain ⟨o, es, ep, ents, e, _, P, r2, hl⟩ := hd.pin I
    have hsz : es.size ≤ sizeLine := by rw [P.size, r2.length]; exact hl
    refine PySem.W.kdl_call (PySem.KdlSrc.rawDict (es := es) (ep := ep) P.sys) (I.ok.hd hc) (P.at' _ _ _ _ _ I e) hsz fun h' tk acc c hk ho hacc => ?_
    have rv := P.keys hacc
    have I1 : Inv X pins σ (upd H s.heap.objs.size (.lst (ents.map (·.1)))) { s with heap := h', toks := tk } :=
      I.laid (a := s.heap.objs.size) (o := .lst (ents.map (·.1))) hk (Nat.le_refl _) ⟨by rw [List.length_map, ← P.size]; exact hsz, acc.toList, c, rv, by rw [Array.toArray_toList]; exact ho⟩
    exact ⟨.ref s.heap.objs.size, _, I1, rfl, vr_lst ex (paired_fst r2) q (I.hok.fresh (Nat.le_refl _))⟩
  · exact cd_list pins s σ H xs us Q I r ⟨N, _, d, ex, rp, hf, q⟩

/-! ### subscripts, in -/
def fIxD : PyData → PyData → Option PyData
  | .dict kvs, k => if dKey kvs k then dGet kvs k else none
  | d, k => fIx d k
theorem id_ixD (hu : X.A.units + 20 < cLine) : IxR X (R2P X.kk fIxD) := by
  intro va sl pins s σ H x y v u Q I rx ry ⟨N, dx, dy, d, ex, hx, hy, hf, q⟩ hs
  unfold fIxD at hf
  split at hf
  · split at hf
    · rename_i hk
      obtain ⟨a, rfl, h⟩ := hx.dct
      cases rx
      obtain ⟨o, es, ep, ents, e, _, P, r2, hl⟩ := h.pin I
      refine PyProof.Rows.tail_any (P.at' _ _ _ _ _ I e).typeIs slot_dict_getitem.lookup (D_getItem hu I h hk (hy.rp (dKey_M hk)) ry hf fun w' v' s' I' rv rp => ⟨v', H, I', rv, q v' H (fun _ _ e => e) rp⟩) hs
    · cases hf
  · exact id_ix va sl pins s σ H x y v u Q I rx ry ⟨N, dx, dy, d, ex, hx, hy, hf, q⟩ hs
def fInD (n : Bool) : PyData → PyData → Option PyData
  | k, .dict kvs => if dKey kvs k then some (.bool (xor n (dGet kvs k).isSome)) else none
  | k, d => fIn n k d
theorem od_inD (hu : X.A.units + 65 < cLine) : OpR X (compareOp .In) (R2D X.kk (fInD false)) := by
  intro pins s σ H x y v u Q I rx ry ⟨N, dx, dy, d, ex, hx, hy, hf, q⟩
  unfold fInD at hf
  split at hf
  · split at hf
    · rename_i kvs hk
      cases hf
      obtain ⟨a, rfl, h⟩ := hy.dct
      cases ry
      exact D_in (by omega) I h hk (hx.rp (dKey_M hk)) rx fun s' I' => ⟨.bl _, H, I', rfl, vr_val (.bl _) rfl (by simpa using q)⟩
    · cases hf
  · exact od_in hu pins s σ H x y v u Q I rx ry ⟨N, dx, dy, d, ex, hx, hy, hf, q⟩
theorem od_notInD (hu : X.A.units + 65 < cLine) : OpR X (compareOp .NotIn) (R2D X.kk (fInD true)) := by
  intro pins s σ H x y v u Q I rx ry ⟨N, dx, dy, d, ex, hx, hy, hf, q⟩
  unfold fInD at hf
  split at hf
  · split at hf
    · rename_i kvs hk
      cases hf
      obtain ⟨a, rfl, h⟩ := hy.dct
      cases ry
      exact D_notIn (by omega) I h hk (hx.rp (dKey_M hk)) rx fun s' I' => ⟨.bl _, H, I', rfl, vr_val (.bl _) rfl (by simpa using q)⟩
    · cases hf
  · exact od_notIn hu pins s σ H x y v u Q I rx ry ⟨N, dx, dy, d, ex, hx, hy, hf, q⟩
end
end Ev
/-! Ev19: new dicts, items stored, dicts walked. -/
namespace Ev
open PySem PySem.Spec L2

section
variable {X : Cx} {M : Nat → Bool} {F : Fn} {tg a b c e : Expr} {es : List Expr} {pos p apos cpos : Pos} {x : Str} {i : Nat}
/-! ### {} -/
def cNew : CE := fun _ s => some (.d (.dict []), s)
theorem phiK_ok {K : KK} {a : Addr} {ob : Obj} {ks : List (Key × V)} {h : Heap} {P : Program} {w : World} {H : Hp} (x : PhiK K a ob ks h) : ObjOk P w H h a (.ext (PhiK K a ob ks)) := by
  refine ⟨x, ⟨ob, x.2.2.1⟩, ?_⟩
  rintro h1 h2 ⟨p1, p2, p3, vs', p4, o', es', ep', p5, p6⟩ k
  exact ⟨p1, p2, k _ p3, vs', p4, o', es', ep', k _ p5, p6⟩
theorem phiN_ok {K : KK} {a : Addr} {ob : Obj} {xs : List (NestedKey × Addr × V)} {h : Heap} {P : Program} {w : World} {H : Hp} (x : PhiN K a ob xs h) : ObjOk P w H h a (.ext (PhiN K a ob xs)) := by
  refine ⟨x, ⟨ob, x.2.2.2.1⟩, ?_⟩
  rintro h1 h2 ⟨p1, p2, p3, p4, p5⟩ k
  exact ⟨p1, p2, p3, k _ p4, p5⟩
theorem sx_new : PE X (.Dict [] [] pos) (TX X.kk F M true cNew) := ⟨fun pins s σ H Q I ⟨g, st, y, s', r, ev, q⟩ => by
  cases ev
  have hn := I.hok.fresh (Nat.le_refl s.heap.objs.size)
  refine wpAny_Dict_empty ⟨.ref s.heap.objs.size, _, I.laid (a := s.heap.objs.size) (o := .ext (PhiK X.kk s.heap.objs.size { cls := .type "dict", data := .dict #[] } [])) (t' := s.toks) (fun _ _ q => Heap.get?_push_of_some _ q) (Nat.le_refl _) (phiK_ok ?_), rfl, ?_⟩
  · exact ⟨Nat.zero_le _, beq_eq_false_iff_ne.mpr (Ne.symm (Nat.ne_of_lt I.big)), Heap.get?_push_size _ rfl, [], .nil, Heap.DictOf.new _⟩
  · exact vr_dct (K := X.kk) (N := g.N) r.ex hn (.dK (ks := [])) .nil (fin_op r (Lent.nil Evo.refl) Evo.refl q)⟩

/-! ### dict(pairs) -/
def pairsOf : List PyData → Option (List (PyData × PyData))
  | [] => some []
  | .tuple [k, v] :: r => (pairsOf r).map ((k, v) :: ·)
  | _ => none
def dMerge (kvs more : List (PyData × PyData)) : List (PyData × PyData) := more.foldl (fun acc p => dPut acc p.1 p.2) kvs
def allK (kvs : List (PyData × PyData)) : Bool := (kvs.all fun p => isK1 p.1) || (kvs.all fun p => isKN p.1)
def fDict : List PyData → Option PyData
  | [.list ds] => match pairsOf ds with
    | some kvs => if allK kvs && decide (kvs.length ≤ sizeLine) then some (.dict (dMerge [] kvs)) else none
    | none => none
  | _ => none
section
variable {pins : List (Addr × Obj)} {σ : L2.St} {H : Hp} {s : Shared} {N : Addr → Prop}
theorem pairs_at (I : Inv X pins σ H s) : ∀ {ds : List PyData} {xs : List V} {its : List Value} {kvs : List (PyData × PyData)}, RpA X.kk N H xs ds → pairsOf ds = some kvs → Vals xs its →
    ∃ (Ts : List Addr) (ps : List (Value × Value)) (es : List (V × V)), Paired (E2 X.kk N H) es kvs ∧ Paired (fun e p => RelV e.1 p.1 ∧ RelV e.2 p.2) es ps ∧ its = Ts.map Value.ref ∧ Ts.length = ps.length ∧ ∀ (j : Nat) (k v : Value), ps[j]? = some (k, v) → ∃ T, Ts[j]? = some T ∧ PairAt s.heap T k v
  | [], _, _, _, .nil, e, .nil => by cases e; exact ⟨[], [], [], .nil, .nil, rfl, rfl, fun j k v h => by simp at h⟩
  | d :: ds, _, _, _, .cons h t, e, .cons r1 r2 => by
    unfold pairsOf at e
    split at e
    · rename_i heq
      cases heq
    · rename_i k v r heq
      cases heq
      rw [Option.map_eq_some_iff] at e
      obtain ⟨kvs', e1, rfl⟩ := e
      obtain ⟨Ts, ps, es, q1, q2, q3, q4, q5⟩ := pairs_at I t e1 r2
      cases h with
      | @tup b ys _ hs ha =>
        cases r1
        obtain ⟨its', rv, ⟨o, ho, hc, n, hd⟩, _⟩ := I.tuple hs
        cases ha with
        | cons a1 ha =>
          cases ha with
          | cons a2 ha =>
            cases ha
            cases rv with
            | cons v1 rv =>
              cases rv with
              | cons v2 rv =>
                cases rv
                refine ⟨b :: Ts, (_, _) :: ps, (_, _) :: es, .cons ⟨a1, a2⟩ q1, .cons ⟨v1, v2⟩ q2, by rw [List.map_cons, q3], by simp [q4], fun j k v h => ?_⟩
                cases j with
                | zero =>
                  simp at h
                  obtain ⟨rfl, rfl⟩ := h
                  exact ⟨b, rfl, .inl ⟨o, ho, hc, n, hd⟩⟩
                | succ j => 
                  obtain ⟨T, h1, h2⟩ := q5 j k v (by simpa using h)
                  exact ⟨T, by simpa using h1, h2⟩
    · cases e
theorem k1_keys : ∀ {es : List (V × V)} {kvs : List (PyData × PyData)} {ps : List (Value × Value)}, Paired (E2 X.kk N H) es kvs → (kvs.all fun p => isK1 p.1) = true → Paired (fun (e : V × V) (p : Value × Value) => RelV e.1 p.1 ∧ RelV e.2 p.2) es ps →
    ∃ (ks : List (Key × V)) (rs : List (Key × Value)), es = ks.map (fun p => (kV p.1, p.2)) ∧ KV ks rs ∧ ∀ (j : Nat) (k v : Value), ps[j]? = some (k, v) → ∃ kk, rs[j]? = some (kk, v) ∧ (mixKind X.prog X.w).is kk k = true
  | [], [], _, _, _, .nil => ⟨[], [], rfl, .nil, fun j k v h => by simp at h⟩
  | e :: es, q :: kvs, p :: ps, .cons h t, hk, .cons r1 r2 => by
    rw [List.all_cons, Bool.and_eq_true] at hk
    obtain ⟨ks, rs, h1, h2, h3⟩ := k1_keys t hk.2 r2
    obtain ⟨kk, ek, _⟩ := k1_key hk.1 h.1
    refine ⟨(kk, e.2) :: ks, (kk, p.2) :: rs, ?_, .cons ⟨rfl, r1.2⟩ h2, fun j k v hj => ?_⟩
    · rw [List.map_cons, ← h1, ← ek]
    · cases j with
      | zero =>
        simp at hj
        subst hj
        exact ⟨kk, rfl, kV_is (by rw [← ek]; exact r1.1)⟩
      | succ j => exact h3 j k v (by simpa using hj)
theorem kn_keys (I : Inv X pins σ H s) : ∀ {es : List (V × V)} {kvs : List (PyData × PyData)} {ps : List (Value × Value)}, Paired (E2 X.kk N H) es kvs → (kvs.all fun p => isKN p.1) = true → Paired (fun (e : V × V) (p : Value × Value) => RelV e.1 p.1 ∧ RelV e.2 p.2) es ps →
    ∃ (xs : List (NestedKey × Addr × V)) (ys : List (NestedKey × Addr × Value)), es = xs.map (fun x => (V.ref x.2.1, x.2.2)) ∧ xs.map (fun x => some x.1) = kvs.map (fun p => keyOf p.1) ∧ (∀ x ∈ xs, x.1.depth ≤ 8) ∧ KN xs ys ∧ (∀ (j : Nat) (k v : Value), ps[j]? = some (k, v) → ∃ kk b, ys[j]? = some (kk, b, v) ∧ k = .ref b) ∧ ∀ y ∈ ys, (nestedKind X.prog X.w).is s.heap y.1 y.2.1
  | [], [], _, _, _, .nil => ⟨[], [], rfl, rfl, (fun _ h => nomatch h), .nil, (fun j k v h => by simp at h), (fun _ h => nomatch h)⟩
  | e :: es, q :: kvs, p :: ps, .cons h t, hk, .cons r1 r2 => by
    rw [List.all_cons, Bool.and_eq_true] at hk
    obtain ⟨xs, ys, h1, h2, h3, h4, h5, h6⟩ := kn_keys I t hk.2 r2
    obtain ⟨b, kk, e1, e2, ek, hd, his⟩ := kn_key I hk.1 h.1 r1.1
    refine ⟨(kk, b, e.2) :: xs, (kk, b, p.2) :: ys, ?_, ?_, fun x hx => ?_, .cons ⟨rfl, rfl, r1.2⟩ h4, fun j k v hj => ?_, fun y hy => ?_⟩
    · rw [List.map_cons, ← h1, ← e1]
    · rw [List.map_cons, List.map_cons, h2, ek]
    · rcases List.mem_cons.mp hx with rfl | hx
      · exact hd
      · exact h3 x hx
    · cases j with
      | zero =>
        simp at hj
        subst hj
        exact ⟨kk, b, rfl, e2⟩
      | succ j => exact h5 j k v (by simpa using hj)
    · rcases List.mem_cons.mp hy with rfl | hy
      · exact his
      · exact h6 y hy
theorem mergeK_rel : ∀ {more : List (Key × V)} {kvm : List (PyData × PyData)} {ks : List (Key × V)} {kvs : List (PyData × PyData)}, Paired (E2 X.kk N H) (more.map fun p => (kV p.1, p.2)) kvm → Paired (E2 X.kk N H) (ks.map fun p => (kV p.1, p.2)) kvs →
    Paired (E2 X.kk N H) ((mergeK ks more).map fun p => (kV p.1, p.2)) (dMerge kvs kvm)
  | [], [], _, _, .nil, h => h
  | p :: more, q :: kvm, ks, kvs, .cons h t, h0 => mergeK_rel (more := more) (kvm := kvm) (ks := putK ks p.1 p.2) (kvs := dPut kvs q.1 q.2) t (putK_rel h.1 h.2 h0)
def mergeN (xs more : List (NestedKey × Addr × V)) : List (NestedKey × Addr × V) := more.foldl (fun acc p => putN acc p.1 p.2.1 p.2.2) xs
theorem mergeN_rel : ∀ {more : List (NestedKey × Addr × V)} {kvm : List (PyData × PyData)} {xs : List (NestedKey × Addr × V)} {kvs : List (PyData × PyData)}, Paired (E2 X.kk N H) (more.map fun x => (V.ref x.2.1, x.2.2)) kvm → more.map (fun x => some x.1) = kvm.map (fun p => keyOf p.1) →
    Paired (E2 X.kk N H) (xs.map fun x => (V.ref x.2.1, x.2.2)) kvs → xs.map (fun x => some x.1) = kvs.map (fun p => keyOf p.1) →
    Paired (E2 X.kk N H) ((mergeN xs more).map fun x => (V.ref x.2.1, x.2.2)) (dMerge kvs kvm) ∧ (mergeN xs more).map (fun x => some x.1) = (dMerge kvs kvm).map (fun p => keyOf p.1)
  | [], [], _, _, .nil, _, h, h' => ⟨h, h'⟩
  | p :: more, q :: kvm, xs, kvs, .cons h t, e, h0, h1 => by
    rw [List.map_cons, List.map_cons] at e
    obtain ⟨e1, e2⟩ := List.cons.inj e
    obtain ⟨g1, g2⟩ := putN_rel (K := X.kk) (N := N) (H := H) e1.symm h.1 h.2 h0 h1
    exact mergeN_rel (more := more) (kvm := kvm) (xs := putN xs p.1 p.2.1 p.2.2) (kvs := dPut kvs q.1 q.2) t e2 g1 g2
theorem mergeN_kn : ∀ {more : List (NestedKey × Addr × V)} {ys : List (NestedKey × Addr × Value)} {xs : List (NestedKey × Addr × V)} {zs : List (NestedKey × Addr × Value)}, KN more ys → KN xs zs → KN (mergeN xs more) (storedAllH zs ys)
  | _, _, _, _, .nil, h => h
  | p :: more, y :: ys, xs, zs, .cons h t, h0 => by
    obtain ⟨g1, g2, g3⟩ := h
    show KN (mergeN (putN xs p.1 p.2.1 p.2.2) more) (storedAllH (storedH zs y.1 y.2.1 y.2.2) ys)
    refine mergeN_kn t ?_
    rw [g1, g2]
    exact putN_kn g3 h0
theorem mergeN_deep : ∀ {more xs : List (NestedKey × Addr × V)}, (∀ x ∈ more, x.1.depth ≤ 8) → (∀ x ∈ xs, x.1.depth ≤ 8) → ∀ x ∈ mergeN xs more, x.1.depth ≤ 8
  | [], _, _, h => h
  | p :: more, xs, hm, h => mergeN_deep (xs := putN xs p.1 p.2.1 p.2.2) (fun x hx => hm x (List.mem_cons_of_mem _ hx)) (putN_deep h (hm p List.mem_cons_self))
theorem mergeN_len : ∀ (more xs : List (NestedKey × Addr × V)), (mergeN xs more).length ≤ xs.length + more.length
  | [], xs => by show xs.length ≤ xs.length + 0; omega
  | p :: r, xs => by
    have h1 := mergeN_len r (putN xs p.1 p.2.1 p.2.2)
    have h2 := putN_len (xs := xs) (k := p.1) (b := p.2.1) (v := p.2.2)
    show (mergeN (putN xs p.1 p.2.1 p.2.2) r).length ≤ _
    rw [List.length_cons]; omega
end
theorem cd_dict (hc : X.calm = true) (hu : X.A.units + 70 < cLine) : CallR X (.type "dict") (RnD X.kk fDict) := by
  intro pins s σ H xs us Q I r ⟨N, ds, d, ex, rp, hf, q⟩
  unfold fDict at hf
  split at hf
  · split at hf
    · rename_i ds kvs ep
      split at hf
      · rename_i hz
        cases hf
        rw [Bool.and_eq_true, decide_eq_true_eq] at hz
        obtain ⟨hk, hz⟩ := hz
        obtain ⟨v, rfl, h⟩ := rp1 rp
        obtain ⟨a, ls, rfl, hl, ra⟩ := h.lst
        obtain ⟨u, rfl, ru⟩ := vals1 r
        cases ru
        obtain ⟨its, rv, ⟨o, n, ho, hcl, hod, hd⟩, zz⟩ := I.list hl
        obtain ⟨Ts, ps, es, q1, q2, q3, q4, q5⟩ := pairs_at I ra ep rv
        have hlen : ps.length = kvs.length := by rw [← q2.length, q1.length]
        have PI : PairItems s.heap its.toArray (fun j => Ts[j]?.getD 0) ps := by
          refine ⟨by rw [q3]; simp [q4], fun j k v hj => ?_⟩
          obtain ⟨T, h1, h2⟩ := q5 j k v hj
          refine ⟨?_, by show PairAt s.heap (Ts[j]?.getD 0) k v; rw [h1]; exact h2⟩
          show its.toArray[j]? = some (.ref (Ts[j]?.getD 0))
          rw [List.getElem?_toArray, q3, List.getElem?_map, h1]; rfl
        have ok : PlainSeq "list" s.heap a its.toArray ∧ PairItems s.heap its.toArray (fun j => Ts[j]?.getD 0) ps := ⟨⟨o, n, ho, hcl, hod, hd⟩, PI⟩
        have hn := I.hok.fresh (Nat.le_refl s.heap.objs.size)
        unfold allK at hk
        rw [Bool.or_eq_true] at hk
        have hsys : (s.heap.objs.size == sysModules) = false := beq_eq_false_iff_ne.mpr (Ne.symm (Nat.ne_of_lt I.big))
        rcases hk with hk | hk
        · obtain ⟨ks, rs, e1, kv, hh⟩ := k1_keys q1 hk q2
          refine call_dict_pairs (knd := mixKind X.prog X.w) (kvs := rs) (PairArg.list a its.toArray _ ps) (I.ok.hd hc) ok ⟨?_, fun i key v hr => hh i key v hr⟩ (by rw [hlen]; exact hz) fun h' tk dd hk' => ?_
          · rw [← kv.length, hlen, ← q1.length, e1, List.length_map]
          · have hlk : ks.length = kvs.length := by rw [← q1.length, e1, List.length_map]
            obtain ⟨qo, es', ep', hq, g⟩ := id dd
            have hm := length_mergeK ks []
            rw [List.length_nil] at hm
            refine ⟨.ref s.heap.objs.size, _, I.laid (a := s.heap.objs.size) (o := .ext (PhiK X.kk s.heap.objs.size qo (mergeK [] ks))) (t' := tk) (fun b o e => hk' b o (fun h => nomatch h) e) (Nat.le_refl _) (phiK_ok ⟨by omega, hsys, hq, _, KV.merge kv .nil, dd⟩), rfl, ?_⟩
            refine vr_dct (K := X.kk) ex hn .dK (mergeK_rel (ks := []) (kvs := []) ?_ .nil) q
            rw [← e1]; exact q1
        · obtain ⟨xs, ys, e1, e2, e3, kn, hh, his⟩ := kn_keys I q1 hk q2
          refine call_dict_pairsH (knd := nestedKind X.prog X.w) (ps := ys) (PairArg.list a its.toArray _ ps) (I.ok.hd hc) (show X.A.in1.in1.units + 8 < cLine from by show X.A.units + 1 + 1 + 8 < cLine; omega) ok ⟨?_, fun i key v hr => hh i key v hr⟩ (fun h' hk' x hx => nestedKind_stays.stays (fun b o vs n e _ => hk' b o (Nat.ne_of_lt (Heap.lt_size e)) (fun h => nomatch h) e) (his x hx)) (by rw [hlen]; exact hz) fun h' tk dd hk' => ?_
          · rw [← kn.length, hlen, ← q1.length, e1, List.length_map]
          · have hlk : xs.length = kvs.length := by rw [← q1.length, e1, List.length_map]
            obtain ⟨qo, es', ep', hq, g1, g2, g3, _, g4⟩ := dd
            have hm := mergeN_len xs []
            rw [List.length_nil] at hm
            obtain ⟨m1, m2⟩ := mergeN_rel (X := X) (N := N) (H := H) (more := xs) (xs := []) (kvs := []) (by rw [← e1]; exact q1) e2 .nil rfl
            refine ⟨.ref s.heap.objs.size, _, I.laid (a := s.heap.objs.size) (o := .ext (PhiN X.kk s.heap.objs.size qo (mergeN [] xs))) (t' := tk) (fun b o e => hk' b o (fun h => nomatch h) e) (Nat.le_refl _) (phiN_ok ⟨by omega, hsys, mergeN_deep e3 (fun _ h => nomatch h), hq, _, mergeN_kn kn .nil, es', ep', g1, g2, g3, g4⟩), rfl, ?_⟩
            exact vr_dct (K := X.kk) ex hn (.dN m2) m1 q
      · cases hf
    · cases hf
  · cases hf

/-! ### x[k] = e, x of one's own -/
def sSetS (i : Nat) (cv ck : CE) : CS := fun F s => match cv F s with
  | some (.d y, s1) => match s1.env[i]? with
    | some (some (.d (.list _))) => match ck F s1 with
      | some (.d (.int k), s2) => match s2.env[i]? with
        | some (some (.d (.list ds))) => match ixN ds.length k with
          | some j => some (.nx, { s2 with env := s2.env.set i (some (.d (.list (ds.set j y)))) })
          | none => none
        | _ => none
      | _ => none
    | some (some (.d (.dict _))) => match ck F s1 with
      | some (.d k, s2) => match s2.env[i]? with
        | some (some (.d (.dict kvs))) => if dKey kvs k && decide (kvs.length < sizeLine) then some (.nx, { s2 with env := s2.env.set i (some (.d (.dict (dPut kvs k y)))) }) else none
        | _ => none
      | _ => none
    | _ => none
  | _ => none
theorem ss_setS {cv ck : CE} {f1 f2 : Bool} {tpos : Pos} (hu : X.A.units + 20 < cLine) (hN : X.N[i]? = some x) (hv : Vis X.env.scope x) (hm : M i = true) (he : PE X e (TX X.kk F M f1 cv)) (hk : PE X b (TX X.kk F M f2 ck)) (hd : (x == ("__debug__" : Str)) = false := by decide) (hcd : (x == ("__classdict__" : Str)) = false := by decide)
    (hs : swapsWith e (some (.Subscript (.Name x p) b tpos)) pos.line X.env = pure false := by rfl) : PS X (.Assign [.Subscript (.Name x p) b tpos] e pos) (TSt X.kk F M (sSetS i cv ck)) := by
  refine ⟨fun pins s σ H D I ⟨g, st, f, s', r, ev, q⟩ => ?_⟩
  have pv := pe_var (X := X) (pos := p) hN hv hd hcd
  refine wpAny_Assign_Subscript ?_ hs
  unfold sSetS at ev
  split at ev
  · rename_i y s1 e1
    refine thn (he.run pins s σ H (fun v H1 => ∃ g1, Rel X.kk M g1 s1 σ H1 ∧ Evo g g1 H H1 ∧ Rp X.kk g1.N H1 v y) I ⟨g, st, .d y, s1, r, e1, fun v g1 H1 r1 v1 rp _ => ⟨g1, r1, v1, rp⟩⟩) fun rr sh1 ⟨v, H1, I1, rv, g1, r1, v1, rp⟩ => ?_
    split at ev
    · rename_i ds0 e0
      obtain ⟨l0, xs0, ev0, hp0, hl0, ra0, _⟩ := slot_list r1 e0 hm
      refine thn (pv.run pins sh1 σ H1 (fun w H2 => w = .ref l0 ∧ H2 = H1) I1 ⟨_, ev0, rfl, rfl⟩) fun ou sh2 ⟨ov, H2, I2, ro, eo, eH⟩ => ?_
      subst eo
      rw [eH] at I2
      split at ev
      · rename_i k s2 e2
        refine thn (hk.run pins sh2 σ H1 (fun w H3 => ∃ g3, w = .int k ∧ Rel X.kk M g3 s2 σ H3 ∧ Evo g1 g3 H1 H3) I2 ⟨g1, s1, _, s2, r1, e2, fun w g3 H3 r3 v3 rp3 _ => ⟨g3, by cases rp3; rfl, r3, v3⟩⟩) fun iu sh3 ⟨iv, H3, I3, ri, g3, ei, r3, v3⟩ => ?_
        subst ei
        split at ev
        · rename_i ds e3
          split at ev
          · rename_i j e4
            cases ev
            obtain ⟨l, xs, ev1, hp, hl, ra, ww⟩ := slot_list r3 e3 hm
            rw [ev0] at ev1
            cases ev1
            have rv' : Rp X.kk g3.N H3 v y := v3.rp r1.wn rp
            have t := top_list (.inr ⟨i, hp⟩) hl trivial (ra.set rv' j)
            obtain ⟨r4, v4⟩ := ww (.lst (xs.set j v)) _ t
            exact thn (set_list pins sh3 σ H3 _ _ _ ou iu rr (fun H4 => D.nx σ H4) I3 ro ri rv ⟨l0, xs, k, j, rfl, rfl, hl, by rw [ra.length]; exact e4, q σ g3 _ r4 ((v1.trans v3).trans v4)⟩) fun _ sh4 ⟨H4, I4, q4⟩ => ⟨σ, H4, I4, q4⟩
          · cases ev
        · cases ev
      · cases ev
    · rename_i kvs0 e0
      obtain ⟨l0, ev0, hp0, t0, _⟩ := r1.owned e0 ⟨hm, rfl⟩
      refine thn (pv.run pins sh1 σ H1 (fun w H2 => w = .ref l0 ∧ H2 = H1) I1 ⟨_, ev0, rfl, rfl⟩) fun ou sh2 ⟨ov, H2, I2, ro, eo, eH⟩ => ?_
      subst eo
      rw [eH] at I2
      split at ev
      · rename_i k s2 e2
        refine thn (hk.run pins sh2 σ H1 (fun w H3 => ∃ g3, Rel X.kk M g3 s2 σ H3 ∧ Evo g1 g3 H1 H3 ∧ Rp X.kk g3.N H3 w k) I2 ⟨g1, s1, _, s2, r1, e2, fun w g3 H3 r3 v3 rp3 _ => ⟨g3, r3, v3, rp3⟩⟩) fun iu sh3 ⟨iv, H3, I3, ri, g3, r3, v3, rpk⟩ => ?_
        split at ev
        · rename_i kvs e3
          split at ev
          · rename_i hz
            cases ev
            rw [Bool.and_eq_true, decide_eq_true_eq] at hz
            obtain ⟨l, ev1, hp, t, ww⟩ := r3.owned e3 ⟨hm, rfl⟩
            rw [ev0] at ev1
            cases ev1
            have rv' : Rp X.kk g3.N H3 v y := v3.rp r1.wn rp
            obtain ⟨o, eo, ho⟩ := t.plain
            cases ro
            refine D_setItem hu I3 t.dat eo ho (.inr ⟨i, hp⟩) hz.1 rpk ri rv' rv hz.2 fun o' sh4 I4 dat => ?_
            obtain ⟨r4, v4⟩ := ww o' _ dat.top
            exact ⟨σ, _, I4, q σ g3 _ r4 ((v1.trans v3).trans v4)⟩
          · cases ev
        · cases ev
      · cases ev
    · cases ev
  · cases ev
end
end Ev
/-! Ev20: enumerate, zip, dicts walked. -/
namespace PySem
open Sem (wp)
set_option maxHeartbeats 1000000 in
theorem Ev.meets_enum1 {v : Value} {o : Obj} {H : Heap → Prop} (B : Begins v o H) :
    Meets (Builtin.«enumerate.__new__» ⟨[.type "enumerate", v], []⟩) (fun _ R s => H s.heap ∧
      R (.ok (.ret (.ref (s.heap.push o).objs.size))) { s with heap := (s.heap.push o).push { cls := .type "enumerate", data := .fields #[.none, .bool false, .ref s.heap.objs.size, rawInt 0, .none, .none] } }) :=
  .of_wp fun prog w A R s h => by
    obtain ⟨hp, g, d, tk, os⟩ := s; obtain ⟨h1, h⟩ := h
    have hsub := sub_enumerate
    have q1 : ∀ {A' : Around} {E : Value → Shared → Prop} {Q : Value → Shared → Prop}, Q (.ref hp.objs.size) ⟨hp.push o, g, d, tk, os⟩ → wpAny (model prog w) A' (pyIter v) Q E ⟨hp, g, d, tk, os⟩ :=
      fun q => B.iter prog w _ _ ⟨hp, g, d, tk, os⟩ _ h1 q
    wp_walk using q1
    refine wpAny_stack_any fun st => wpAny_pure ?_
    split
    · rename_i c _ _ _ _ _
      cases (c == Value.type "enumerate")
      · wp_walk using q1
        exact ⟨_, rfl, h⟩
      · wp_walk using q1
        exact ⟨_, rfl, h⟩
    · wp_walk using q1
      exact ⟨_, rfl, h⟩
theorem Ev.enum_begins1 {prog : Program} {w : World} {A : Around} {E : Value → Shared → Prop} {s : Shared} {v : Value} {o : Obj} {H : Heap → Prop} {Q : Value → Shared → Prop} (B : Begins v o H) (h1 : H s.heap)
    (h : ∀ h', IsEnum h' (s.heap.objs.size + 1) s.heap.objs.size 0 .none → h'.get? s.heap.objs.size = some o → h'.objs.size = s.heap.objs.size + 2 →
      (∀ b o, s.heap.get? b = some o → h'.get? b = some o) → Q (.ref (s.heap.objs.size + 1)) { s with heap := h' }) :
    wpAny (model prog w) A (call (.type "enumerate") [v]) Q E s := by
  refine callType_new F.called_enumerate (by decide) (F.typeCall_enumerate_1 _) (F.newCall_enumerate_1 _) (fun obj => F.args_object_init_2 obj _) F.entry_enumerate_new
    (Ev.meets_enum1 B) ⟨h1, ?_⟩
  have hz : (s.heap.push o).objs.size = s.heap.objs.size + 1 := Heap.size_push ..
  show _ ∧ _
  rw [hz]
  have he : IsEnum ((s.heap.push o).push { cls := .type "enumerate", data := .fields #[.none, .bool false, .ref s.heap.objs.size, rawInt 0, .none, .none] }) (s.heap.objs.size + 1) s.heap.objs.size 0 .none := by
    have := Heap.get?_push_size (s.heap.push o) (o := { cls := .type "enumerate", data := .fields #[.none, .bool false, .ref s.heap.objs.size, rawInt 0, .none, .none] }) rfl
    rw [hz] at this; exact this
  refine ⟨⟨_, he, rfl⟩, h _ he (Heap.get?_push_of_some _ (Heap.get?_push_size _ B.free)) (by rw [Heap.size_push, hz]) fun b o x => Heap.get?_push_of_some _ (Heap.get?_push_of_some _ x)⟩
end PySem
namespace Ev
open PySem PySem.Spec L2

/-! ### enumerate(tuple) -/
def IteT (K : PySem.W.Frag) (a : Addr) : It :=
  ⟨fun i H => ∃ (xs : List V) (x : V), SqT K H a xs ∧ xs[i]? = some x, fun i H v H' => ∃ T x, v = .ref T ∧ H T = none ∧ H' = upd H T (.tup [.int (i : Nat), x]) ∧ ∀ xs, SqT K H a xs → xs[i]? = some x, fun i H => ∃ xs : List V, SqT K H a xs ∧ xs.length ≤ i⟩
theorem turn_enumT {P : Program} {w : World} {K : PySem.W.Frag} {elts : List Expr} {kk : Nat} {tpos : Pos} (a e it : Addr) (items : Array Value) :
    Turn P w K (.Tuple elts kk tpos) (IteT K a) [e, it] e (fun i h => (∃ old, IsEnum h e it ((i : Nat) : Int) old) ∧ h.IsTupleIter it a i ∧ e ≠ it ∧ a ≠ it ∧ a ≠ e) where
  mem := by simp
  obj := fun i h st b hb => by
    obtain ⟨⟨old, he⟩, ⟨o, ho, hc, hd⟩, _⟩ := st
    have e' : b = e ∨ b = it := by simpa using hb
    rcases e' with z | z
    · rw [z]; exact ⟨_, he, fun v q => nomatch q⟩
    · rw [z]; exact ⟨o, ho, fun v q => by rw [hd] at q; cases q⟩
  keep := fun i h h' st k => let ⟨⟨old, he⟩, hi, hne⟩ := st; ⟨⟨old, k e (by simp) _ he⟩, hi.at fun o q => k it (by simp) o q, hne⟩
  item := by
    intro X hP hw hK hc i pins s σ H E I hf st hg
    subst hP hw hK
    obtain ⟨⟨old, he⟩, hit, hne, hai, hae⟩ := st
    obtain ⟨xs, x, hq, hx⟩ := hg
    obtain ⟨its, rv, p, hz⟩ := I.tuple hq
    obtain ⟨u, hu, ru⟩ := rv.get hx
    have hel : e < s.heap.objs.size := Heap.lt_size he
    have hil : it < s.heap.objs.size := by obtain ⟨_, q, _⟩ := hit; exact Heap.lt_size q
    have pt : s.heap.IsTuple a its.toArray := p
    refine wpAny_pyNext_enum_itemD (Draws.tuple (prog := X.prog) (w := X.w) (A := X.A.in1) (show X.A.in1.handled = none from I.ok.hd hc) it a hai its.toArray) he ⟨hit, pt⟩ (by simp; exact (List.getElem?_eq_some_iff.mp hu).1) hne (by simp; exact ⟨hne, Ne.symm hae⟩) fun u' h' tk hu' ho hit' hT hsz hk => ?_
    have eu : u' = u := by
      have e1 : its.toArray[i]? = some u' := hu'
      rw [List.getElem?_toArray, hu] at e1
      exact (Option.some.inj e1).symm
    subst eu
    refine ⟨_, rfl, wpAny_letOwnedTupleGo_enum (s := { s with heap := h', toks := tk + 1 }) ho fun h'' he' sb => ?_⟩
    have hT2 : h''.get? s.heap.objs.size = some { cls := .type "tuple", data := .seq #[.int i tk, u'] } := (sb.2 _ (Nat.ne_of_gt hel)).trans hT
    have new : ObjOk X.prog X.w (upd H s.heap.objs.size (.tup [.int (i : Nat), x])) h'' s.heap.objs.size (.tup [.int (i : Nat), x]) :=
      ⟨by show 2 ≤ sizeLine; decide, [.int i tk, u'], .cons ⟨_, rfl⟩ (.cons ru .nil), ⟨_, hT2, rfl, _, rfl⟩⟩
    have I1 : Inv X pins σ (upd H s.heap.objs.size (.tup [.int (i : Nat), x])) { s with heap := h'', toks := tk + 1 } :=
      I.turnedNew (ch := [e, it]) (fun b ob hb q => (sb.2 b (fun z => hb (by simp [z]))).trans (hk b ob (fun z => hb (by simp [z])) (fun z => hb (by simp [z])) q)) hf (Nat.le_refl _) new
    refine ⟨.ref s.heap.objs.size, _, I1, rfl, ⟨_, x, rfl, I.hok.fresh (Nat.le_refl _), rfl, fun ys hy => by rw [I.tuple_inj hy hq]; exact hx⟩, ⟨⟨u', ?_⟩, hit'.1.at fun o q => (sb.2 it (Ne.symm hne)).trans q, hne, hai, hae⟩, fun b hb => ?_⟩
    · have e1 : ((i + 1 : Nat) : Int) = (i : Int) + 1 := by omega
      rw [e1]; exact he'
    · have hb' : b < s.heap.objs.size := by
        have e' : b = e ∨ b = it := by simpa using hb
        rcases e' with z | z
        · rw [z]; exact hel
        · rw [z]; exact hil
      rw [upd_ne (Nat.ne_of_lt hb')]
      exact (hf b hb).1
  done := by
    intro X hP hw hK hc i pins s σ H E I hf st hg
    subst hP hw hK
    obtain ⟨⟨old, he⟩, hit, hne, hai, hae⟩ := st
    obtain ⟨xs, hq, hx⟩ := hg
    obtain ⟨its, rv, p, hz⟩ := I.tuple hq
    obtain ⟨f0, f1, f2, f3, f4, f5⟩ := hf it (by simp)
    have hl := rv.length
    have pt : s.heap.IsTuple a its.toArray := p
    have hT : s.TypeIs (.ref e) "enumerate" := ⟨_, he, rfl⟩
    unfold pyNext
    refine wpAny_bind (wpAny_attempt (wpAny_callSpecial?_slot (name := Str.ofString "__next__") hT F.slot_enumerate_next
      (wpAny_call_entry F.slot_enumerate_next hT F.entry_enumerate_next ?_ (F.args_enumerate_next_1 _))))
    show wpAny _ _ (field (.ref e) 2 >>= _) _ _ _
    refine wpAny_bind (wpAny_field he rfl (x := .ref it) rfl ?_)
    refine wpAny_bind (wpAny_nextOf_tuple_end (I.ok.hd hc) hit pt (by simp; omega) fun h' x he' hx' => ?_)
    obtain ⟨o, ho, hc'⟩ := hx'
    refine wpAny_bind (wpAny_isInstance (T := "StopIteration") (b := true) ⟨o, ho, hc'⟩ isSubtype_stop ?_)
    exact wpAny_pure ⟨rfl, I.turned (t' := s.toks) (fun b o hb q => he' b o hb q) f0 f1 f3 f4 f5⟩
  self := fun A i s Q E st h => let ⟨⟨_, he⟩, _⟩ := st; wpAny_pyIter_enum he h
def iEnumA (K : PySem.W.Frag) (ta : TA) : TI := fun σ H R => ta σ H fun vs H1 => ∃ a xs, vs = [.ref a] ∧ ((SqL K H1 a xs ∧ R (Ite K a) H1) ∨ (SqT K H1 a xs ∧ R (IteT K a) H1))
theorem pi_enumA {X : Cx} {e : Expr} {ta : TA} {p pos tpos : Pos} {elts : List Expr} {kk : Nat} (hg : Gl X "enumerate") (hm : X.mg "enumerate" = none) (ha : PA X [e] ta) (hs : starEach [e] X.env = [(false, eval e X.env)] := by rfl) :
    PI X (.Tuple elts kk tpos) (.Call (.Name "enumerate" p) [e] [] pos) (iEnumA X.K ta) := by
  refine ⟨fun pins s σ H R I h => ?_⟩
  refine PyProof.Rows.Call_ (ld_blt I hg hm PyProof.Rows.boot_enumerate (PyProof.Rows.callWith_type1 (thn (ha.run pos pins s σ H _ I h) fun us s1 ⟨vs, H1, I1, r1, q1⟩ => ?_) hs rfl))
  obtain ⟨a, xs, ex, q⟩ := q1
  subst ex
  cases r1 with
  | cons r rr =>
    cases rr
    cases r
    have fp : ∀ b ∈ [s1.heap.objs.size + 1, s1.heap.objs.size], FpOk X pins H1 b := fun b hb => by
      have e' : b = s1.heap.objs.size + 1 ∨ b = s1.heap.objs.size := by simpa using hb
      have hle : s1.heap.objs.size ≤ b := by
        rcases e' with z | z
        · rw [z]; exact Nat.le_add_right _ _
        · rw [z]; exact Nat.le_refl _
      exact I1.fpOk hle (I1.hok.fresh hle)
    rcases q with ⟨hq, q⟩ | ⟨hq, q⟩
    · obtain ⟨its, rv, p', hz⟩ := I1.list hq
      refine call_enumerate_list p'.isList fun h' he hit hsz hk => wpAny_pyIter_enum he ?_
      have I2 : Inv X pins σ H1 { s1 with heap := h' } := I1.kept (t' := s1.toks) hk
      exact ⟨s1.heap.objs.size + 1, [s1.heap.objs.size + 1, s1.heap.objs.size], _, _, H1, rfl, I2, turn_enum a (s1.heap.objs.size + 1) s1.heap.objs.size, ⟨⟨.none, he⟩, hit, Nat.succ_ne_self _⟩, fp, q⟩
    · obtain ⟨its, rv, p', hz⟩ := I1.tuple hq
      have pt : s1.heap.IsTuple a its.toArray := p'
      have hal : a < s1.heap.objs.size := by obtain ⟨_, q, _⟩ := id pt; exact Heap.lt_size q
      refine Ev.enum_begins1 (begins_tuple a its.toArray) pt fun h' he ho hsz hk => wpAny_pyIter_enum he ?_
      have I2 : Inv X pins σ H1 { s1 with heap := h' } := I1.kept (t' := s1.toks) hk
      exact ⟨s1.heap.objs.size + 1, [s1.heap.objs.size + 1, s1.heap.objs.size], _, _, H1, rfl, I2, turn_enumT a (s1.heap.objs.size + 1) s1.heap.objs.size its.toArray, ⟨⟨.none, he⟩, ⟨_, ho, rfl, rfl⟩, Nat.succ_ne_self _, Nat.ne_of_lt hal, Nat.ne_of_lt (Nat.lt_succ_of_lt hal)⟩, fp, q⟩

section
variable {X : Cx} {M : Nat → Bool} {F : Fn} {tg a b c e : Expr} {es : List Expr} {pos p tpos : Pos}
theorem walk_enumT {K : KK} {g : G} {H : Hp} {a : Addr} {xs : List V} {ds : List PyData} (wn : ∀ b, g.W b → g.N b) (hr : SqT K.k H a xs) (r : RpA K g.N H xs ds) : Walk K g H (IteT K.k a) (pairUp 0 ds) := fun g2 H2 v _ _ => by
  have hr2 : SqT K.k H2 a xs := v.seq hr
  have r2 := v.rpA wn r
  refine ⟨fun i d e => ?_, ⟨xs, hr2, by rw [pairUp_length, r.length]; exact Nat.le_refl _⟩⟩
  obtain ⟨d', e', rfl⟩ := pairUp_get e
  obtain ⟨x, ex, rx⟩ := r2.get e'
  refine ⟨⟨xs, x, hr2, ex⟩, fun y H3 ⟨T, x', e1, hT, e2, e3⟩ => ?_⟩
  subst e1 e2
  have e4 := e3 xs hr2
  rw [ex] at e4
  cases e4
  rw [Nat.zero_add]
  exact pair_at hT (.int _) rx
/-- enumerate(..) -/
def icEnum (o : Opd) : IC := fun F s => match evOps [o] F s with
  | some ([d], s', l) => match itemsOf d with
    | some ds => some (pairUp 0 ds, s', l)
    | none => none
  | _ => none
theorem it_enum {o : Opd} {elts : List Expr} {kk : Nat} (hg : Gl X "enumerate") (hm : X.mg "enumerate" = none) (ha : PE X a (TP X.kk F M o)) (hs : starEach [a] X.env = [(false, eval a X.env)] := by rfl) :
    PI X (.Tuple elts kk tpos) (.Call (.Name "enumerate" p) [a] [] pos) (TIX X.kk F M (icEnum o)) :=
  piI (pi_enumA hg hm (ops_cons ha ops_nil hs) hs) fun σ H R ⟨g, s, ds, s', l, r, ev, q⟩ => by
    unfold icEnum at ev
    split at ev
    · rename_i d s1 l1 e1
      split at ev
      · rename_i ds1 e2
        cases ev
        refine ⟨g, s, _, s', l, r, e1, fun vs g1 H1 r1 v1 rp L => ?_⟩
        cases rp with
        | cons rp1 rp2 =>
          cases rp2
          rcases itemsOf_cases e2 with rfl | rfl
          · obtain ⟨a, xs, rfl, hr, ra, nw⟩ := rp1.seqL r1.wn
            exact ⟨a, xs, rfl, .inl ⟨hr, q _ g1 H1 r1 v1 L (walk_enum r1.wn nw ra)⟩⟩
          · obtain ⟨a, xs, rfl, hr, ra⟩ := rp1.seqT
            exact ⟨a, xs, rfl, .inr ⟨hr, q _ g1 H1 r1 v1 L (walk_enumT r1.wn hr ra)⟩⟩
      · cases ev
    · cases ev

/-! ### zip -/
def zipD : List PyData → List PyData → List PyData
  | x :: xs, y :: ys => .tuple [x, y] :: zipD xs ys
  | _, _ => []
theorem zipD_get : ∀ {xs ys : List PyData} {i : Nat} {d : PyData}, (zipD xs ys)[i]? = some d → ∃ x y, xs[i]? = some x ∧ ys[i]? = some y ∧ d = .tuple [x, y]
  | [], _, _, _, e => by simp [zipD] at e
  | _ :: _, [], _, _, e => by simp [zipD] at e
  | x :: xs, y :: ys, 0, d, e => by simp [zipD] at e; exact ⟨x, y, rfl, rfl, e.symm⟩
  | x :: xs, y :: ys, i + 1, d, e => by
    obtain ⟨x', y', h1, h2, h3⟩ := zipD_get (xs := xs) (ys := ys) (i := i) (d := d) (by simpa [zipD] using e)
    exact ⟨x', y', by simpa using h1, by simpa using h2, h3⟩
theorem zipD_length : ∀ (xs ys : List PyData), (zipD xs ys).length = min xs.length ys.length
  | [], ys => by simp [zipD]
  | _ :: _, [] => by simp [zipD]
  | x :: xs, y :: ys => by simp [zipD, zipD_length xs ys]
def icZip (o o' : Opd) : IC := fun F s => match evOps [o, o'] F s with
  | some ([.list xs, .list ys], s', l) => some (zipD xs ys, s', l)
  | some ([.tuple xs, .tuple ys], s', l) => some (zipD xs ys, s', l)
  | _ => none
theorem it_zip {o o' : Opd} {elts : List Expr} {kk : Nat} (hg : Gl X "zip") (hm : X.mg "zip" = none) (ha : PE X a (TP X.kk F M o)) (hb : PE X b (TP X.kk F M o')) (hs : starEach [a, b] X.env = (false, eval a X.env) :: starEach [b] X.env := by rfl) (hs2 : starEach [b] X.env = (false, eval b X.env) :: starEach [] X.env := by rfl) (hpl : (backTo pos (starEach [b] X.env)).any (·.1) = false := by rfl) :
    PI X (.Tuple elts kk tpos) (.Call (.Name "zip" p) [a, b] [] pos) (TIX X.kk F M (icZip o o')) :=
  piI (RZ.pi_zipA hg hm (ops_cons ha (ops_cons hb ops_nil hs2) hs) hs hpl) fun σ H R ⟨g, s, ds, s', l, r, ev, q⟩ => by
    unfold icZip at ev
    split at ev
    · rename_i xs ys s1 l1 e1
      cases ev
      refine ⟨g, s, _, s', l, r, e1, fun vs g1 H1 r1 v1 rp L => ?_⟩
      cases rp with
      | cons rp1 rp2 =>
        cases rp2 with
        | cons rp2 rp3 =>
          cases rp3
          obtain ⟨a, vs, rfl, hr, ra, nw⟩ := rp1.seqL r1.wn
          obtain ⟨b, ws, rfl, hr', ra', nw'⟩ := rp2.seqL r1.wn
          refine ⟨a, b, vs, ws, rfl, .inl ⟨hr, hr', q _ g1 H1 r1 v1 L fun g2 H2 v wn ex => ?_⟩⟩
          have h2 := nw g2 H2 v
          have h2' := nw' g2 H2 v
          have q1 := v.rpA r1.wn ra
          have q2 := v.rpA r1.wn ra'
          refine ⟨fun i d e => ?_, ⟨vs, ws, h2, h2', by rw [zipD_length, ← q1.length, ← q2.length]; omega⟩⟩
          obtain ⟨dx, dy, e1, e2, rfl⟩ := zipD_get e
          obtain ⟨x, ex, rx⟩ := q1.get e1
          obtain ⟨y, ey, ry⟩ := q2.get e2
          refine ⟨⟨vs, ws, x, y, h2, h2', ex, ey⟩, fun z H3 ⟨T, x', y', e1, hT, e2, e3, e4⟩ => ?_⟩
          subst e1 e2
          have e5 := e3 vs h2
          have e6 := e4 ws h2'
          rw [ex] at e5
          rw [ey] at e6
          cases e5
          cases e6
          exact pair_at hT rx ry
    · rename_i xs ys s1 l1 e1
      cases ev
      refine ⟨g, s, _, s', l, r, e1, fun vs g1 H1 r1 v1 rp L => ?_⟩
      cases rp with
      | cons rp1 rp2 =>
        cases rp2 with
        | cons rp2 rp3 =>
          cases rp3
          obtain ⟨a, vs, rfl, hr, ra⟩ := rp1.seqT
          obtain ⟨b, ws, rfl, hr', ra'⟩ := rp2.seqT
          refine ⟨a, b, vs, ws, rfl, .inr ⟨hr, hr', q _ g1 H1 r1 v1 L fun g2 H2 v wn ex => ?_⟩⟩
          have h2 := v.seq hr
          have h2' := v.seq hr'
          have q1 := v.rpA r1.wn ra
          have q2 := v.rpA r1.wn ra'
          refine ⟨fun i d e => ?_, ⟨vs, ws, h2, h2', by rw [zipD_length, ← q1.length, ← q2.length]; omega⟩⟩
          obtain ⟨dx, dy, e1, e2, rfl⟩ := zipD_get e
          obtain ⟨x, ex, rx⟩ := q1.get e1
          obtain ⟨y, ey, ry⟩ := q2.get e2
          refine ⟨⟨vs, ws, x, y, h2, h2', ex, ey⟩, fun z H3 ⟨T, x', y', e1, hT, e2, e3, e4⟩ => ?_⟩
          subst e1 e2
          have e5 := e3 vs h2
          have e6 := e4 ws h2'
          rw [ex] at e5
          rw [ey] at e6
          cases e5
          cases e6
          exact pair_at hT rx ry
    · cases ev
end

/-! ### the keys of a dict -/
def ItK (a : Addr) (o : HO) (ents : List (V × V)) : It :=
  ⟨fun i H => H a = some o ∧ i < ents.length, fun i H x H' => H' = H ∧ ∃ p, ents[i]? = some p ∧ x = p.1, fun i H => H a = some o ∧ ents.length ≤ i⟩
theorem turn_K {X : Cx} {tg : Expr} {a it : Addr} {o : HO} {es : Array DictEntry} {ep : Nat} {ents : List (V × V)} (P : PinD a o es ep ents) : Turn X.prog X.w X.K tg (ItK a o ents) [it] it (fun i h => h.IsKeyIter it a i es.size ep) where
  mem := by simp
  obj := fun i h st b hb => by
    have e : b = it := by simpa using hb
    subst e
    obtain ⟨oi, e, c, dd⟩ := st
    exact ⟨oi, e, fun v z => by rw [dd] at z; cases z⟩
  keep := fun i h h' st k => st.at fun oi e => k it (by simp) oi e
  item := by
    intro Y hP hw hK hc i pins s σ H E I hf st hg
    rw [← hP, ← hw]
    obtain ⟨hd, hi⟩ := hg
    obtain ⟨f0, f1, f2, f3, f4, f5⟩ := hf it (by simp)
    have hi' : i < es.size := by rw [P.size]; exact hi
    refine wpAny_pyNext_keys_item_raw st (P.at' _ _ _ _ _ I hd) hi' fun h' st' sb => ?_
    have I1 : Inv Y pins σ H { s with heap := h' } := I.turned (t' := s.toks) (fun b ob hb e => (sb.2 b hb).trans e) f0 f1 f3 f4 f5
    obtain ⟨oi, e, c, dd⟩ := id st'
    obtain ⟨p, hp1, hp2, _⟩ := P.rel i hi'
    exact ⟨es[i].key, rfl, go_of (s := { s with heap := h' }) e c dd (by decide) ⟨p.1, H, I1, hp2, ⟨rfl, p, hp1, rfl⟩, st', fun b hb => (hf b hb).1⟩⟩
  done := by
    intro Y hP hw hK hc i pins s σ H E I hf st hg
    rw [← hP, ← hw]
    obtain ⟨hd, hi⟩ := hg
    obtain ⟨f0, f1, f2, f3, f4, f5⟩ := hf it (by simp)
    exact wpAny_pyNext_keys_end_raw (I.ok.hd hc) st (P.at' _ _ _ _ _ I hd) (by rw [P.size]; exact hi) fun h' eb => ⟨rfl, I.turned (t' := s.toks) (fun b ob hb e => eb b ob hb e) f0 f1 f3 f4 f5⟩
  self := fun A i s Q E st h => by
    refine wpAny_pyIter_slot st.typeIs F.slot_dict_keyiterator_iter (wpAny_call_entry F.slot_dict_keyiterator_iter st.typeIs F.entry_dict_keyiterator_iter ?_ (F.args_dict_keyiterator_iter_1 _))
    show wpAny _ _ (ret (.ref it)) _ _ s
    exact wpAny_pure ⟨_, rfl, "dict_keyiterator", _, st.typeIs, F.slot_dict_keyiterator_next.lookup, h⟩
end Ev
/-! Ev21: dict comprehensions. -/
namespace Ev
open PySem PySem.Spec L2 PyProof.Rows
section
variable {X : Cx}
def newO (K : KK) (D : Addr) : HO := .ext (PhiK K D { cls := .type "dict", data := .dict #[] } [])
/-- {k: v for target in iter if ..}: D the new dict -/
def tDcG (K : KK) (wi : TI) (g : TG) (tt : TT) (tk tv : TE) (vs : List Nat) : TE := fun σ H Q => wi σ H fun J H1 => ∀ D, H1 D = none → ∃ W : Nat → Nat → Hp → Prop, (∃ m, W 0 m (upd H1 D (newO K D))) ∧ ∀ i m H, W i m H →
  (J.stop i H ∧ Q (.ref D) H) ∨ (J.go i H ∧ ∃ Nx : Hp → Prop, (∀ H', Nx H' → ∃ m', m' < m ∧ W (i + 1) m' H') ∧ ∀ x H', J.yld i H x H' → g x (wipe σ vs) H' fun σ2 H2 => wipe σ2 vs = wipe σ vs ∧ tt σ2 H2 fun b H3 =>
    if b = true then tk σ2 H3 fun y H4 => tv σ2 H4 fun z H5 => ∃ N kvs k d, N D ∧ DAt K N H5 D kvs ∧ dKey kvs k = true ∧ Rp K N H5 y k ∧ Rp K N H5 z d ∧ kvs.length < sizeLine ∧ ∀ o', DAt K N (upd H5 D o') D (dPut kvs k d) → Nx (upd H5 D o') else Nx H3)
theorem dcg_core {pins : List (Addr × Obj)} {s : Shared} {σ : L2.St} {H : Hp} {Q : VK} {kx vx tg iter : Expr} {ifs : List Expr} {scope : Scope} {own : List (Str × Nat)} {pos pos' : Pos} {wi : TI} {g : TG} {tt : TT} {tk tv : TE} {use : Option (Value → Sem Unit)} {Qf : Value → Shared → Prop}
    (hc : X.calm = true) (hN : X.N.Nodup) (I : L2.Inv X pins σ H s) (hi : PI X tg iter wi) (ok : BlkOk X.N X.env.scope scope own)
    (hg : ∀ (s : Shared) (H : Hp) (C : Addr) (cl : List (Str × Addr)) (fp : List Addr), PG (X.blk s H scope (compEnvC scope cl C X.env) fp) tg g) (ht : ∀ (s : Shared) (H : Hp) (C : Addr) (cl : List (Str × Addr)) (fp : List Addr), PTs (X.blk s H scope (compEnvC scope cl C X.env) fp) ifs tt)
    (hu : X.A.units + 20 < cLine) (hk : ∀ (s : Shared) (H : Hp) (C : Addr) (cl : List (Str × Addr)) (fp : List Addr), PE (X.blk s H scope (compEnvC scope cl C X.env) fp) kx tk)
    (he : ∀ (s : Shared) (H : Hp) (C : Addr) (cl : List (Str × Addr)) (fp : List Addr), PE (X.blk s H scope (compEnvC scope cl C X.env) fp) vx tv) (hs : ∀ x, foldedSetIterable iter X.env x = pure x)
    (h : tDcG X.kk wi g tt tk tv (own.map (·.2)) σ H Q)
    (hEnd : ∀ D C s' m H', L2.Inv X pins σ H' s' → Q (.ref D) H' → s'.heap.Ns C m → FpOk X pins H' C → compPost (model X.prog X.w) X.A X.xe use Qf (.ref D) C (.ok .next) s') :
    wpAny (model X.prog X.w) X.A (comprehension (.DictComp kx vx [⟨tg, iter, ifs, 0⟩] scope pos) scope X.env pos' newDict false (eval iter X.env) use) Qf X.xe s := by
  have hfree : ∀ y ∈ scope.names, y.2 = .free → ∃ c, X.env.cells.lookup y.1 = some c := fun y hy e => by
    rcases ok.free y hy e with k | k
    · exact I.ok.has _ (.inl k)
    · exact I.ok.has _ (.inr k)
  refine wpAny_comprehension_free (use := use) rfl hs (closure_ok hfree) ok.kind (fun y hy e => by rw [ok.uniq y hy, e])
    (thn (hi.run pins s σ H _ I h) fun xv v1 hx => thn hx fun itv v2 h2 => ?_)
  obtain ⟨it, fp, tn, J, K2, e, J2, T, st2, f2, q⟩ := h2
  subst e
  refine wpAny_newObj_type (newEnv_comp ?_)
  generalize hD : v2.heap.objs.size = D
  have hDno : K2 D = none := J2.hok.fresh (Nat.le_of_eq hD)
  obtain ⟨W, ⟨mm0, ww0⟩, turnW⟩ := q D hDno
  -- the new list
  generalize hs3 : ({ v2 with heap := v2.heap.push { cls := .type "dict", data := .dict #[] } } : Shared) = u3
  have J3 : L2.Inv X pins σ (upd K2 D (newO X.kk D)) u3 := by
    rw [← hs3]
    refine J2.laid (t' := v2.toks) (fun b o e => Heap.get?_push_of_some _ e) (Nat.le_of_eq hD) ?_
    subst hD
    exact phiK_ok ⟨Nat.zero_le _, beq_eq_false_iff_ne.mpr (Ne.symm (Nat.ne_of_lt J2.big)), Heap.get?_push_size _ rfl, [], .nil, Heap.DictOf.new _⟩
  have h3 : u3.heap = v2.heap.push { cls := .type "dict", data := .dict #[] } := by rw [← hs3]
  have szW : ∀ b ∈ fp, b < v2.heap.objs.size := fun b hb => by
    obtain ⟨o, e, _⟩ := T.obj _ _ st2 b hb
    exact Heap.lt_size e
  have ff3 : ∀ b ∈ fp, FpOk X pins (upd K2 D (newO X.kk D)) b ∧ b < u3.heap.objs.size := fun b hb => by
    have hlt := szW b hb
    refine ⟨⟨?_, (f2 b hb).2⟩, by rw [h3, Heap.size_push]; exact Nat.lt_succ_of_lt hlt⟩
    rw [upd_ne (by rw [← hD]; exact Nat.ne_of_lt hlt)]
    exact (f2 b hb).1
  have su3 : tn 0 u3.heap := T.keep _ _ _ st2 fun b _ o e => by rw [h3]; exact Heap.get?_push_of_some _ e
  have J4 := block_start J3 ok hN ff3
  have pg := hg u3 (upd K2 D (newO X.kk D)) u3.heap.objs.size (cellsFrom (u3.heap.objs.size + 1) scope.names (cloFrom X.env.cells scope.names [])) fp
  have pt := ht u3 (upd K2 D (newO X.kk D)) u3.heap.objs.size (cellsFrom (u3.heap.objs.size + 1) scope.names (cloFrom X.env.cells scope.names [])) fp
  have pk := hk u3 (upd K2 D (newO X.kk D)) u3.heap.objs.size (cellsFrom (u3.heap.objs.size + 1) scope.names (cloFrom X.env.cells scope.names [])) fp
  have pe := he u3 (upd K2 D (newO X.kk D)) u3.heap.objs.size (cellsFrom (u3.heap.objs.size + 1) scope.names (cloFrom X.env.cells scope.names [])) fp
  show codeAny _ _ (.compStart (.DictComp kx vx [⟨tg, iter, ifs, 0⟩] scope pos) 0 (.ref it) (.ref D) (compEnvC scope (cellsFrom (u3.heap.objs.size + 1) scope.names (cloFrom X.env.cells scope.names [])) u3.heap.objs.size X.env)) (compPost (model X.prog X.w) X.A X.xe use Qf (.ref D) u3.heap.objs.size) { u3 with heap := pushCells (u3.heap.push { cls := .type "dict", data := .dict #[] }) scope.names }
  have nofp : ∀ b ∈ fp, (upd K2 D (newO X.kk D)) b = none := fun b hb => (ff3 b hb).1.1
  generalize hcE : compEnvC scope (cellsFrom (u3.heap.objs.size + 1) scope.names (cloFrom X.env.cells scope.names [])) u3.heap.objs.size X.env = ce at J4 pg pt pk pe ⊢
  have cLo : ce.locals = u3.heap.objs.size := by subst hcE; rfl
  generalize hH3 : upd K2 D (newO X.kk D) = G3 at J3 J4 pg pt pk pe ww0 nofp ff3
  generalize hs4 : ({ u3 with heap := pushCells (u3.heap.push { cls := .type "dict", data := .dict #[] }) scope.names } : Shared) = u4 at J4 ⊢
  have su4 : tn 0 u4.heap := T.keep _ _ _ su3 fun b _ o e => by rw [← hs4]; exact pushCells_keeps _ _ _ _ (Heap.get?_push_of_some _ e)
  have statW : ∀ {σ' : L2.St} {H' : Hp} {s' : Shared}, L2.Inv (X.blk u3 G3 scope ce fp) [] σ' H' s' → (∀ b ∈ fp, H' b = none) → ∀ b ∈ fp, FpOk (X.blk u3 G3 scope ce fp) [] H' b := fun {σ' H' s'} I' hn b hb =>
    ⟨hn b hb, (I'.ok.exf b hb).1, I'.ok.exfs b hb, .inl hb, fun x c e => (I'.ok.exf b hb).2 x c e, fun p hp => absurd (show p ∈ ([] : List (Addr × Obj)) ++ [] from hp) (by simp)⟩
  have loop : codeAny (model X.prog X.w) X.A (.compLoop (.DictComp kx vx [⟨tg, iter, ifs, 0⟩] scope pos) 0 (.ref it) (.ref D) ce) (compPost (model X.prog X.w) X.A X.xe use Qf (.ref D) u3.heap.objs.size) u4 := by
    refine compLoop_anyD (fun n s' => ∃ i H', L2.Inv (X.blk u3 G3 scope ce fp) [] (wipe σ (own.map (·.2))) H' s' ∧ tn i s'.heap ∧ (∀ b ∈ fp, H' b = none) ∧ W i n H') ?_ mm0 ⟨0, G3, J4, su4, nofp, ww0⟩
    rintro n t5 ⟨i, G5, Jv, su5, nn5, w5⟩
    rcases turnW i n G5 w5 with ⟨stop, qq⟩ | ⟨go, Nx, hNn, step⟩
    · have td := T.done (X.blk u3 G3 scope ce fp) rfl rfl rfl hc i [] t5 _ G5 (fun _ _ => False) Jv (statW Jv nn5) su5 stop
      refine thnF td fun r t6 ⟨hr, Jw⟩ => ?_
      subst hr
      -- back in the def's context
      have Jx : L2.Inv X pins σ G5 t6 := J3.call' (ch := fp) Jw.os Jw.base Jw.hok Jw.bare fun b hb => ⟨(ff3 b hb).1.2.2.2.1, (ff3 b hb).1.2.1, (ff3 b hb).1.2.2.2.2.1, (ff3 b hb).1.2.2.2.2.2⟩
      have nC : G5 u3.heap.objs.size = none := by
        have z : G5 ce.locals = none := Jw.free
        rw [cLo] at z
        exact z
      obtain ⟨m, hn, _⟩ := Jw.loc
      have hn : t6.heap.Ns ce.locals m := hn
      rw [cLo] at hn
      exact hEnd D u3.heap.objs.size t6 m G5 Jx qq hn (J3.fpOk (Nat.le_refl _) nC)
    · have ti := T.item (X.blk u3 G3 scope ce fp) rfl rfl rfl hc i [] t5 _ G5 (fun _ _ => False) Jv (statW Jv nn5) su5 go
      refine thnF ti fun r t6 ⟨u, hr, h6⟩ => ?_
      subst hr
      refine thnF h6 fun _ t7 ⟨x, G7, Jx, r7, y7, su7, nn7⟩ => ?_
      have I7' := Jx.pinned (statW Jx nn7) (T.obj _ _ su7)
      refine thnF (pg.run _ t7 _ G7 x u _ I7' r7 (step x G7 y7)) fun _ t8 ⟨σ8, G8, Jy, hw8, q8⟩ => ?_
      refine thnF (pt.run _ t8 σ8 G8 _ Jy q8) fun b t9 ⟨G9, Jz, q9⟩ => ?_
      -- the turn's end
      have finW : ∀ {s' : Shared} {H' : Hp}, L2.Inv (X.blk u3 G3 scope ce fp) ([] ++ pinsAt fp t7.heap) σ8 H' s' → Nx H' → ∃ m, m < n ∧ ∃ i H', L2.Inv (X.blk u3 G3 scope ce fp) [] (wipe σ (own.map (·.2))) H' s' ∧ tn i s'.heap ∧ (∀ b ∈ fp, H' b = none) ∧ W i m H' := fun {s' H'} I' nx => by
        obtain ⟨m', hm, wq⟩ := hNn H' nx
        have pinQ : ∀ b ∈ fp, ∀ o, t7.heap.get? b = some o → s'.heap.get? b = some o ∧ H' b = none := fun b hb o e =>
          let z := I'.pin (b, o) (List.mem_append_right _ (List.mem_append_right _ (mem_pinsAt hb e)))
          ⟨z.1, z.2.1⟩
        have hl : (wipe σ (own.map (·.2))).length = σ8.length := by rw [← hw8, wipe_length]
        refine ⟨m', hm, i + 1, H', (I'.unpinned (pins := [])).weak hl (fun j v e => ?_), T.keep _ _ _ su7 fun b hb o e => (pinQ b hb o e).1, fun b hb => ?_, wq⟩
        · rw [← hw8] at e
          exact (wipe_some e).1
        · obtain ⟨o, e, _⟩ := T.obj _ _ su7 b hb
          exact (pinQ b hb o e).2
      cases b with
      | false =>
        simp only [Bool.false_eq_true, if_false] at q9 ⊢
        exact finW Jz q9
      | true =>
        simp only [if_true] at q9 ⊢
        refine thnF (pk.run _ t9 σ8 G9 _ Jz q9) fun z s10 ⟨yk, H10, I10, r10, q10⟩ => ?_
        refine thnF (pe.run _ s10 σ8 H10 _ I10 q10) fun z2 s11 ⟨yv, H11, I11, r11, Nd, kvs, k, d, hND, dat, hky, rk, rv, hz11, nx⟩ => ?_
        obtain ⟨oD, esD, eD, deD, _⟩ := id dat
        have hpl : Plain0 oD := by cases deD <;> trivial
        exact D_dictSet (X := X.blk u3 G3 scope ce fp) hu I11 dat eD hpl hND hky rk r10 rv r11 hz11 fun o' s12 I12 dat' => finW I12 (nx o' dat')
  exact codeAny_compStart_dict loop (T.self X.A 0 _ _ _ su4 loop)
/-- as a value -/
theorem pe_dcg {kx vx tg iter : Expr} {ifs : List Expr} {scope : Scope} {own : List (Str × Nat)} {pos : Pos} {wi : TI} {g : TG} {tt : TT} {tk tv : TE} (hc : X.calm = true) (hN : X.N.Nodup) (hi : PI X tg iter wi) (ok : BlkOk X.N X.env.scope scope own)
    (hg : ∀ (s : Shared) (H : Hp) (C : Addr) (cl : List (Str × Addr)) (fp : List Addr), PG (X.blk s H scope (compEnvC scope cl C X.env) fp) tg g) (ht : ∀ (s : Shared) (H : Hp) (C : Addr) (cl : List (Str × Addr)) (fp : List Addr), PTs (X.blk s H scope (compEnvC scope cl C X.env) fp) ifs tt)
    (hu : X.A.units + 20 < cLine) (hk : ∀ (s : Shared) (H : Hp) (C : Addr) (cl : List (Str × Addr)) (fp : List Addr), PE (X.blk s H scope (compEnvC scope cl C X.env) fp) kx tk)
    (he : ∀ (s : Shared) (H : Hp) (C : Addr) (cl : List (Str × Addr)) (fp : List Addr), PE (X.blk s H scope (compEnvC scope cl C X.env) fp) vx tv) (hs : ∀ x, foldedSetIterable iter X.env x = pure x := by intro _; rfl) :
    PE X (.DictComp kx vx [⟨tg, iter, ifs, 0⟩] scope pos) (tDcG X.kk wi g tt tk tv (own.map (·.2))) := by
  refine ⟨fun pins s σ H Q I h => ?_⟩
  rw [arm_eval_DictComp]
  refine dcg_core hc hN I hi ok hg ht hu hk he hs h fun D C s' m Hz Iz q hnz fz => ⟨m, hnz, fun hq sb => ?_⟩
  obtain ⟨f0, f1, f2, f3, f4, f5⟩ := fz
  exact ⟨.ref D, Hz, Iz.turned (t' := s'.toks) (fun b o hb e => (sb.2 b hb).trans e) f0 f1 f3 f4 f5, rfl, q⟩
end
end Ev
/-! Ev22: dict comprehensions' reading. -/
namespace Ev
open PySem PySem.Spec L2
section
variable {X : Cx} {M : Nat → Bool} {F : Fn} {elt tg iter : Expr} {ifs : List Expr} {scope : Scope} {own : List (Str × Nat)} {pos : Pos}
/-! ### {k: v for target in .. if ..} -/
def dcL (as : PyData → S → Option S) (own : List Nat) (t : CB) (ck cv : CE) (F : Fn) : List PyData → List (PyData × PyData) → S → Option (List (PyData × PyData) × S)
  | [], acc, s => some (acc, s)
  | d :: ds, acc, s => match as d (wipeS own s) with
    | some s1 => match t F s1 with
      | some (true, s2) => match ck F s2 with
        | some (.d k, s3) => match cv F s3 with
          | some (.d y, s4) => if dKey acc k && decide (acc.length < sizeLine) then dcL as own t ck cv F ds (dPut acc k y) s4 else none
          | _ => none
        | _ => none
      | some (false, s2) => dcL as own t ck cv F ds acc s2
      | none => none
    | none => none
def cDc (own : List Nat) (as : PyData → S → Option S) (ic : IC) (t : CB) (ck cv : CE) : CE := fun F s => match ic F s with
  | some (ds, s1, l) => if ds.length ≤ sizeLine then match dcL as own t ck cv F ds [] s1 with
      | some (ys, s2) => some (.d (.dict ys), back l (unwipeS own s1 (wipeS own s2)))
      | none => none
    else none
  | none => none
theorem dPut_len {kvs : List (PyData × PyData)} {k v : PyData} : (dPut kvs k v).length ≤ kvs.length + 1 := by
  unfold dPut
  split <;> simp
theorem tx_dc {ic : IC} {ts own : List Nat} {as : PyData → S → Option S} {cb : CB} {ck cv : CE} {fk fv : Bool} {σ : L2.St} {H : Hp} {Q : VK} (hm : ∀ i ∈ own, M i = false) (hts : ∀ t ∈ ts, t ∈ own)
    (h : TX X.kk F M true (cDc own as ic cb ck cv) σ H Q) : tDcG X.kk (TIX X.kk F M ic) (TGX X.kk M ts as) (TB X.kk F M cb) (TX X.kk F M fk ck) (TX X.kk F M fv cv) own σ H Q := by
  obtain ⟨g, s, x, s', r, ev, q⟩ := h
  unfold cDc at ev
  split at ev
  · rename_i ds s1 l e1
    split at ev
    · rename_i hz
      split at ev
      · rename_i ys s2 e2
        cases ev
        refine ⟨g, s, ds, s1, l, r, e1, fun J g1 H1 r1 v1 L W D hD => ?_⟩
        have nSC : ¬ (g1.SA D ∨ g1.CA D) := fun z => r1.ex D (.inl (r1.srN D z)) hD
        have k0 : Same H1 (upd H1 D (newO X.kk D)) := fun b o e => by rw [upd_ne (ne_of_none e hD)]; exact e
        refine ⟨fun i m Hk => m + i = ds.length ∧ ∃ gk sk acc, Rel X.kk M gk (wipeS own sk) (wipe σ own) Hk ∧ Evo g1 gk H1 Hk ∧ gk.N0 D ∧ ¬ (gk.SA D ∨ gk.CA D) ∧ DAt X.kk gk.N Hk D acc ∧ acc.length ≤ i ∧
          dcL as own cb ck cv F (ds.drop i) acc sk = some (ys, s2), ⟨ds.length, rfl, g1.lock D, s1, [], (r1.wiped hm).fresh hD k0 (by rw [upd_same]; simp), ?_, .inr rfl, nSC, ⟨_, _, upd_same, .dK (ks := []), .nil⟩, Nat.zero_le _, by simpa using e2⟩, ?_⟩
        · have e := Evo.same (g := g1) k0
          exact ⟨fun b h => (G.lock_N.mp h).elim .inl fun z => .inr (by rw [z]; exact hD), fun b h => .inl h, fun _ h => h, fun _ h => h, fun _ h => .inl h, e.keep, e.tup, e.frz, e.grow, fun _ h => .inl h⟩
        · rintro i m Hk ⟨him, gk, sk, acc, rk, vk, hN0, hS, hDk, hla, ek⟩
          obtain ⟨w1, w2⟩ := W gk Hk vk rk.wn rk.ex
          have nW : ¬ gk.W D := by
            rintro (⟨j, z⟩ | z)
            · exact rk.sep j D z hN0
            · exact hS z
          cases m with
          | zero =>
            have hi : i = ds.length := by omega
            subst hi
            rw [List.drop_length] at ek
            cases ek
            refine .inl ⟨w2, ?_⟩
            have rf := Rel.unwiped hm r1 vk rk
            obtain ⟨g3, r3, v3, n3, sa3, ca3, k3⟩ := L gk _ Hk rf vk
            have n03 : g3.N0 D := k3 D hD hN0
            have hS3 : ¬ (g3.SA D ∨ g3.CA D) := fun z => hS (by rw [sa3, ca3] at z; exact z)
            have hDH : H D = none := none_back v1.grow hD
            have ra3 : DAt X.kk g3.N Hk D ys := (hDk.top.forbid fun a h => .inl (n3 a h)).dat
            refine q (.ref D) (g3.open D) Hk (r3.opened (fun z => hS3 (.inl z)) fun z => hS3 (.inr z)) (v3.opened r.ex hDH) ((ra3.top.forbid fun a h => .inl (G.open_N h)).dat.rp ?_) fun _ d ed hd => ?_
            · rintro (z | ⟨j, z⟩)
              · exact z.2 rfl
              · exact r3.sep j D z n03
            · cases ed
              exact ⟨D, g3, rfl, hDH, r3, v3, n03, fun z => hS3 (.inl z), fun z => hS3 (.inr z), ra3.top⟩
          | succ m =>
            have hi : i < ds.length := by omega
            obtain ⟨go, yl⟩ := w1 i _ (List.getElem?_eq_getElem hi)
            rw [List.drop_eq_getElem_cons hi] at ek
            have sub : ∀ (us ws : List Nat) (τ : L2.St), (∀ u ∈ us, u ∈ ws) → wipe (wipe τ us) ws = wipe τ ws := by
              intro us
              induction us with
              | nil => intro ws τ _; rfl
              | cons u us ih =>
                intro ws τ h
                show wipe ((wipe τ us).set u none) ws = _
                rw [wipe_set _ _ _ _ (h u List.mem_cons_self)]
                exact ih ws τ fun z hz => h z (List.mem_cons_of_mem _ hz)
            have hw : ∀ σ2, Only' ts (wipe σ own) σ2 → wipe σ2 own = wipe σ own := fun σ2 o2 => by
              rw [o2 own hts]
              exact sub own own σ fun _ h => h
            unfold dcL at ek
            split at ek
            · rename_i sa ea
              split at ek
              · rename_i sb eb
                split at ek
                · rename_i k sc ec
                  split at ek
                  · rename_i d sd ed
                    split at ek
                    · rename_i hz
                      rw [Bool.and_eq_true, decide_eq_true_eq] at hz
                      refine .inr ⟨go, fun H' => ∃ g4, Rel X.kk M g4 (wipeS own sd) (wipe σ own) H' ∧ Evo g1 g4 H1 H' ∧ g4.N0 D ∧ ¬ (g4.SA D ∨ g4.CA D) ∧ DAt X.kk g4.N H' D (dPut acc k d), fun H' z => ?_, fun x H3 yx => ?_⟩
                      · obtain ⟨g4, r4, v4, n4, s4', d4⟩ := z
                        exact ⟨m, Nat.lt_succ_self m, by omega, g4, sd, dPut acc k d, r4, v4, n4, s4', d4, Nat.le_trans dPut_len (by omega), ek⟩
                      · obtain ⟨kk, rp⟩ := yl x H3 yx
                        refine ⟨gk, _, ds[i], sa, rk.same kk, rp, ea, fun σ2 g2 H2 r2 v2 o2 => ⟨hw σ2 o2, g2, sa, true, sb, r2, eb, fun g3 H4 r3 v3 => ?_⟩⟩
                        refine iteT ⟨g3, sb, .d k, sc, r3, ec, fun kv g4 H5 r4 v4 rpk _ => ⟨g4, sc, .d d, sd, r4, ed, fun v g5 H6 r5 v5 rpv _ => ?_⟩⟩
                        have vv : Evo gk g5 Hk H6 := ((((Evo.same kk).trans v2).trans v3).trans v4).trans v5
                        have n5 : g5.N0 D := vv.n0 D hN0
                        have s5 : ¬ (g5.SA D ∨ g5.CA D) := fun z => (vv.sr D z).elim hS fun z => hDk.top.nn z
                        have d5 : DAt X.kk g5.N H6 D acc := (vv.top rk.wn nW hDk.top).dat
                        obtain ⟨o, eo, ho⟩ := d5.top.plain
                        refine ⟨g5.N, acc, k, d, .inl n5, d5, hz.1, v5.rp r4.wn rpk, rpv, hz.2, fun o' d6 => ?_⟩
                        have rs := (r5.scratch (o' := o') n5 (fun z => s5 (.inl z)) (fun z => s5 (.inr z)) eo ho).wiped hm
                        rw [hw σ2 o2] at rs
                        exact ⟨g5, rs, (vk.trans vv).scratch hD eo ho, n5, s5, d6⟩
                    · cases ek
                  · cases ek
                · cases ek
              · rename_i sb eb
                refine .inr ⟨go, fun H' => ∃ g4, Rel X.kk M g4 (wipeS own sb) (wipe σ own) H' ∧ Evo gk g4 Hk H', fun H' z => ?_, fun x H3 yx => ?_⟩
                · obtain ⟨g4, r4, v4⟩ := z
                  exact ⟨m, Nat.lt_succ_self m, by omega, g4, sb, acc, r4, vk.trans v4, v4.n0 D hN0, fun z => (v4.sr D z).elim hS fun z => hDk.top.nn z, (v4.top rk.wn nW hDk.top).dat, by omega, ek⟩
                · obtain ⟨kk, rp⟩ := yl x H3 yx
                  refine ⟨gk, _, ds[i], sa, rk.same kk, rp, ea, fun σ2 g2 H2 r2 v2 o2 => ?_⟩
                  refine ⟨hw σ2 o2, g2, sa, false, sb, r2, eb, fun g3 H4 r3 v3 => iteF ⟨g3, ?_, ((Evo.same kk).trans v2).trans v3⟩⟩
                  have rs := r3.wiped hm
                  rw [hw σ2 o2] at rs
                  exact rs
              · cases ek
            · cases ek
      · cases ev
    · cases ev
  · cases ev
theorem sx_dc {kx vx tg iter : Expr} {ifs : List Expr} {scope : Scope} {own : List (Str × Nat)} {pos : Pos} {ic : IC} {ts : List Nat} {as : PyData → S → Option S} {cb : CB} {ck cv : CE} {fk fv : Bool} (hc : X.calm = true) (hu : X.A.units + 20 < cLine) (hN : X.N.Nodup) (hi : PI X tg iter (TIX X.kk F M ic)) (ok : BlkOk X.N X.env.scope scope own) (hm : ∀ i ∈ own.map (·.2), M i = false) (hts : ∀ t ∈ ts, t ∈ own.map (·.2))
    (hg : ∀ (s : Shared) (H : Hp) (C : Addr) (cl : List (Str × Addr)) (fp : List Addr), PG (X.blk s H scope (compEnvC scope cl C X.env) fp) tg (TGX X.kk M ts as)) (ht : ∀ (s : Shared) (H : Hp) (C : Addr) (cl : List (Str × Addr)) (fp : List Addr), PTs (X.blk s H scope (compEnvC scope cl C X.env) fp) ifs (TB X.kk F M cb))
    (hk : ∀ (s : Shared) (H : Hp) (C : Addr) (cl : List (Str × Addr)) (fp : List Addr), PE (X.blk s H scope (compEnvC scope cl C X.env) fp) kx (TX X.kk F M fk ck)) (he : ∀ (s : Shared) (H : Hp) (C : Addr) (cl : List (Str × Addr)) (fp : List Addr), PE (X.blk s H scope (compEnvC scope cl C X.env) fp) vx (TX X.kk F M fv cv))
    (hs : ∀ x, foldedSetIterable iter X.env x = pure x := by intro _; rfl) :
    PE X (.DictComp kx vx [⟨tg, iter, ifs, 0⟩] scope pos) (TX X.kk F M true (cDc (own.map (·.2)) as ic cb ck cv)) :=
  peI (pe_dcg hc hN hi ok hg ht hu hk he hs) fun _ _ _ h => tx_dc hm hts h
end
end Ev
/-! Ev23: walks over lists, tuples, dicts alike; displays with stars; more methods. -/
namespace Ev
open PySem PySem.Spec L2

section
variable {X : Cx} {M : Nat → Bool} {F : Fn} {tg a b c e : Expr} {es : List Expr} {pos p tpos apos cpos : Pos}
/-! ### for x in e -/
def itemsAny : PyData → Option (List PyData)
  | .list ds => some ds
  | .tuple ds => some ds
  | .dict kvs => some (kvs.map (·.1))
  | _ => none
def icAny (o : Opd) : IC := fun F s => match o.ev F s with
  | some (d, s', l) => match itemsAny d with
    | some ds => some (ds, s', l)
    | none => none
  | none => none
def iAny (K : KK) (te : TE) : TI := fun σ H R => te σ H fun x H1 => (∃ a xs, x = .ref a ∧ SqL K.k H1 a xs ∧ R (Itl K.k a) H1) ∨ (∃ a xs, x = .ref a ∧ SqT K.k H1 a xs ∧ R (Itt K.k a) H1) ∨
  ∃ a kvs N, x = .ref a ∧ DAt K N H1 a kvs ∧ ∀ o es ep ents, H1 a = some o → PinD a o es ep ents → Paired (E2 K N H1) ents kvs → R (ItK a o ents) H1
theorem pi_any {te : TE} (he : PE X e te) : PI X tg e (iAny X.kk te) := by
  refine ⟨fun pins s σ H R I h => thn (he.run pins s σ H _ I h) fun v s1 ⟨x, H1, I1, r1, q1⟩ => ?_⟩
  have mine : ∀ b, b ∈ [s1.heap.objs.size] → FpOk X pins H1 b := fun b hb => by
    have e : b = s1.heap.objs.size := by simpa using hb
    subst e
    exact I1.fpOk (Nat.le_refl _) (I1.hok.fresh (Nat.le_refl _))
  rcases q1 with ⟨a, xs, e, hq, q⟩ | ⟨a, xs, e, hq, q⟩ | ⟨a, kvs, N, e, hq, q⟩
  · subst e
    cases r1
    obtain ⟨its, rv, p, hz⟩ := I1.list hq
    exact wpAny_pyIter_list p.isList ⟨_, _, _, _, H1, rfl, I1.kept (t' := s1.toks) fun b o e => Heap.get?_push_of_some _ e, turn_list a _, ⟨_, Heap.get?_push_size _ rfl, rfl, rfl⟩, mine, q⟩
  · subst e
    cases r1
    obtain ⟨its, rv, p, hz⟩ := I1.tuple hq
    exact wpAny_pyIter_tuple (show s1.heap.IsTuple a its.toArray from p) ⟨_, _, _, _, H1, rfl, I1.kept (t' := s1.toks) fun b o e => Heap.get?_push_of_some _ e, turn_tuple a _, ⟨_, Heap.get?_push_size _ rfl, rfl, rfl⟩, mine, q⟩
  · subst e
    cases r1
    obtain ⟨o, es, ep, ents, eo, _, P, r2, hl⟩ := hq.pin I1
    exact wpAny_pyIter_dict_raw P.sys (P.at' _ _ _ _ _ I1 eo) ⟨_, _, _, _, H1, rfl, I1.kept (t' := s1.toks) fun b o e => Heap.get?_push_of_some _ e, turn_K P, ⟨_, Heap.get?_push_size _ rfl, rfl, rfl⟩, mine, q o es ep ents eo P r2⟩
theorem RpT.dct {K : KK} {g : G} {H : Hp} {v : V} {kvs : List (PyData × PyData)} (wn : ∀ b, g.W b → g.N b) (h : RpT K g H v (.dict kvs)) : ∃ a, v = .ref a ∧ DAt K g.N H a kvs ∧ ¬ g.W a := by
  rcases h with h | ⟨a, rfl, t, nw⟩
  · generalize hd : PyData.dict kvs = d at h
    cases h with
    | dct e d hn r1 r2 => cases hd; exact ⟨_, rfl, dat_of e d r1 r2, fun z => hn (wn _ z)⟩
    | _ => cases hd
  · exact ⟨a, rfl, t.dat, nw⟩
theorem walk_dct {K : KK} {g : G} {H : Hp} {a : Addr} {o : HO} {ents : List (V × V)} {kvs : List (PyData × PyData)} (wn : ∀ b, g.W b → g.N b) (nw : ¬ g.W a) (e : H a = some o) (r : Paired (E2 K g.N H) ents kvs) : Walk K g H (ItK a o ents) (kvs.map (·.1)) := fun g2 H2 v _ _ => by
  have e2 : H2 a = some o := v.keep a o e nw
  have ra := v.rpA wn (paired_fst r)
  have hl : ents.length = kvs.length := r.length
  refine ⟨fun i d ed => ?_, ⟨e2, by rw [List.length_map]; omega⟩⟩
  obtain ⟨x, ex, rx⟩ := ra.get ed
  have hi : i < ents.length := by
    have := (List.getElem?_eq_some_iff.mp ed).1
    rw [List.length_map] at this
    omega
  refine ⟨⟨e2, hi⟩, fun y H3 ⟨e3, p, ep, ey⟩ => ?_⟩
  subst e3 ey
  rw [List.getElem?_map, ep] at ex
  cases ex
  exact ⟨fun _ _ h => h, rx⟩
theorem it_any {o : Opd} (he : PE X e (TP X.kk F M o)) : PI X tg e (TIX X.kk F M (icAny o)) := piI (pi_any he) fun σ H R ⟨g, s, ds, s', l, r, ev, q⟩ => by
  unfold icAny at ev
  split at ev
  · rename_i d s1 l1 e1
    split at ev
    · rename_i ds1 e2
      cases ev
      refine ⟨g, s, d, s', l, r, e1, fun v g1 H1 r1 v1 rp L => ?_⟩
      cases d with
      | list ds' =>
        cases e2
        obtain ⟨a, xs, rfl, hr, ra, nw⟩ := rp.seqL r1.wn
        exact .inl ⟨a, xs, rfl, hr, q _ g1 H1 r1 v1 L (walk_list r1.wn nw ra)⟩
      | tuple ds' =>
        cases e2
        obtain ⟨a, xs, rfl, hr, ra⟩ := rp.seqT
        exact .inr (.inl ⟨a, xs, rfl, hr, q _ g1 H1 r1 v1 L (walk_tup r1.wn hr ra)⟩)
      | dict kvs =>
        cases e2
        obtain ⟨a, rfl, hd, nw⟩ := rp.dct r1.wn
        exact .inr (.inr ⟨a, kvs, g1.N, rfl, hd, fun o es ep ents eo P r2 => q _ g1 H1 r1 v1 L (walk_dct r1.wn nw eo r2)⟩)
      | _ => cases e2
    · cases ev
  · cases ev

/-! ### displays with stars -/
def evStar : List (Bool × Opd) → Fn → S → Option (List PyData × S)
  | [], _, s => some ([], s)
  | (b, o) :: os, F, s => match o.ev F s with
    | some (d, s1, l) => if b then match itemsOf d with
        | some ds => match evStar os F (back l s1) with
          | some (es, s2) => some (ds ++ es, s2)
          | none => none
        | none => none
      else match evStar os F (back l s1) with
        | some (es, s2) => some (d :: es, s2)
        | none => none
    | none => none
def TXS (K : KK) (F : Fn) (M : Nat → Bool) (os : List (Bool × Opd)) : TA := fun σ H Q => ∃ g s ds s', Rel K M g s σ H ∧ evStar os F s = some (ds, s') ∧
  ∀ vs g' H', Rel K M g' s' σ H' → Evo g g' H H' → RpA K g'.N H' vs ds → Q vs H'
theorem st_nil : PA X [] (TXS X.kk F M []) := paI pa_nil fun σ H Q ⟨g, s, ds, s', r, e, q⟩ => by
  cases e
  exact q [] g H r Evo.refl .nil
/-- a plain element: no slot that is lent -/
theorem st_one {ce : CE} {fr : Bool} {os : List (Bool × Opd)} (ha : PE X e (TX X.kk F M fr ce)) (hr : PA X es (TXS X.kk F M os)) (hs : starEach (e :: es) X.env = (false, eval e X.env) :: starEach es X.env := by rfl) : PA X (e :: es) (TXS X.kk F M ((false, .e ce) :: os)) :=
  paI (pa_cons ha hr hs) fun σ H Q ⟨g, s, ds, s', r, ev, q⟩ => by
    unfold evStar at ev
    split at ev
    · rename_i d s1 l e1
      rw [if_neg (by simp)] at ev
      unfold Opd.ev at e1
      simp only at e1
      split at e1
      · rename_i d' s2 e2
        cases e1
        split at ev
        · rename_i es' s3 e3
          cases ev
          refine ⟨g, s, .d d, s1, r, e2, fun v g1 H1 r1 v1 rp1 _ => ⟨g1, s1, es', s', r1, e3, fun vs g2 H2 r2 v2 ra => ?_⟩⟩
          exact q (v :: vs) g2 H2 r2 (v1.trans v2) (.cons (v2.rp r1.wn rp1) ra)
        · cases ev
      · cases e1
    · cases ev
theorem st_star {o : Opd} {os : List (Bool × Opd)} (ha : PE X e (TP X.kk F M o)) (hr : PA X es (TXS X.kk F M os)) (hs : starEach (.Starred e p :: es) X.env = (true, eval e X.env) :: starEach es X.env := by rfl) : PA X (.Starred e p :: es) (TXS X.kk F M ((true, o) :: os)) :=
  paI (StX.pa_star ha hr hs) fun σ H Q ⟨g, s, ds, s', r, ev, q⟩ => by
    unfold evStar at ev
    split at ev
    · rename_i d s1 l e1
      rw [if_pos rfl] at ev
      split at ev
      · rename_i ds1 e2
        split at ev
        · rename_i es' s3 e3
          cases ev
          refine ⟨g, s, d, s1, l, r, e1, fun v g1 H1 r1 v1 rp L => ?_⟩
          obtain ⟨g3, r3, v3, n3, _⟩ := L g1 s1 H1 r1 Evo.refl
          rcases itemsOf_cases e2 with rfl | rfl
          · obtain ⟨a, xs, rfl, hr, ra, nw⟩ := rp.seqL r1.wn
            have ra3 : RpA X.kk g3.N H1 xs ds1 := ra.forbid fun b h => .inl (n3 b h)
            exact ⟨a, xs, rfl, .inr hr, g3, _, es', s', r3, e3, fun vs g2 H2 r2 v2 rb => q _ g2 H2 r2 (v3.trans v2) ((v2.rpA r3.wn ra3).append rb)⟩
          · obtain ⟨a, xs, rfl, hr, ra⟩ := rp.seqT
            have ra3 : RpA X.kk g3.N H1 xs ds1 := ra.forbid fun b h => .inl (n3 b h)
            exact ⟨a, xs, rfl, .inl hr, g3, _, es', s', r3, e3, fun vs g2 H2 r2 v2 rb => q _ g2 H2 r2 (v3.trans v2) ((v2.rpA r3.wn ra3).append rb)⟩
        · cases ev
      · cases ev
    · cases ev
def cStar (t : Bool) (os : List (Bool × Opd)) : CE := fun F s => match evStar os F s with
  | some (ds, s1) => if ds.length ≤ sizeLine then some (.d (if t then .tuple ds else .list ds), s1) else none
  | none => none
theorem sx_tupS {os : List (Bool × Opd)} {k : Nat} (h : PA X es (TXS X.kk F M os)) : PE X (.Tuple es k pos) (TX X.kk F M true (cStar true os)) := peI (pe_tup h) fun σ H Q ⟨g, s, x, s', r, e, q⟩ => by
  unfold cStar at e
  split at e
  · rename_i ds s1 e1
    split at e
    · rename_i hl
      cases e
      refine ⟨g, s, ds, _, r, e1, fun vs g1 H1 r1 v1 ra => ?_⟩
      exact ⟨by rw [ra.length]; exact hl, fun p hp => vr_tup ra (fin_op r1 (Lent.nil v1) v1 q) hp⟩
    · cases e
  · cases e
theorem sx_lstS {os : List (Bool × Opd)} (h : PA X es (TXS X.kk F M os)) : PE X (.List es pos) (TX X.kk F M true (cStar false os)) := peI (pe_lst h) fun σ H Q ⟨g, s, x, s', r, e, q⟩ => by
  unfold cStar at e
  split at e
  · rename_i ds s1 e1
    split at e
    · rename_i hl
      cases e
      refine ⟨g, s, ds, _, r, e1, fun vs g1 H1 r1 v1 ra => ?_⟩
      exact ⟨by rw [ra.length]; exact hl, fun p hp => vr_lst r1.ex ra (fin_op r1 (Lent.nil v1) v1 q) hp⟩
    · cases e
  · cases e
end
end Ev
/-! Ev24: the law's own call. -/
namespace Ev
open PySem PySem.Spec PyProof.Rows L2
theorem lawG_call {P : Program} {w : World} {K : PySem.W.Frag} {mg mb : Str → Option Value} {k : Nat} {fa a : Addr} {fd : FuncData} {x : Str} {sp : List V → Hp → VK → Prop} {s₁ : Shared} {vs : List Value} {ns : List Int}
    (KX : K.In s₁.heap) (hns : s₁.heap.Ns mainGlobals mg) (hb : s₁.heap.Ns builtinsNs mb) (hbb : ∀ x : Str, x ≠ "__name__" → mb x = bootBuiltins x) (hlim : s₁.heap.NoLimit) (hg : s₁.gens = #[])
    (ha : s₁.heap.get? a = some { cls := .type "list", data := .seq vs.toArray }) (hi : IntsAre vs ns) (hl : ns.length ≤ sizeLine) (hr : Room k callerA)
    (F : ∀ base : Heap, K.In base → base.Ns mainGlobals mg → FnG P w K mg base k fa fd [x] sp) (hbind : ∀ (s : Shared) (u : Value), BindsTo s fd ⟨[u], []⟩ [(x, u)])
    (hsp : ∀ H : Hp, Only H → SqL K H a (ns.map V.int) → sp [.ref a] H (fun v _ => v = .bl true)) :
    codeAny (model P w) callerA (.call (.ref fa) ⟨[.ref a], []⟩) (fun r s' => r = .ok (.ret (.bool true)) ∧ OldK s₁.heap s'.heap ∧ s'.os = s₁.os ∧ AllBare s'.gens) s₁ := by
  have rvv := vals_ints hi
  have lenVV := hi.length
  -- from an abstract heap in which nothing but the script may be tracked
  have main0 : ∀ H : Hp, Only H → SqL K H a (ns.map V.int) → HOk P w H s₁.heap → (∀ b, H b ≠ none → b = a) → (H a ≠ none → K.lookup a = none) →
      codeAny (model P w) callerA (.call (.ref fa) ⟨[.ref a], []⟩) (fun r s' => r = .ok (.ret (.bool true)) ∧ OldK s₁.heap s'.heap ∧ s'.os = s₁.os ∧ AllBare s'.gens) s₁ := by
    intro H hOO hSS hokP hAA hKK
    have baseOf : ∀ {b : Addr} {o : Obj}, s₁.heap.get? b = some o → H b = none → (hidT s₁.heap H).get? b = some o := fun e n => hidT_get e n
    have nOA : ∀ {b : Addr} {o : Obj} {es : Array DictEntry} {ep : Nat}, s₁.heap.get? b = some o → o.data = .dict es ep → H b = none := fun {b o es ep} e d => by
      cases q : H b with
      | none => rfl
      | some u =>
        have eq0 : b = a := hAA b (by rw [q]; simp)
        subst eq0
        rw [ha] at e; cases e
        have dq : Data.seq vs.toArray _ = Data.dict es ep := d
        cases dq
    have nSK : ∀ {b : Addr} {m : Str → Option Value}, s₁.heap.Ns b m → (hidT s₁.heap H).Ns b m := fun {b m} ⟨o, es, ep, e, d, r⟩ => ⟨o, es, ep, baseOf e (nOA e d), d, r⟩
    have hKB : K.In (hidT s₁.heap H) := fun b o e => baseOf (KX b o e) (by
      cases q : H b with
      | none => rfl
      | some u =>
        have eq0 : b = a := hAA b (by rw [q]; simp)
        subst eq0
        rw [hKK (by rw [q]; simp)] at e; cases e)
    have hMM : Mod K mg (hidT s₁.heap H) := ⟨hKB, nSK hns, ⟨mb, nSK hb, hbb⟩, let ⟨mc, h1, h2⟩ := hlim; ⟨mc, nSK h1, h2⟩⟩
    have ee0 : Env0 P w K mg (hidT s₁.heap H) callerA [] s₁ H := ⟨rfl, hMM, fun b o e => of_hidT e, Nat.le_of_eq (hidT_size _ _), trivial, fun b hb => absurd (show b ∈ ([] : List Addr) from hb) (by simp), hokP, .of_eq hg⟩
    refine codeAny_mono ((F _ hKB (nSK hns)).run callerA [] s₁ H ⟨[.ref a], []⟩ [.ref a] [.ref a] _ hr rfl ee0 (hbind s₁ (.ref a)) (.cons rfl .nil) (hsp H hOO hSS)) fun r s' h => ?_
    cases r with
    | error e => exact h.elim
    | ok fl =>
      cases fl with
      | next => exact False.elim h
      | brk => exact False.elim h
      | cont => exact False.elim h
      | ret u =>
        obtain ⟨v, H', osQ, bareQ, unQ, hokQ, rr0, q⟩ := h
        have qq : v = .bl true := q
        subst qq
        obtain rfl : u = Value.bool true := rr0
        refine ⟨rfl, OldK.of_keep fun b o e => ?_, osQ, bareQ⟩
        cases q : H b with
        | none => exact unQ.keep b o e q (by intro z; exact absurd (show b ∈ ([] : List Addr) from z) (by simp)) (by simp)
        | some u =>
          rcases hOO b with z | ⟨ob, xs, z⟩
          · rw [q] at z; cases z
          · have zz2 := unQ.frzs b ob _ z
            obtain ⟨ee1, _⟩ := hokP b _ z
            obtain ⟨ee2, _⟩ := hokQ b _ zz2
            rw [e] at ee1; cases ee1
            exact ee2
  cases hk : K.lookup a with
  | some o =>
    -- the script is one of the module's own objects
    have e := KX a o hk
    rw [ha] at e
    cases e
    refine main0 (fun _ => none) (fun _ => .inl rfl) (.inr ⟨_, vs.toArray, _, hk, rfl, rfl, rfl, by rw [List.size_toArray, lenVV]; exact hl, by simpa using rvv⟩) (fun b u z => by have zq : (none : Option HO) = some u := z; cases zq) (fun b z => absurd rfl z) fun z => absurd rfl z
  | none =>
    refine main0 (fun b => if b = a then some (.frz { cls := .type "list", data := .seq vs.toArray } (.lst (ns.map V.int))) else none) (fun b => ?_) (.inl (.inr ⟨{ cls := .type "list", data := .seq vs.toArray }, if_pos rfl⟩)) (fun b u z => ?_) (fun b z => ?_) fun _ => hk
    · by_cases hb : b = a
      · exact .inr ⟨_, _, if_pos hb⟩
      · exact .inl (if_neg hb)
    · by_cases hb : b = a
      · have zq := (if_pos hb).symm.trans z
        cases zq
        subst hb
        exact ⟨ha, by rw [List.length_map]; exact hl, vs, _, rvv, ha⟩
      · have zq := (if_neg hb).symm.trans z
        cases zq
    · by_cases hb : b = a
      · exact hb
      · exact absurd (if_neg hb) z
theorem ints_rp {K : KK} {N : Addr → Prop} {H : Hp} : ∀ ns : List Int, RpA K N H (ns.map V.int) (ns.map PyData.int)
  | [] => .nil
  | n :: ns => .cons (.int n) (ints_rp ns)
theorem script_rp {K : KK} {H : Hp} {a : Addr} {ns : List Int} (hO : Only H) (h : SqL K.k H a (ns.map V.int)) (hk : ∀ o, K.k.lookup a = some o → o.slots = #[]) : Rp K (fun _ => False) H (.ref a) (.list (ns.map PyData.int)) := by
  rcases h with h | ⟨o, its, n, h1, h2, h3, h4, h5, h6⟩
  · exact .lst h (fun z => z) (ints_rp ns)
  · obtain ⟨cls, dct, dt, sl⟩ := o
    have := hk _ h1
    simp only at h2 h3 h4 this
    subst h2 h3 h4 this
    exact .lstK h1 h5 h6 (ints_rp ns)
theorem walk_G {l : PySem.W.OpenLaw} {n k : Nat} {q : Program} {loose : List Str} {XP : (Str → Option Value) → Heap → Prop} {YP : World → Heap → Prop} {d : DefRec} {K : Params → PySem.W.Frag} {x : Str} {F : Fn}
    (hn : l.most = some n) (hn2 : n ≤ sizeLine) (hdf : d.params.defaults = []) (hr : Room k callerA)
    (hY : ∀ (w : World) (h : Heap), YP w h → (K w.params).In h)
    (hF : ∀ (w : World) (mg : Str → Option Value) (fa : Addr) (h : Heap), (K w.params).In h → h.Ns mainGlobals mg → mg d.name = some (.ref fa) →
      ∃ fd : FuncData, (∀ (s : Shared) (u : Value), BindsTo s fd ⟨[u], []⟩ [(x, u)]) ∧
        ∀ base : Heap, (K w.params).In base → base.Ns mainGlobals mg → FnG l.prog w (K w.params) mg base k fa fd [x] (SpF ⟨K w.params, w, l.prog⟩ F "law" 1))
    (hm : ∀ ns : List Int, ns.length ≤ n → ∃ src', F.call "law" [.d (.list (ns.map PyData.int))] none = some (.d (.bool true), src')) :
    PySem.W.WalkO q loose XP YP l.row.toRowW d [] (fun f vs => PySem.call f vs) := by
  refine Att.attach_call hn hdf fun w s₀ s₁ mg mb fa o pm cd doc a vs ns G Y ho hd hcd hmg hobj hints hlen hg => ?_
  have KX := hY w _ Y
  obtain ⟨fd, hb, hFF⟩ := hF w mg fa _ KX G.T.g hmg
  refine lawG_call KX G.T.g G.T.b G.T.builtins G.T.nolimit hg hobj hints (Nat.le_trans hlen hn2) hr hFF hb fun H hO hS => ?_
  obtain ⟨src', e⟩ := hm ns hlen
  have rs : Rp (⟨K w.params, w, l.prog⟩ : KK) (g0 (fun _ => False) (fun _ => False) (fun _ => False)).N H (.ref a) (.list (ns.map PyData.int)) := by
    refine Rp.forbid (fun b h => (g0_N.mp h).elim) (script_rp (K := ⟨K w.params, w, l.prog⟩) hO hS fun o e => ?_)
    have := KX _ _ e
    rw [hobj] at this
    cases this
    rfl
  exact ⟨rfl, fun _ => False, fun _ => False, fun _ => False, [.d (.list (ns.map PyData.int))], none, _, src', fun _ h => h.elim, fun _ h => h.elim id id, ⟨fun _ h => h, fun _ h => h⟩, .cons rs .nil, e, fun v gc H' _ _ _ rv => by cases rv; rfl⟩
end Ev
/-! Ev25: a slot read and given free. -/
namespace Ev
open PySem PySem.Spec L2
theorem nm {b fr : Bool} (h : b = false) : b = true → fr = true := fun z => by rw [h] at z; cases z
def cSh (i : Nat) : CE := fun F s => match (Opd.sh i).ev F s with
  | some (d, s', _) => some (.d d, s')
  | none => none
section
variable {X : Cx} {M : Nat → Bool} {F : Fn} {pos : Pos} {elt tg iter : Expr} {ifs : List Expr} {scope : Scope} {own : List (Str × Nat)} {i : Nat}
theorem sx_sh {x : Str} (hN : X.N[i]? = some x) (hv : Vis X.env.scope x) (hd : (x == ("__debug__" : Str)) = false := by decide) (hcd : (x == ("__classdict__" : Str)) = false := by decide) : PE X (.Name x pos) (TX X.kk F M false (cSh i)) :=
  peI (pe_var hN hv hd hcd) fun σ H Q ⟨g, s, y, s', r, ev, q⟩ => by
    unfold cSh Opd.ev at ev
    simp only at ev
    split at ev
    · rename_i d s1 l e1
      cases ev
      split at e1
      · rename_i d' e2
        cases e1
        obtain ⟨v, ev, hs⟩ := r.slot i _ e2
        by_cases hm : M i = true ∧ isM d = true
        · obtain ⟨a, rfl, p, t, nN⟩ := r.taken e2 ev hm
          exact ⟨_, ev, q _ (g.drop i) H (r.free ev (t.rp nN)) Evo.drop (t.rp nN) fun z => nomatch z⟩
        · have rp : Rp X.kk (g.drop i).N H v d := (hs.2 hm).forbid fun b h => .inl (G.drop_N h)
          exact ⟨_, ev, q _ (g.drop i) H (r.free ev rp) Evo.drop rp fun z => nomatch z⟩
      · rename_i d' e2
        cases e1
        obtain ⟨v, ev, hs⟩ := r.slot i _ e2
        exact ⟨_, ev, q v g H r Evo.refl hs fun z => nomatch z⟩
      · cases e1
    · cases ev
theorem glI {x : Str} (h : X.env.kindOf x = some .globalImplicit) : Gl X x := h
theorem visL {sc : Scope} {x : Str} (h : sc.names.lookup x = some .local) : Vis sc x := .inl h
theorem visC {sc : Scope} {x : Str} (h : sc.names.lookup x = some .cell) : Vis sc x := .inr (.inl h)
theorem visF {sc : Scope} {x : Str} (h : sc.names.lookup x = some .free) : Vis sc x := .inr (.inr h)
theorem locL {sc : Scope} {x : Str} (h : sc.names.lookup x = some .local) : Loc sc x := .inl h
theorem locC {sc : Scope} {x : Str} (h : sc.names.lookup x = some .cell) : Loc sc x := .inr h
theorem sx_lcV {vs : List Nat} {ic : IC} {ts : List Nat} {as : PyData → S → Option S} {cb : CB} {ce : CE} {fr : Bool} (hv : own.map (·.2) = vs) (hc : X.calm = true) (hN : X.N.Nodup) (hi : PI X tg iter (TIX X.kk F M ic)) (ok : BlkOk X.N X.env.scope scope own) (hm : ∀ i ∈ vs, M i = false) (hts : ∀ t ∈ ts, t ∈ vs)
    (hg : ∀ (s : Shared) (H : Hp) (C : Addr) (cl : List (Str × Addr)) (fp : List Addr), PG (X.blk s H scope (compEnvC scope cl C X.env) fp) tg (TGX X.kk M ts as)) (ht : ∀ (s : Shared) (H : Hp) (C : Addr) (cl : List (Str × Addr)) (fp : List Addr), PTs (X.blk s H scope (compEnvC scope cl C X.env) fp) ifs (TB X.kk F M cb))
    (he : ∀ (s : Shared) (H : Hp) (C : Addr) (cl : List (Str × Addr)) (fp : List Addr), PE (X.blk s H scope (compEnvC scope cl C X.env) fp) elt (TX X.kk F M fr ce)) (hs : ∀ x, foldedSetIterable iter X.env x = pure x := by intro _; rfl) :
    PE X (.ListComp elt [⟨tg, iter, ifs, 0⟩] scope pos) (TX X.kk F M true (cLc vs as ic cb ce)) := by
  subst hv; exact sx_lc hc hN hi ok hm hts hg ht he hs
theorem ss_setLcV {vs : List Nat} {y : Str} {py spos : Pos} {elt tg iter : Expr} {ifs : List Expr} {scope : Scope} {own : List (Str × Nat)} {ic : IC} {ts : List Nat} {as : PyData → S → Option S} {cb : CB} {ce : CE} {fr : Bool} (hv : own.map (·.2) = vs) (hc : X.calm = true) (hN : X.N.Nodup) (hy : X.N[i]? = some y) (hyl : X.env.scope.names.lookup y = some .local)
    (hi : PI X tg iter (TIX X.kk F M ic)) (ok : BlkOk X.N X.env.scope scope own) (hm : ∀ i ∈ vs, M i = false) (hts : ∀ t ∈ ts, t ∈ vs)
    (hg : ∀ (s : Shared) (H : Hp) (C : Addr) (cl : List (Str × Addr)) (fp : List Addr), PG (X.blk s H scope (compEnvC scope cl C X.env) fp) tg (TGX X.kk M ts as)) (ht : ∀ (s : Shared) (H : Hp) (C : Addr) (cl : List (Str × Addr)) (fp : List Addr), PTs (X.blk s H scope (compEnvC scope cl C X.env) fp) ifs (TB X.kk F M cb))
    (he : ∀ (s : Shared) (H : Hp) (C : Addr) (cl : List (Str × Addr)) (fp : List Addr), PE (X.blk s H scope (compEnvC scope cl C X.env) fp) elt (TX X.kk F M fr ce)) (hsw : swapsWith (.ListComp elt [⟨tg, iter, ifs, 0⟩] scope pos) (some (.Name y py)) spos.line X.env = pure true) (hs : ∀ x, foldedSetIterable iter X.env x = pure x := by intro _; rfl) :
    PS X (.Assign [.Name y py] (.ListComp elt [⟨tg, iter, ifs, 0⟩] scope pos) spos) (TSt X.kk F M (sPar [i] [cLc vs as ic cb ce])) := by
  subst hv; exact ss_setLc hc hN hy hyl hi ok hm hts hg ht he hsw hs
theorem sx_dcV {vs : List Nat} {kx vx tg iter : Expr} {ifs : List Expr} {scope : Scope} {own : List (Str × Nat)} {pos : Pos} {ic : IC} {ts : List Nat} {as : PyData → S → Option S} {cb : CB} {ck cv : CE} {fk fv : Bool} (hv : own.map (·.2) = vs) (hc : X.calm = true) (hu : X.A.units + 20 < cLine) (hN : X.N.Nodup) (hi : PI X tg iter (TIX X.kk F M ic)) (ok : BlkOk X.N X.env.scope scope own) (hm : ∀ i ∈ vs, M i = false) (hts : ∀ t ∈ ts, t ∈ vs)
    (hg : ∀ (s : Shared) (H : Hp) (C : Addr) (cl : List (Str × Addr)) (fp : List Addr), PG (X.blk s H scope (compEnvC scope cl C X.env) fp) tg (TGX X.kk M ts as)) (ht : ∀ (s : Shared) (H : Hp) (C : Addr) (cl : List (Str × Addr)) (fp : List Addr), PTs (X.blk s H scope (compEnvC scope cl C X.env) fp) ifs (TB X.kk F M cb))
    (hk : ∀ (s : Shared) (H : Hp) (C : Addr) (cl : List (Str × Addr)) (fp : List Addr), PE (X.blk s H scope (compEnvC scope cl C X.env) fp) kx (TX X.kk F M fk ck)) (he : ∀ (s : Shared) (H : Hp) (C : Addr) (cl : List (Str × Addr)) (fp : List Addr), PE (X.blk s H scope (compEnvC scope cl C X.env) fp) vx (TX X.kk F M fv cv))
    (hs : ∀ x, foldedSetIterable iter X.env x = pure x := by intro _; rfl) :
    PE X (.DictComp kx vx [⟨tg, iter, ifs, 0⟩] scope pos) (TX X.kk F M true (cDc vs as ic cb ck cv)) := by
  subst hv; exact sx_dc hc hu hN hi ok hm hts hg ht hk he hs
theorem ps_setDc {i : Nat} {y : Str} {py : Pos} {kx vx tg iter : Expr} {ifs : List Expr} {scope : Scope} {own : List (Str × Nat)} {pos spos : Pos} {wi : TI} {g : TG} {tt : TT} {tk tv : TE} (hc : X.calm = true) (hN : X.N.Nodup) (hy : X.N[i]? = some y) (hyl : X.env.scope.names.lookup y = some .local)
    (hsw : swapsWith (.DictComp kx vx [⟨tg, iter, ifs, 0⟩] scope pos) (some (.Name y py)) spos.line X.env = pure true) (hi : PI X tg iter wi) (ok : BlkOk X.N X.env.scope scope own)
    (hg : ∀ (s : Shared) (H : Hp) (C : Addr) (cl : List (Str × Addr)) (fp : List Addr), PG (X.blk s H scope (compEnvC scope cl C X.env) fp) tg g) (ht : ∀ (s : Shared) (H : Hp) (C : Addr) (cl : List (Str × Addr)) (fp : List Addr), PTs (X.blk s H scope (compEnvC scope cl C X.env) fp) ifs tt)
    (hu : X.A.units + 20 < cLine) (hk : ∀ (s : Shared) (H : Hp) (C : Addr) (cl : List (Str × Addr)) (fp : List Addr), PE (X.blk s H scope (compEnvC scope cl C X.env) fp) kx tk)
    (he : ∀ (s : Shared) (H : Hp) (C : Addr) (cl : List (Str × Addr)) (fp : List Addr), PE (X.blk s H scope (compEnvC scope cl C X.env) fp) vx tv) (hs : ∀ x, foldedSetIterable iter X.env x = pure x := by intro _; rfl) :
    PS X (.Assign [.Name y py] (.DictComp kx vx [⟨tg, iter, ifs, 0⟩] scope pos) spos) (tAsg (tDcG X.kk wi g tt tk tv (own.map (·.2))) (gName i)) := by
  refine ⟨fun pins s σ H D I h => ?_⟩
  rw [exec_Assign_Name_used _ _ _ _ hsw]
  refine wpAny_bind (wpAny_standAt (wpAny_bind ?_))
  show wpAny _ X.A (do let _ ← comprehension (.DictComp kx vx [⟨tg, iter, ifs, 0⟩] scope pos) scope X.env (firstIterPos [⟨tg, iter, ifs, 0⟩] pos) newDict false (eval iter X.env) (some (assign (.Name y py) X.env))) _ _ s
  have h : tDcG X.kk wi g tt tk tv (own.map (·.2)) σ H (fun x H1 => gName i x σ H1 D.nx) := h
  refine wpAny_bind (thn (dcg_core (Qf := fun _ s' => SP X pins D .next s') hc hN I hi ok hg ht hu hk he hs h fun L C s' m H' I' q hn f => ?_) fun _ s' hq => wpAny_pure (wpAny_pure hq))
  show wpAny _ _ (assign (.Name y py) X.env (.ref L)) _ _ _
  refine wpAny_assign_Name (store_ok2 (v := V.ref L) I' hN hy (.inl hyl) rfl (fun sB IB ⟨a, sbB, haB⟩ => ?_) (.inr hyl))
  obtain ⟨f0, f1, f2, f3, f4, f5⟩ := f
  have hCa : C ≠ a := by
    rcases haB with z | z
    · rw [z]; exact f1
    · exact fun e => f4 y a z e.symm
  refine ⟨m, hn.sameBut sbB hCa, fun hB3 sB3 => ?_⟩
  exact ⟨_, H', IB.turned (t' := sB.toks) (fun b o hb e => (sB3.2 b hb).trans e) f0 f1 f3 f4 f5, q⟩
theorem swd_true {kx vx : Expr} {gs : List Comprehension} {scope : Scope} {pos py : Pos} {y : Str} {l : Nat} {env : Env} (hk : env.scope.kind = .function) (hy : env.scope.names.lookup y = some .local) (hl : (py.line == pos.line) = true)
    (ha : (scope.names.any fun (n, k) => n == y && (k == .local || k == .cell)) = false) : swapsWith (.DictComp kx vx gs scope pos) (some (.Name y py)) l env = pure true := by
  have kyD : env.kindOf y = some .local := hy
  have hbD : env.blockKind = .function := by unfold Env.blockKind; rw [hk]; rfl
  unfold swapsWith
  simp only [hbD, kyD, ha, Expr.pos, hl]
  rfl
theorem ss_setDcV {vs : List Nat} {y : Str} {py spos pos : Pos} {kx vx : Expr} {ic : IC} {ts : List Nat} {as : PyData → S → Option S} {cb : CB} {ck cv : CE} {fk fv : Bool} (hv : own.map (·.2) = vs) (hc : X.calm = true) (hu : X.A.units + 20 < cLine) (hN : X.N.Nodup) (hy : X.N[i]? = some y) (hyl : X.env.scope.names.lookup y = some .local)
    (hi : PI X tg iter (TIX X.kk F M ic)) (ok : BlkOk X.N X.env.scope scope own) (hm : ∀ i ∈ vs, M i = false) (hts : ∀ t ∈ ts, t ∈ vs)
    (hg : ∀ (s : Shared) (H : Hp) (C : Addr) (cl : List (Str × Addr)) (fp : List Addr), PG (X.blk s H scope (compEnvC scope cl C X.env) fp) tg (TGX X.kk M ts as)) (ht : ∀ (s : Shared) (H : Hp) (C : Addr) (cl : List (Str × Addr)) (fp : List Addr), PTs (X.blk s H scope (compEnvC scope cl C X.env) fp) ifs (TB X.kk F M cb))
    (hk : ∀ (s : Shared) (H : Hp) (C : Addr) (cl : List (Str × Addr)) (fp : List Addr), PE (X.blk s H scope (compEnvC scope cl C X.env) fp) kx (TX X.kk F M fk ck)) (he : ∀ (s : Shared) (H : Hp) (C : Addr) (cl : List (Str × Addr)) (fp : List Addr), PE (X.blk s H scope (compEnvC scope cl C X.env) fp) vx (TX X.kk F M fv cv))
    (hsw : swapsWith (.DictComp kx vx [⟨tg, iter, ifs, 0⟩] scope pos) (some (.Name y py)) spos.line X.env = pure true) (hs : ∀ x, foldedSetIterable iter X.env x = pure x := by intro _; rfl) :
    PS X (.Assign [.Name y py] (.DictComp kx vx [⟨tg, iter, ifs, 0⟩] scope pos) spos) (TSt X.kk F M (sPar [i] [cDc vs as ic cb ck cv])) := by
  subst hv
  exact psI (ps_setDc hc hN hy hyl hsw hi ok hg ht hu hk he hs) fun D σ H h => tx_dc hm hts (tx_set (fun _ => rfl) h)
end
end Ev
/-! Ev26: all defs of a text, level by level. -/
namespace Ev
open PySem PySem.Spec PyProof.Rows L2
/-- the def x of the text as the module's top has written it -/
def Fa (K : PySem.W.Frag) (mg : Str → Option Value) (x : Str) (st : Stmt) (ps : List Str) : Prop := ∃ f fd, Fun K x x st f fd ∧ mg x = some (.ref f) ∧ PySem.W.keepIn K (.ref f) = true ∧ Binds K fd ps []
section
variable {P : Program} {w : World} {K : PySem.W.Frag} {mg : Str → Option Value} {base : Heap} {x : Str} {st : Stmt} {N ps : List Str} {k fuel n : Nat} {T : String → Option FnDef} {nm : String} {d : FnDef} {M : Nat → Bool}
theorem Fa.zero (h : Fa K mg x st ps) (hn : ps.length = n) : Callee P w K mg base (fnAt T fuel 0) 0 nm x n := by
  obtain ⟨f, fd, D, h1, h2, h3⟩ := h
  refine ⟨f, fd, ps, ⟨fun vs H Q q => q.1.trans hn.symm, fun A outer s H args us vs Q _ _ _ _ _ q => ?_⟩, h1, h2, h3⟩
  obtain ⟨_, _, _, _, xs, src, y, src', _, _, _, _, e, _⟩ := q
  cases e
theorem Fa.succ (h : Fa K mg x st ps) (S : FnScope N ps (defScope st)) (hT : T nm = some d) (hn : d.n = ps.length) (hnn : d.nn = N.length) (hM : ∀ i, i < d.n → M i = false)
    (body : ∀ (f : Addr) (cdv : Value) (A : Around) (outer : List Env) (s : Shared) (H : Hp), Room k (A.deeper (envOfC x (defScope st) s.heap.objs.size f cdv)) → (A.deeper (envOfC x (defScope st) s.heap.objs.size f cdv)).guards = some [] →
      PSs (cxG P w K mg base N x (defScope st) f cdv A outer s H) (defBody st) (TSt ⟨K, w, P⟩ (fnAt T fuel k) M d.body)) (hd : d.n = n) : Callee P w K mg base (fnAt T fuel (k + 1)) (k + 1) nm x n := by
  obtain ⟨f, fd, D, h1, h2, h3⟩ := h
  subst hd
  exact ⟨f, fd, ps, defG D S hT hn hnn hM (body f), h1, h2, h3⟩
end
theorem Callee.law {P : Program} {w : World} {K : PySem.W.Frag} {mg : Str → Option Value} {base : Heap} {F : Fn} {k n : Nat} {nm : String} {x : Str} {fa : Addr} (C : Callee P w K mg base F k nm x n) (h : mg x = some (.ref fa)) : ∃ fd ps, FnG P w K mg base k fa fd ps (SpF ⟨K, w, P⟩ F nm n) := by
  obtain ⟨f, fd, ps, D, h1, _⟩ := C
  rw [h1] at h
  cases h
  exact ⟨fd, ps, D⟩
end Ev
/-! Ev27: what the drawing defs of a law compute (plain). -/
namespace Ev
open PySem PySem.Spec L2
def pickB : CS :=
    (sSeq (sWhile (bAnd (bOf (cBin fGt (.e (cVar false 1)) (.e (cC (.int 1))))) (bAnd (bOf (cBin fLt (.e (cSF .left 0)) (.e (cC (.int 2))))) (bOf (cBin fGt (.e (cLenS (cCells 0))) (.e (cC (.int 0))))))) (sSF .left 0 (cPopS (cCells 0))))
    (sSeq (sPar [2] [(cSF .left 0)])
    (sSeq (sIf (bOr (bOf (cBin fLt (.e (cVar false 1)) (.e (cC (.int 2))))) (bOf (cBin fGt (.e (cVar false 2)) (.e (cC (.int 1)))))) (sSeq (sSF .left 0 (cBin fDiv (.e (cVar false 2)) (.e (cNat fMax2 [(.e (cC (.int 1))), (.e (cVar false 1))]))))
    (sRet (cBin fMod (.e (cNat fInt [(.e (cVar false 2))])) (.e (cNat fMax2 [(.e (cC (.int 1))), (.e (cVar false 1))]))))) sPass)
    (sSeq (sSF .turn 0 (cBin fAdd (.e (cSF .turn 0)) (.e (cC (.int 1)))))
    (sSeq (sPar [3] [(cBin fMod (.e (cNat fInt [(.e (cBin fAdd (.e (cSF .mixed 0)) (.e (cBin fMul (.e (cSF .turn 0)) (.e (cC (.int 104729)))))))])) (.e (cC (.int 998244353))))])
    (sSeq (sPar [3] [(cBin fMod (.e (cNat fInt [(.e (cBin fAdd (.e (cBin fMul (.e (cVar false 3)) (.e (cVar false 3)))) (.e (cBin fMul (.e (cSF .turn 0)) (.e (cC (.int 17)))))))])) (.e (cC (.int 2147483647))))])
    (sSeq (sSF .mixed 0 (cVar false 3))
    (sRet (cBin fMod (.e (cNat fInt [(.e (cBin fDiv (.e (cVar false 3)) (.e (cC (.int 16)))))])) (.e (cVar false 1)))))))))))
/-! ### big steps -/
section
variable {F : Fn} {s s1 s2 : S} {a b : CS} {c d : CB} {p q : Bool} {r : Option (Fl × S)} {n : Nat}
theorem e_seq (h : a F s = some (.nx, s1)) (h2 : b F s1 = r) : sSeq a b F s = r := by unfold sSeq; rw [h]; exact h2
theorem e_ret {x : Vx} (h : a F s = some (.rt x, s1)) : sSeq a b F s = some (.rt x, s1) := by unfold sSeq; rw [h]
theorem e_ifT (h : c F s = some (true, s1)) (h2 : a F s1 = r) : sIf c a b F s = r := by unfold sIf; rw [h]; exact h2
theorem e_ifF (h : c F s = some (false, s1)) (h2 : b F s1 = r) : sIf c a b F s = r := by unfold sIf; rw [h]; exact h2
theorem e_and (h : c F s = some (p, s)) (h2 : d F s = some (q, s)) : bAnd c d F s = some (p && q, s) := by
  unfold bAnd; rw [h]
  cases p
  · rfl
  · show d F s = _; rw [h2]; rfl
theorem e_or (h : c F s = some (p, s)) (h2 : d F s = some (q, s)) : bOr c d F s = some (p || q, s) := by
  unfold bOr; rw [h]
  cases p
  · show d F s = _; rw [h2]; rfl
  · rfl
theorem e_whT (h : c F s = some (true, s1)) (h2 : a F s1 = some (.nx, s2)) : whileN (n + 1) c a F s = whileN n c a F s2 := by
  show (match c F s with | some (true, s1) => _ | some (false, s1) => _ | none => _) = _
  rw [h]
  show (match a F s1 with | some (.rt x, s2) => _ | some (_, s2) => _ | none => _) = _
  rw [h2]
theorem e_whF (h : c F s = some (false, s1)) : whileN (n + 1) c a F s = some (.nx, s1) := by
  show (match c F s with | some (true, s1) => _ | some (false, s1) => _ | none => _) = _
  rw [h]
end
/-- the while of a draw -/
theorem pick_while (F : Fn) (many : Int) (e2 e3 : Option Vx) : ∀ (n : Nat) (s : Src), s.cells.length < n → ∃ s', whileN n (bAnd (bOf (cBin fGt (.e (cVar false 1)) (.e (cC (.int 1))))) (bAnd (bOf (cBin fLt (.e (cSF .left 0)) (.e (cC (.int 2))))) (bOf (cBin fGt (.e (cLenS (cCells 0))) (.e (cC (.int 0))))))) (sSF .left 0 (cPopS (cCells 0))) F ⟨[some .src, some (.d (.int many)), e2, e3], some s⟩ = some (.nx, ⟨[some .src, some (.d (.int many)), e2, e3], some s'⟩) ∧ s'.cells.length ≤ s.cells.length
  | 0, s, h => absurd h (Nat.not_lt_zero _)
  | n + 1, s, h => by
    have hc : (bAnd (bOf (cBin fGt (.e (cVar false 1)) (.e (cC (.int 1))))) (bAnd (bOf (cBin fLt (.e (cSF .left 0)) (.e (cC (.int 2))))) (bOf (cBin fGt (.e (cLenS (cCells 0))) (.e (cC (.int 0))))))) F ⟨[some .src, some (.d (.int many)), e2, e3], some s⟩ = some (decide (many > 1) && (decide (s.left < 2) && decide ((s.cells.length : Int) > 0)), ⟨[some .src, some (.d (.int many)), e2, e3], some s⟩) := e_and rfl (e_and rfl rfl)
    cases hb : (decide (many > 1) && (decide (s.left < 2) && decide ((s.cells.length : Int) > 0))) with
    | false => rw [hb] at hc; exact ⟨s, e_whF hc, Nat.le_refl _⟩
    | true =>
      rw [hb] at hc
      simp only [Bool.and_eq_true, decide_eq_true_eq] at hb
      have hp : 0 < s.cells.length := by omega
      have hx : s.cells[s.cells.length - 1]? = some (s.cells[s.cells.length - 1]'(Nat.sub_lt hp Nat.one_pos)) := List.getElem?_eq_getElem _
      have hs : (sSF .left 0 (cPopS (cCells 0))) F ⟨[some .src, some (.d (.int many)), e2, e3], some s⟩ = some (.nx, ⟨[some .src, some (.d (.int many)), e2, e3], some (SF.left.set { s with cells := s.cells.dropLast } (s.cells[s.cells.length - 1]'(Nat.sub_lt hp Nat.one_pos)))⟩) := by
        have h1 : cPopS (cCells 0) F ⟨[some .src, some (.d (.int many)), e2, e3], some s⟩ = some (.d (.int (s.cells[s.cells.length - 1]'(Nat.sub_lt hp Nat.one_pos))), ⟨[some .src, some (.d (.int many)), e2, e3], some { s with cells := s.cells.dropLast }⟩) := by
          show (match s.cells[s.cells.length - 1]? with | some y => some (Vx.d (.int y), (⟨[some .src, some (.d (.int many)), e2, e3], some { s with cells := s.cells.dropLast }⟩ : S)) | none => none) = _
          rw [hx]
        unfold sSF
        rw [h1]
        rfl
      obtain ⟨s', e, hl⟩ := pick_while F many e2 e3 n (SF.left.set { s with cells := s.cells.dropLast } (s.cells[s.cells.length - 1]'(Nat.sub_lt hp Nat.one_pos))) (by simp [SF.set]; omega)
      refine ⟨s', (e_whT hc hs).trans e, Nat.le_trans hl ?_⟩
      simp [SF.set]
theorem mul_sm (i j : Int) (h : small64 j = true) : fMul (.int i) (.int j) = some (.int (i * j)) := by
  show (if small64 i || small64 j then some (PyData.int (i * j)) else none) = _
  rw [h, Bool.or_true]; rfl
theorem div_ok (i j : Int) (h : 0 < j) (h2 : j < 1073741824) : fDiv (.int i) (.int j) = some (.int (i / j)) := by
  show (if decide (0 < j) && decide (j < 1073741824) then some (PyData.int (i / j)) else none) = _
  rw [decide_eq_true h, decide_eq_true h2]; rfl
theorem mod_ok (i j : Int) (h : 0 < j) : fMod (.int i) (.int j) = some (.int (i % j)) := by
  show (if 0 < j then some (PyData.int (i % j)) else none) = _
  rw [if_pos h]
theorem cbin {F : Fn} {s s1 s2 : S} {f : PyData → PyData → Option PyData} {a b : CE} {x y z : PyData} (h1 : a F s = some (.d x, s1)) (h2 : b F s1 = some (.d y, s2)) (h : f x y = some z) : cBin f (.e a) (.e b) F s = some (.d z, s2) := by
  unfold cBin
  simp only [Opd.ev, h1, h2, h]
  rfl
theorem spar1 {F : Fn} {s s1 : S} {i : Nat} {c : CE} {x : Vx} (h : c F s = some (x, s1)) : sPar [i] [c] F s = some (.nx, { s1 with env := s1.env.set i (some x) }) := by
  unfold sPar
  simp only [evArgs, h]
  rfl
theorem ssf {F : Fn} {s s1 : S} {q : SF} {i : Nat} {c : CE} {k : Int} {x : Src} (h : c F s = some (.d (.int k), s1)) (h2 : s1.env[i]? = some (some .src)) (h3 : s1.src = some x) : sSF q i c F s = some (.nx, { s1 with src := some (q.set x k) }) := by
  unfold sSF
  simp only [h, h2, h3]
theorem sret {F : Fn} {s s1 : S} {c : CE} {x : Vx} (h : c F s = some (x, s1)) : sRet c F s = some (.rt x, s1) := by
  unfold sRet
  simp only [h]
theorem cnat1 {F : Fn} {s s1 : S} {f : List PyData → Option PyData} {a : CE} {x z : PyData} (h1 : a F s = some (.d x, s1)) (h : f [x] = some z) : cNat f [.e a] F s = some (.d z, s1) := by
  unfold cNat
  simp only [evOps, Opd.ev, h1, h]
  rfl
theorem max2_eq (many : Int) : fMax2 [.int 1, .int many] = some (.int (max 1 many)) := by
  show some (PyData.int (if many > 1 then many else 1)) = _
  rw [Int.max_def]; congr 2; split <;> split <;> omega
theorem cnat2 {F : Fn} {s s1 s2 : S} {f : List PyData → Option PyData} {a b : CE} {x y z : PyData} (h1 : a F s = some (.d x, s1)) (h2 : b F s1 = some (.d y, s2)) (h : f [x, y] = some z) : cNat f [.e a, .e b] F s = some (.d z, s2) := by
  unfold cNat
  simp only [evOps, Opd.ev, h1, h2, h]
  rfl
theorem run_ret {d : FnDef} {F : Fn} {xs : List Vx} {src : Option Src} {x : Vx} {s' : S} (hn : xs.length = d.n) (h : d.body F ⟨xs.map some ++ List.replicate (d.nn - xs.length) none, src⟩ = some (.rt x, s')) : runDef d F xs src = some (x, s'.src) := by
  unfold runDef
  rw [if_pos hn, h]
theorem pick_run (F : Fn) (hf : 64 ≤ F.fuel) (s : Src) (hs : s.cells.length ≤ 63) (many : Int) (hm : many < 1073741824) : ∃ r s', runDef ⟨2, 4, pickB⟩ F [.src, .d (.int many)] (some s) = some (.d (.int r), some s') ∧ s'.cells.length ≤ 63 ∧ 0 ≤ r ∧ r < max 1 many := by
  obtain ⟨s1, e1, h1⟩ := pick_while F many none none F.fuel s (by omega)
  have hmx : 0 < max 1 many := by omega
  have key : ∃ r s', pickB F ⟨[some .src, some (.d (.int many)), none, none], some s⟩ = some (.rt (.d (.int r)), s') ∧ (∃ s2, s'.src = some s2 ∧ s2.cells.length ≤ 63) ∧ 0 ≤ r ∧ r < max 1 many := by
    by_cases hb : (decide (many < 2) || decide (s1.left > 1)) = true
    · refine ⟨s1.left % max 1 many, ⟨[some .src, some (.d (.int many)), some (.d (.int s1.left)), none], some { s1 with left := s1.left / max 1 many }⟩, ?_, ⟨_, rfl, by show s1.cells.length ≤ 63; omega⟩, Int.emod_nonneg _ (by omega), Int.emod_lt_of_pos _ hmx⟩
      refine e_seq (show sWhile _ _ F _ = _ from e1) (e_seq (spar1 (x := .d (.int s1.left)) rfl) ?_)
      refine e_ret (e_ifT (s1 := ⟨[some .src, some (.d (.int many)), some (.d (.int s1.left)), none], some s1⟩) ((e_or rfl rfl).trans (by rw [hb]; rfl)) ?_)
      refine e_seq (ssf (k := s1.left / max 1 many) (x := s1) (cbin (x := .int s1.left) (y := .int (max 1 many)) rfl (cnat2 rfl rfl (max2_eq many)) (div_ok _ _ hmx (by omega))) rfl rfl) ?_
      exact sret (cbin (x := .int s1.left) (y := .int (max 1 many)) rfl (cnat2 rfl rfl (max2_eq many)) (mod_ok _ _ hmx))
    · have hb' : (decide (many < 2) || decide (s1.left > 1)) = false := by simpa using hb
      have hb2 := hb'
      simp only [Bool.or_eq_false_iff, decide_eq_false_iff_not] at hb2
      have h0 : 0 < many := by omega
      refine ⟨((((s1.mixed + (s1.turn + 1) * 104729) % 998244353) * ((s1.mixed + (s1.turn + 1) * 104729) % 998244353) + (s1.turn + 1) * 17) % 2147483647) / 16 % many, ⟨[some .src, some (.d (.int many)), some (.d (.int s1.left)), some (.d (.int ((((s1.mixed + (s1.turn + 1) * 104729) % 998244353) * ((s1.mixed + (s1.turn + 1) * 104729) % 998244353) + (s1.turn + 1) * 17) % 2147483647)))], some { s1 with turn := s1.turn + 1, mixed := ((((s1.mixed + (s1.turn + 1) * 104729) % 998244353) * ((s1.mixed + (s1.turn + 1) * 104729) % 998244353) + (s1.turn + 1) * 17) % 2147483647) }⟩, ?_, ⟨_, rfl, ?_⟩, Int.emod_nonneg _ (by omega), by have := Int.emod_lt_of_pos (((((s1.mixed + (s1.turn + 1) * 104729) % 998244353) * ((s1.mixed + (s1.turn + 1) * 104729) % 998244353) + (s1.turn + 1) * 17) % 2147483647) / 16) h0; omega⟩
      · refine e_seq (show sWhile _ _ F _ = _ from e1) (e_seq (spar1 (x := .d (.int s1.left)) rfl) ?_)
        refine e_seq (e_ifF (s1 := ⟨[some .src, some (.d (.int many)), some (.d (.int s1.left)), none], some s1⟩) ((e_or rfl rfl).trans (by rw [hb']; rfl)) rfl) ?_
        refine e_seq (ssf (k := s1.turn + 1) (x := s1) rfl rfl rfl) ?_
        refine e_seq (spar1 (x := .d (.int ((s1.mixed + (s1.turn + 1) * 104729) % 998244353))) (cbin (cnat1 (cbin rfl (cbin rfl rfl (mul_sm _ _ (by decide))) rfl) rfl) rfl (mod_ok _ _ (by decide)))) ?_
        refine e_seq (spar1 (x := .d (.int ((((s1.mixed + (s1.turn + 1) * 104729) % 998244353) * ((s1.mixed + (s1.turn + 1) * 104729) % 998244353) + (s1.turn + 1) * 17) % 2147483647))) (cbin (cnat1 (cbin (cbin rfl rfl (mul_sm _ _ ?_)) (cbin rfl rfl (mul_sm _ _ (by decide))) rfl) rfl) rfl (mod_ok _ _ (by decide)))) ?_
        · have := Int.emod_lt_of_pos (s1.mixed + (s1.turn + 1) * 104729) (show (0 : Int) < 998244353 by decide)
          have := Int.emod_nonneg (s1.mixed + (s1.turn + 1) * 104729) (show (998244353 : Int) ≠ 0 by decide)
          unfold small64
          simp only [Bool.and_eq_true, decide_eq_true_eq]
          omega
        refine e_seq (ssf (k := (((s1.mixed + (s1.turn + 1) * 104729) % 998244353) * ((s1.mixed + (s1.turn + 1) * 104729) % 998244353) + (s1.turn + 1) * 17) % 2147483647) (x := { s1 with turn := s1.turn + 1 }) rfl rfl rfl) ?_
        exact sret (cbin (cnat1 (cbin rfl rfl (div_ok _ _ (by decide) (by decide))) rfl) rfl (mod_ok _ _ h0))
      · show s1.cells.length ≤ 63
        omega
  obtain ⟨r, s', e, ⟨s2, h2, h3⟩, h4, h5⟩ := key
  refine ⟨r, s2, ?_, h3, h4, h5⟩
  have hd := run_ret (d := ⟨2, 4, pickB⟩) (F := F) (xs := [.src, .d (.int many)]) (src := some s) rfl e
  rw [hd, h2]
end Ev
/-! Ev28: loops and comprehensions by invariants (plain). -/
namespace Ev
open PySem PySem.Spec L2
theorem unwipe_at (e x : List (Option Vx)) (hl : x.length = e.length) : ∀ (vs : List Nat) (j : Nat), (unwipeE e x vs)[j]? = if j ∈ vs then e[j]? else x[j]?
  | [], j => by simp [unwipeE]
  | v :: vs, j => by
    unfold unwipeE
    by_cases hj : v = j
    · subst hj
      by_cases hi : v < e.length
      · rw [List.getElem?_set_self (by rw [unwipeE_len, hl]; exact hi), if_pos List.mem_cons_self, List.getD_eq_getElem?_getD, List.getElem?_eq_getElem hi]; rfl
      · rw [List.getElem?_eq_none (by rw [List.length_set, unwipeE_len, hl]; omega), if_pos List.mem_cons_self, List.getElem?_eq_none (by omega)]
    · rw [List.getElem?_set_ne hj, unwipe_at e x hl vs j]
      by_cases h2 : j ∈ vs
      · rw [if_pos h2, if_pos (List.mem_cons_of_mem _ h2)]
      · rw [if_neg h2, if_neg (fun z => (List.mem_cons.mp z).elim (fun z => hj z.symm) h2)]
theorem wipe_at (e : List (Option Vx)) : ∀ (vs : List Nat) (j : Nat), j ∉ vs → (wipeE e vs)[j]? = e[j]?
  | [], j, _ => rfl
  | v :: vs, j, h => by
    unfold wipeE
    rw [List.getElem?_set_ne (fun z => h (by rw [z]; exact List.mem_cons_self))]
    exact wipe_at e vs j fun z => h (List.mem_cons_of_mem _ z)
theorem unwipe_wipe (e : List (Option Vx)) (vs : List Nat) : unwipeE e (wipeE e vs) vs = e := by
  refine List.ext_getElem? fun j => ?_
  rw [unwipe_at e _ (wipeE_len e vs)]
  by_cases h : j ∈ vs
  · rw [if_pos h]
  · rw [if_neg h, wipe_at e vs j h]
section
variable {as : PyData → S → Option S} {own : List Nat} {t : CB} {c : CE} {F : Fn} {ic : IC} {b : CS}
theorem lc_ind (E : List (Option Vx)) (R : Nat → Option Src → Prop) (Y : Nat → PyData → Prop) : ∀ (ds : List PyData) (i : Nat) (src : Option Src), R i src →
    (∀ (j : Nat) (d : PyData) (src : Option Src), ds[j]? = some d → R (i + j) src → ∃ s1 s2 y E' src', as d ⟨E, src⟩ = some s1 ∧ t F s1 = some (true, s2) ∧ c F s2 = some (.d y, ⟨E', src'⟩) ∧ wipeE E' own = E ∧ R (i + j + 1) src' ∧ Y (i + j) y) →
    ∀ E0, wipeE E0 own = E → ∃ ys E2 src2, lcL as own t c F ds ⟨E0, src⟩ = some (ys, ⟨E2, src2⟩) ∧ wipeE E2 own = E ∧ R (i + ds.length) src2 ∧ ys.length = ds.length ∧ ∀ j y, ys[j]? = some y → Y (i + j) y
  | [], i, src, h, _, E0, he => ⟨[], E0, src, rfl, he, h, rfl, fun j y e => by simp at e⟩
  | d :: ds, i, src, h, st, E0, he => by
    obtain ⟨s1, s2, y, E', src', h1, h2, h3, h4, h5, h6⟩ := st 0 d src rfl h
    obtain ⟨ys, E2, src2, g1, g2, g3, g4, g5⟩ := lc_ind E R Y ds (i + 1) src' h5 (fun j d' src hj hr => by
      have := st (j + 1) d' src (by simpa using hj) (by rw [show i + (j + 1) = i + 1 + j by omega]; exact hr)
      rw [show i + (j + 1) = i + 1 + j by omega] at this
      exact this) E' h4
    refine ⟨y :: ys, E2, src2, ?_, g2, by rw [show i + (d :: ds).length = i + 1 + ds.length by rw [List.length_cons]; omega]; exact g3, by rw [List.length_cons, List.length_cons, g4], fun j z e => ?_⟩
    · show (match as d (wipeS own ⟨E0, src⟩) with | some s1 => _ | none => _) = _
      rw [show wipeS own ⟨E0, src⟩ = ⟨E, src⟩ by unfold wipeS; rw [he], h1]
      simp only [h2, h3]
      rw [g1]
    · cases j with
      | zero => simp at e; subst e; exact h6
      | succ j =>
        have := g5 j z (by simpa using e)
        rw [show i + (j + 1) = i + 1 + j by omega]; exact this
theorem lc_filt (E : List (Option Vx)) (src : Option Src) (p : PyData → Bool) (f : PyData → PyData) : ∀ (ds : List PyData),
    (∀ d ∈ ds, ∃ s1 s2, as d ⟨E, src⟩ = some s1 ∧ t F s1 = some (p d, s2) ∧ (p d = false → s2.src = src ∧ wipeE s2.env own = E) ∧ (p d = true → ∃ E', c F s2 = some (.d (f d), ⟨E', src⟩) ∧ wipeE E' own = E)) →
    ∀ E0, wipeE E0 own = E → ∃ E2, lcL as own t c F ds ⟨E0, src⟩ = some ((ds.filter p).map f, ⟨E2, src⟩) ∧ wipeE E2 own = E
  | [], _, E0, he => ⟨E0, rfl, he⟩
  | d :: ds, st, E0, he => by
    obtain ⟨s1, s2, h1, h2, h3, h4⟩ := st d List.mem_cons_self
    have ih := lc_filt E src p f ds fun d' hd => st d' (List.mem_cons_of_mem _ hd)
    cases hp : p d with
    | true =>
      obtain ⟨E', h5, h6⟩ := h4 hp
      obtain ⟨E2, g1, g2⟩ := ih E' h6
      refine ⟨E2, ?_, g2⟩
      show (match as d (wipeS own ⟨E0, src⟩) with | some s1 => _ | none => _) = _
      rw [show wipeS own ⟨E0, src⟩ = ⟨E, src⟩ by unfold wipeS; rw [he], h1]
      simp only [h2, hp, h5]
      rw [g1, List.filter_cons, hp]
      rfl
    | false =>
      obtain ⟨h5, h6⟩ := h3 hp
      obtain ⟨E2, g1, g2⟩ := ih s2.env h6
      refine ⟨E2, ?_, g2⟩
      show (match as d (wipeS own ⟨E0, src⟩) with | some s1 => _ | none => _) = _
      rw [show wipeS own ⟨E0, src⟩ = ⟨E, src⟩ by unfold wipeS; rw [he], h1]
      simp only [h2, hp]
      have e2 : s2 = ⟨s2.env, src⟩ := by rw [← h5]
      rw [List.filter_cons, hp]
      rw [e2]
      exact g1
theorem clc_ind {ds : List PyData} {E1 : List (Option Vx)} {src : Option Src} {s : S} (hic : ic F s = some (ds, ⟨E1, src⟩, [])) (hl : ds.length ≤ sizeLine) (R : Nat → Option Src → Prop) (Y : Nat → PyData → Prop) (h0 : R 0 src)
    (st : ∀ (j : Nat) (d : PyData) (src : Option Src), ds[j]? = some d → R j src → ∃ s1 s2 y E' src', as d ⟨wipeE E1 own, src⟩ = some s1 ∧ t F s1 = some (true, s2) ∧ c F s2 = some (.d y, ⟨E', src'⟩) ∧ wipeE E' own = wipeE E1 own ∧ R (j + 1) src' ∧ Y j y) :
    ∃ ys src2, cLc own as ic t c F s = some (.d (.list ys), ⟨E1, src2⟩) ∧ R ds.length src2 ∧ ys.length = ds.length ∧ ∀ j y, ys[j]? = some y → Y j y := by
  obtain ⟨ys, E2, src2, g1, g2, g3, g4, g5⟩ := lc_ind (as := as) (own := own) (t := t) (c := c) (F := F) (wipeE E1 own) R Y ds 0 src h0 (fun j d src hj hr => by
    have := st j d src hj (by rw [Nat.zero_add] at hr; exact hr)
    rw [Nat.zero_add]; exact this) E1 rfl
  rw [Nat.zero_add] at g3
  refine ⟨ys, src2, ?_, g3, g4, fun j y e => by have := g5 j y e; rw [Nat.zero_add] at this; exact this⟩
  unfold cLc
  rw [hic]
  simp only [hl, if_true, g1]
  show some (Vx.d (.list ys), back [] (unwipeS own ⟨E1, src⟩ (wipeS own ⟨E2, src2⟩))) = _
  unfold unwipeS wipeS back
  simp only [List.foldr_nil, g2, unwipe_wipe]
theorem clc_filt {ds : List PyData} {E1 : List (Option Vx)} {src : Option Src} {s : S} (hic : ic F s = some (ds, ⟨E1, src⟩, [])) (hl : ds.length ≤ sizeLine) (p : PyData → Bool) (f : PyData → PyData)
    (st : ∀ d ∈ ds, ∃ s1 s2, as d ⟨wipeE E1 own, src⟩ = some s1 ∧ t F s1 = some (p d, s2) ∧ (p d = false → s2.src = src ∧ wipeE s2.env own = wipeE E1 own) ∧ (p d = true → ∃ E', c F s2 = some (.d (f d), ⟨E', src⟩) ∧ wipeE E' own = wipeE E1 own)) :
    cLc own as ic t c F s = some (.d (.list ((ds.filter p).map f)), ⟨E1, src⟩) := by
  obtain ⟨E2, g1, g2⟩ := lc_filt (as := as) (own := own) (t := t) (c := c) (F := F) (wipeE E1 own) src p f ds st E1 rfl
  unfold cLc
  rw [hic]
  simp only [hl, if_true, g1]
  show some (Vx.d (.list _), back [] (unwipeS own ⟨E1, src⟩ (wipeS own ⟨E2, src⟩))) = _
  unfold unwipeS wipeS back
  simp only [List.foldr_nil, g2, unwipe_wipe]
theorem clc_map {ds : List PyData} {E1 : List (Option Vx)} {src : Option Src} {s : S} (hic : ic F s = some (ds, ⟨E1, src⟩, [])) (hl : ds.length ≤ sizeLine) (f : PyData → PyData)
    (st : ∀ d ∈ ds, ∃ s1 E', as d ⟨wipeE E1 own, src⟩ = some s1 ∧ c F s1 = some (.d (f d), ⟨E', src⟩) ∧ wipeE E' own = wipeE E1 own) :
    cLc own as ic bYes c F s = some (.d (.list (ds.map f)), ⟨E1, src⟩) := by
  have := clc_filt (as := as) (own := own) (t := bYes) (c := c) hic hl (fun _ => true) f fun d hd => by
    obtain ⟨s1, E', h1, h2, h3⟩ := st d hd
    exact ⟨s1, s1, h1, rfl, (fun z => nomatch z), fun _ => ⟨E', h2, h3⟩⟩
  rw [this, List.filter_eq_self.mpr fun _ _ => rfl]
theorem for_ind (R : Nat → S → Prop) : ∀ (ds : List PyData) (i : Nat) (s : S), R i s →
    (∀ (j : Nat) (d : PyData) (s : S), ds[j]? = some d → R (i + j) s → ∃ s1 s2, as d s = some s1 ∧ b F s1 = some (.nx, s2) ∧ R (i + j + 1) s2) → ∃ s', forL as b F ds s = some (.nx, s') ∧ R (i + ds.length) s'
  | [], i, s, h, _ => ⟨s, rfl, h⟩
  | d :: ds, i, s, h, st => by
    obtain ⟨s1, s2, h1, h2, h3⟩ := st 0 d s rfl h
    obtain ⟨s', g1, g2⟩ := for_ind R ds (i + 1) s2 h3 fun j d' s hj hr => by
      have := st (j + 1) d' s (by simpa using hj) (by rw [show i + (j + 1) = i + 1 + j by omega]; exact hr)
      rw [show i + (j + 1) = i + 1 + j by omega] at this
      exact this
    refine ⟨s', ?_, by rw [show i + (d :: ds).length = i + 1 + ds.length by rw [List.length_cons]; omega]; exact g2⟩
    show (match as d s with | some s1 => _ | none => _) = _
    rw [h1]
    simp only [h2]
    exact g1
theorem sfor_ind {ds : List PyData} {s s0 : S} (hic : ic F s = some (ds, s0, [])) (R : Nat → S → Prop) (h0 : R 0 s0) (st : ∀ (j : Nat) (d : PyData) (s : S), ds[j]? = some d → R j s → ∃ s1 s2, as d s = some s1 ∧ b F s1 = some (.nx, s2) ∧ R (j + 1) s2) :
    ∃ s', sFor as ic b F s = some (.nx, s') ∧ R ds.length s' := by
  obtain ⟨s', g1, g2⟩ := for_ind (as := as) (b := b) (F := F) R ds 0 s0 h0 fun j d s hj hr => by
    have := st j d s hj (by rw [Nat.zero_add] at hr; exact hr)
    rw [Nat.zero_add]; exact this
  rw [Nat.zero_add] at g2
  refine ⟨s', ?_, g2⟩
  unfold sFor
  rw [hic]
  exact g1
end
end Ev
/-! Dt1: trees of whole numbers, as data: keys, equality, texts (plain). -/
namespace Ev
open PySem PySem.Spec L2
mutual
/-- a whole number, or a tuple of such trees -/
def itr : PyData → Bool
  | .int _ => true
  | .tuple ds => itrA ds
  | _ => false
def itrA : List PyData → Bool
  | [] => true
  | d :: ds => itr d && itrA ds
end
theorem itrA_iff : ∀ {ds : List PyData}, itrA ds = true ↔ ∀ d ∈ ds, itr d = true
  | [] => by simp [itrA]
  | d :: ds => by
    unfold itrA
    rw [Bool.and_eq_true, itrA_iff]
    constructor
    · rintro ⟨h1, h2⟩ x hx
      rcases List.mem_cons.mp hx with rfl | hx
      · exact h1
      · exact h2 x hx
    · exact fun h => ⟨h d List.mem_cons_self, fun x hx => h x (List.mem_cons_of_mem _ hx)⟩
mutual
theorem itr_key : ∀ (d : PyData), itr d = true → ∃ k, keyOf d = some k
  | .int i, _ => ⟨.num i, rfl⟩
  | .tuple ds, h => by
    obtain ⟨ks, e⟩ := itrA_key ds (by unfold itr at h; exact h)
    exact ⟨.tup ks, by unfold keyOf; rw [e]; rfl⟩
  | .none, h => by cases h
  | .bool _, h => by cases h
  | .str _, h => by cases h
  | .list _, h => by cases h
  | .dict _, h => by cases h
theorem itrA_key : ∀ (ds : List PyData), itrA ds = true → ∃ ks, keysOf ds = some ks
  | [], _ => ⟨[], rfl⟩
  | d :: ds, h => by
    unfold itrA at h
    rw [Bool.and_eq_true] at h
    obtain ⟨k, e⟩ := itr_key d h.1
    obtain ⟨ks, e2⟩ := itrA_key ds h.2
    exact ⟨k :: ks, by unfold keysOf; rw [e, e2]⟩
end
mutual
theorem key_inj : ∀ (d e : PyData), itr d = true → itr e = true → keyOf d = keyOf e → d = e
  | .int i, e, _, he, h => by
    cases e with
    | int j => unfold keyOf at h; cases h; rfl
    | tuple es =>
      obtain ⟨k, q⟩ := itr_key _ he
      rw [q] at h
      unfold keyOf at q h
      rw [Option.map_eq_some_iff] at q
      obtain ⟨ks, _, rfl⟩ := q
      cases h
    | _ => cases he
  | .tuple ds, e, hd, he, h => by
    cases e with
    | int j =>
      obtain ⟨k, q⟩ := itr_key _ hd
      rw [q] at h
      unfold keyOf at q h
      rw [Option.map_eq_some_iff] at q
      obtain ⟨ks, _, rfl⟩ := q
      cases h
    | tuple es =>
      unfold itr at hd he
      obtain ⟨ks, q1⟩ := itrA_key ds hd
      obtain ⟨ls, q2⟩ := itrA_key es he
      unfold keyOf at h
      rw [q1, q2] at h
      have : ks = ls := by
        have := Option.some.inj h
        injection this
      rw [keys_inj ds es hd he (by rw [q1, q2, this])]
    | _ => cases he
  | .none, _, hd, _, _ => by cases hd
  | .bool _, _, hd, _, _ => by cases hd
  | .str _, _, hd, _, _ => by cases hd
  | .list _, _, hd, _, _ => by cases hd
  | .dict _, _, hd, _, _ => by cases hd
theorem keys_inj : ∀ (ds es : List PyData), itrA ds = true → itrA es = true → keysOf ds = keysOf es → ds = es
  | [], [], _, _, _ => rfl
  | [], e :: es, _, he, h => by
    obtain ⟨ks, q⟩ := itrA_key _ he
    rw [q] at h
    unfold keysOf at q h
    split at q
    · cases q; cases h
    · cases q
  | d :: ds, [], hd, _, h => by
    obtain ⟨ks, q⟩ := itrA_key _ hd
    rw [q] at h
    unfold keysOf at q h
    split at q
    · cases q; cases h
    · cases q
  | d :: ds, e :: es, hd, he, h => by
    unfold itrA at hd he
    rw [Bool.and_eq_true] at hd he
    obtain ⟨k, q1⟩ := itr_key d hd.1
    obtain ⟨ks, q2⟩ := itrA_key ds hd.2
    obtain ⟨l, q3⟩ := itr_key e he.1
    obtain ⟨ls, q4⟩ := itrA_key es he.2
    have h' : (some (k :: ks) : Option (List NestedKey)) = some (l :: ls) := by
      unfold keysOf at h
      rw [q1, q2, q3, q4] at h
      exact h
    have h'' := Option.some.inj h'
    obtain ⟨h1, h2⟩ := List.cons.inj h''
    rw [key_inj d e hd.1 he.1 (by rw [q1, q3, h1]), keys_inj ds es hd.2 he.2 (by rw [q2, q4, h2])]
end
theorem keq_itr {d e : PyData} (hd : itr d = true) (he : itr e = true) : keq d e = true ↔ d = e := by
  obtain ⟨k, q1⟩ := itr_key d hd
  obtain ⟨l, q2⟩ := itr_key e he
  unfold keq
  rw [q1, q2]
  constructor
  · intro h
    exact key_inj d e hd he (by rw [q1, q2, of_decide_eq_true h])
  · rintro rfl
    rw [q1] at q2
    cases q2
    simp
mutual
theorem eqv_itr : ∀ (d e : PyData), itr d = true → itr e = true → (PyData.eqv d e = true ↔ d = e)
  | .int i, e, _, he => by
    cases e with
    | int j => simp [PyData.eqv]
    | tuple es => simp [PyData.eqv]
    | _ => cases he
  | .tuple ds, e, hd, he => by
    cases e with
    | int j => simp [PyData.eqv]
    | tuple es =>
      unfold itr at hd he
      simp only [PyData.eqv, PyData.tuple.injEq]
      exact eqvA_itr ds es hd he
    | _ => cases he
  | .none, _, hd, _ => by cases hd
  | .bool _, _, hd, _ => by cases hd
  | .str _, _, hd, _ => by cases hd
  | .list _, _, hd, _ => by cases hd
  | .dict _, _, hd, _ => by cases hd
theorem eqvA_itr : ∀ (ds es : List PyData), itrA ds = true → itrA es = true → (PyData.eqvAll ds es = true ↔ ds = es)
  | [], [], _, _ => by simp [PyData.eqvAll]
  | [], e :: es, _, _ => by simp [PyData.eqvAll]
  | d :: ds, [], _, _ => by simp [PyData.eqvAll]
  | d :: ds, e :: es, hd, he => by
    unfold itrA at hd he
    rw [Bool.and_eq_true] at hd he
    simp only [PyData.eqvAll, Bool.and_eq_true, List.cons.injEq]
    rw [eqv_itr d e hd.1 he.1, eqvA_itr ds es hd.2 he.2]
end
mutual
theorem itr_lay : ∀ (d : PyData), itr d = true → PyData.canLay0 d = true
  | .int _, _ => by simp [PyData.canLay0]
  | .tuple ds, h => by
    unfold itr at h
    simp only [PyData.canLay0]
    exact itrA_lay ds h
  | .none, h => by cases h
  | .bool _, h => by cases h
  | .str _, h => by cases h
  | .list _, h => by cases h
  | .dict _, h => by cases h
theorem itrA_lay : ∀ (ds : List PyData), itrA ds = true → PyData.canLayAll0 ds = true
  | [], _ => by simp [PyData.canLayAll0]
  | d :: ds, h => by
    unfold itrA at h
    rw [Bool.and_eq_true] at h
    simp only [PyData.canLayAll0, Bool.and_eq_true]
    exact ⟨itr_lay d h.1, itrA_lay ds h.2⟩
end
theorem shp_itr {d : PyData} (h : itr d = true) (hd : d.depth ≤ 64) : shp d = true := by
  show (d.canLay0 && decide (d.depth ≤ 64)) = true
  rw [itr_lay d h, decide_eq_true hd]; rfl
end Ev
/-! Dt2: texts of trees of small numbers tell the trees (plain). -/
namespace Ev
open PySem PySem.Spec L2
mutual
/-- a tree of numbers from 0 to 99 -/
def its : PyData → Bool
  | .int i => decide (0 ≤ i) && decide (i < 100)
  | .tuple ds => itsA ds
  | _ => false
def itsA : List PyData → Bool
  | [] => true
  | d :: ds => its d && itsA ds
end
mutual
theorem its_itr : ∀ (d : PyData), its d = true → itr d = true
  | .int _, _ => rfl
  | .tuple ds, h => by unfold its at h; unfold itr; exact itsA_itr ds h
  | .none, h => by cases h
  | .bool _, h => by cases h
  | .str _, h => by cases h
  | .list _, h => by cases h
  | .dict _, h => by cases h
theorem itsA_itr : ∀ (ds : List PyData), itsA ds = true → itrA ds = true
  | [], _ => rfl
  | d :: ds, h => by
    unfold itsA at h
    rw [Bool.and_eq_true] at h
    unfold itrA
    rw [its_itr d h.1, itsA_itr ds h.2]; rfl
end
def shI (i : Int) : List Nat := ((toString i : String) : Str).cps.toList
def sh (d : PyData) : List Nat := d.shown.cps.toList
def restT : List PyData → List Nat
  | [] => []
  | [x] => sh x ++ [41]
  | x :: y :: r => sh x ++ 44 :: 32 :: restT (y :: r)
def bodyT : List PyData → List Nat
  | [] => [41]
  | [x] => sh x ++ [44, 41]
  | x :: y :: r => sh x ++ 44 :: 32 :: restT (y :: r)
theorem join_rest : ∀ (x : PyData) (ds : List PyData), (Str.join ", " (PyData.shownAll (x :: ds))).cps.toList ++ [41] = restT (x :: ds)
  | x, [] => by
    show (PyData.shown x).cps.toList ++ [41] = _
    rfl
  | x, y :: r => by
    have ih := join_rest y r
    show (PyData.shown x ++ (", " : Str) ++ Str.join ", " (PyData.shownAll (y :: r))).cps.toList ++ [41] = sh x ++ 44 :: 32 :: restT (y :: r)
    rw [← ih]
    simp only [Str.cps_append, Array.toList_append, List.append_assoc]
    rfl
theorem sh_tup (ds : List PyData) : sh (.tuple ds) = 40 :: bodyT ds := by
  unfold sh
  simp only [PyData.shown]
  unfold tupleText
  cases ds with
  | nil => rfl
  | cons x r =>
    cases r with
    | nil =>
      simp only [Str.cps_append, Array.toList_append, PyData.shownAll]
      rfl
    | cons y r =>
      have h := join_rest x (y :: r)
      simp only [Str.cps_append, Array.toList_append]
      have e : ((PyData.shownAll (x :: y :: r)).length == 1) = false := by simp [PyData.shownAll]
      rw [e]
      show [40] ++ (Str.join ", " (PyData.shownAll (x :: y :: r))).cps.toList ++ [41] = 40 :: restT (x :: y :: r)
      rw [← h]
      simp
theorem shI_inj : ∀ i j : Fin 100, shI (i.val : Int) = shI (j.val : Int) → i = j := by decide +kernel
theorem shI_small {i j : Int} (hi : 0 ≤ i ∧ i < 100) (hj : 0 ≤ j ∧ j < 100) (h : shI i = shI j) : i = j := by
  have := shI_inj ⟨i.toNat, by omega⟩ ⟨j.toNat, by omega⟩ (by
    show shI ((i.toNat : Nat) : Int) = shI ((j.toNat : Nat) : Int)
    rw [Int.toNat_of_nonneg hi.1, Int.toNat_of_nonneg hj.1]; exact h)
  have := Fin.mk.inj this
  omega
def stop (l : List Nat) : Prop := l = [] ∨ ∃ c r, l = c :: r ∧ (c = 41 ∨ c = 44)
theorem split_at : ∀ (x y a b : List Nat), (∀ c ∈ x, c ≠ 41 ∧ c ≠ 44) → (∀ c ∈ y, c ≠ 41 ∧ c ≠ 44) → stop a → stop b → x ++ a = y ++ b → x = y ∧ a = b
  | [], [], a, b, _, _, _, _, h => ⟨rfl, h⟩
  | [], c :: y, a, b, _, hy, ha, _, h => by
    rcases ha with rfl | ⟨e, r, rfl, he⟩
    · cases h
    · rw [List.nil_append, List.cons_append] at h
      injection h with h1 _
      subst h1
      have := hy _ List.mem_cons_self
      omega
  | c :: x, [], a, b, hx, _, _, hb, h => by
    rcases hb with rfl | ⟨e, r, rfl, he⟩
    · cases h
    · rw [List.nil_append, List.cons_append] at h
      injection h with h1 _
      subst h1
      have := hx _ List.mem_cons_self
      omega
  | c :: x, d :: y, a, b, hx, hy, ha, hb, h => by
    rw [List.cons_append, List.cons_append] at h
    injection h with h1 h2
    obtain ⟨e1, e2⟩ := split_at x y a b (fun z hz => hx z (List.mem_cons_of_mem _ hz)) (fun z hz => hy z (List.mem_cons_of_mem _ hz)) ha hb h2
    exact ⟨by rw [h1, e1], e2⟩
theorem shI_free (i : Int) : ∀ c ∈ shI i, c ≠ 41 ∧ c ≠ 44 := fun c hc => ⟨fun e => PyProof.Rows.int_text_free' 41 ⟨by decide, by decide⟩ i (by rw [← e]; exact hc), fun e => PyProof.Rows.int_text_free' 44 ⟨by decide, by decide⟩ i (by rw [← e]; exact hc)⟩
theorem shI_40 (i : Int) : 40 ∉ shI i := PyProof.Rows.int_text_free' 40 ⟨by decide, by decide⟩ i
theorem sh_int (i : Int) : sh (.int i) = shI i := rfl
/-- the text of a tree does not begin with a ) -/
theorem sh_no41 {d : PyData} (h : its d = true) {a r : List Nat} (hs : ∀ q, a ≠ 41 :: q) : sh d ++ a ≠ 41 :: r := by
  cases d with
  | int i =>
    intro e
    rw [sh_int] at e
    cases hx : shI i with
    | nil => rw [hx] at e; exact hs _ e
    | cons c x =>
      rw [hx] at e
      injection e with e1 _
      have := shI_free i c (by rw [hx]; exact List.mem_cons_self)
      omega
  | tuple ds =>
    intro e
    rw [sh_tup] at e
    injection e with e1 _
    cases e1
  | _ => cases h
mutual
theorem sh_dec : ∀ (d e : PyData) (a b : List Nat), its d = true → its e = true → stop a → stop b → sh d ++ a = sh e ++ b → d = e ∧ a = b
  | .int i, e, a, b, hd, he, ha, hb, h => by
    cases e with
    | int j =>
      unfold its at hd he
      simp only [Bool.and_eq_true, decide_eq_true_eq] at hd he
      obtain ⟨h1, h2⟩ := split_at _ _ a b (shI_free i) (shI_free j) ha hb h
      exact ⟨by rw [shI_small hd he h1], h2⟩
    | tuple es =>
      rw [sh_int, sh_tup] at h
      exfalso
      cases hx : shI i with
      | nil =>
        rw [hx] at h
        rcases ha with rfl | ⟨c, r, rfl, hc⟩
        · cases h
        · injection h with h1 _
          omega
      | cons c x =>
        rw [hx] at h
        injection h with h1 _
        exact shI_40 i (by rw [hx, h1]; exact List.mem_cons_self)
    | _ => cases he
  | .tuple ds, e, a, b, hd, he, ha, hb, h => by
    cases e with
    | int j =>
      rw [sh_int, sh_tup] at h
      exfalso
      cases hx : shI j with
      | nil =>
        rw [hx] at h
        rcases hb with rfl | ⟨c, r, rfl, hc⟩
        · cases h
        · injection h with h1 _
          omega
      | cons c x =>
        rw [hx] at h
        injection h with h1 _
        exact shI_40 j (by rw [hx, ← h1]; exact List.mem_cons_self)
    | tuple es =>
      unfold its at hd he
      rw [sh_tup, sh_tup] at h
      injection h with _ h
      obtain ⟨h1, h2⟩ := body_dec ds es a b hd he h
      exact ⟨by rw [h1], h2⟩
    | _ => cases he
  | .none, _, _, _, hd, _, _, _, _ => by cases hd
  | .bool _, _, _, _, hd, _, _, _, _ => by cases hd
  | .str _, _, _, _, hd, _, _, _, _ => by cases hd
  | .list _, _, _, _, hd, _, _, _, _ => by cases hd
  | .dict _, _, _, _, hd, _, _, _, _ => by cases hd
theorem body_dec : ∀ (ds es : List PyData) (a b : List Nat), itsA ds = true → itsA es = true → bodyT ds ++ a = bodyT es ++ b → ds = es ∧ a = b
  | [], [], a, b, _, _, h => by
    have h : 41 :: a = 41 :: b := h
    injection h with _ h
    exact ⟨rfl, h⟩
  | [], [y], a, b, _, he, h => by
    unfold itsA at he
    rw [Bool.and_eq_true] at he
    have h : 41 :: a = (sh y ++ [44, 41]) ++ b := h
    rw [List.append_assoc] at h
    exact absurd h.symm (sh_no41 he.1 fun q e => by cases e)
  | [], y :: z :: r, a, b, _, he, h => by
    unfold itsA at he
    rw [Bool.and_eq_true] at he
    have h : 41 :: a = (sh y ++ 44 :: 32 :: restT (z :: r)) ++ b := h
    rw [List.append_assoc] at h
    exact absurd h.symm (sh_no41 he.1 fun q e => by cases e)
  | [x], [], a, b, hd, _, h => by
    unfold itsA at hd
    rw [Bool.and_eq_true] at hd
    have h : (sh x ++ [44, 41]) ++ a = 41 :: b := h
    rw [List.append_assoc] at h
    exact absurd h (sh_no41 hd.1 fun q e => by cases e)
  | x :: y :: r, [], a, b, hd, _, h => by
    unfold itsA at hd
    rw [Bool.and_eq_true] at hd
    have h : (sh x ++ 44 :: 32 :: restT (y :: r)) ++ a = 41 :: b := h
    rw [List.append_assoc] at h
    exact absurd h (sh_no41 hd.1 fun q e => by cases e)
  | [x], [y], a, b, hd, he, h => by
    unfold itsA at hd he
    rw [Bool.and_eq_true] at hd he
    have h : (sh x ++ [44, 41]) ++ a = (sh y ++ [44, 41]) ++ b := h
    rw [List.append_assoc, List.append_assoc] at h
    obtain ⟨h1, h2⟩ := sh_dec x y _ _ hd.1 he.1 (.inr ⟨44, _, rfl, .inr rfl⟩) (.inr ⟨44, _, rfl, .inr rfl⟩) h
    have h2 : 44 :: 41 :: a = 44 :: 41 :: b := h2
    injection h2 with _ h2
    injection h2 with _ h2
    exact ⟨by rw [h1], h2⟩
  | [x], y :: z :: r, a, b, hd, he, h => by
    unfold itsA at hd he
    rw [Bool.and_eq_true] at hd he
    have h : (sh x ++ [44, 41]) ++ a = (sh y ++ 44 :: 32 :: restT (z :: r)) ++ b := h
    rw [List.append_assoc, List.append_assoc] at h
    obtain ⟨h1, h2⟩ := sh_dec x y _ _ hd.1 he.1 (.inr ⟨44, _, rfl, .inr rfl⟩) (.inr ⟨44, _, rfl, .inr rfl⟩) h
    have h2 : 44 :: 41 :: a = 44 :: 32 :: (restT (z :: r) ++ b) := h2
    injection h2 with _ h2
    injection h2 with h2 _
    cases h2
  | x :: z :: r, [y], a, b, hd, he, h => by
    unfold itsA at hd he
    rw [Bool.and_eq_true] at hd he
    have h : (sh x ++ 44 :: 32 :: restT (z :: r)) ++ a = (sh y ++ [44, 41]) ++ b := h
    rw [List.append_assoc, List.append_assoc] at h
    obtain ⟨h1, h2⟩ := sh_dec x y _ _ hd.1 he.1 (.inr ⟨44, _, rfl, .inr rfl⟩) (.inr ⟨44, _, rfl, .inr rfl⟩) h
    have h2 : 44 :: 32 :: (restT (z :: r) ++ a) = 44 :: 41 :: b := h2
    injection h2 with _ h2
    injection h2 with h2 _
    cases h2
  | x :: x' :: r, y :: y' :: r', a, b, hd, he, h => by
    unfold itsA at hd he
    rw [Bool.and_eq_true] at hd he
    have h : (sh x ++ 44 :: 32 :: restT (x' :: r)) ++ a = (sh y ++ 44 :: 32 :: restT (y' :: r')) ++ b := h
    rw [List.append_assoc, List.append_assoc] at h
    obtain ⟨h1, h2⟩ := sh_dec x y _ _ hd.1 he.1 (.inr ⟨44, _, rfl, .inr rfl⟩) (.inr ⟨44, _, rfl, .inr rfl⟩) h
    have h2 : 44 :: 32 :: (restT (x' :: r) ++ a) = 44 :: 32 :: (restT (y' :: r') ++ b) := h2
    injection h2 with _ h2
    injection h2 with _ h2
    obtain ⟨h3, h4⟩ := rest_dec (x' :: r) (y' :: r') a b (by simp) (by simp) hd.2 he.2 h2
    exact ⟨by rw [h1, h3], h4⟩
theorem rest_dec : ∀ (ds es : List PyData) (a b : List Nat), ds ≠ [] → es ≠ [] → itsA ds = true → itsA es = true → restT ds ++ a = restT es ++ b → ds = es ∧ a = b
  | [], _, _, _, h, _, _, _, _ => absurd rfl h
  | _, [], _, _, _, h, _, _, _ => absurd rfl h
  | [x], [y], a, b, _, _, hd, he, h => by
    unfold itsA at hd he
    rw [Bool.and_eq_true] at hd he
    have h : (sh x ++ [41]) ++ a = (sh y ++ [41]) ++ b := h
    rw [List.append_assoc, List.append_assoc] at h
    obtain ⟨h1, h2⟩ := sh_dec x y _ _ hd.1 he.1 (.inr ⟨41, _, rfl, .inl rfl⟩) (.inr ⟨41, _, rfl, .inl rfl⟩) h
    have h2 : 41 :: a = 41 :: b := h2
    injection h2 with _ h2
    exact ⟨by rw [h1], h2⟩
  | [x], y :: z :: r, a, b, _, _, hd, he, h => by
    unfold itsA at hd he
    rw [Bool.and_eq_true] at hd he
    have h : (sh x ++ [41]) ++ a = (sh y ++ 44 :: 32 :: restT (z :: r)) ++ b := h
    rw [List.append_assoc, List.append_assoc] at h
    obtain ⟨h1, h2⟩ := sh_dec x y _ _ hd.1 he.1 (.inr ⟨41, _, rfl, .inl rfl⟩) (.inr ⟨44, _, rfl, .inr rfl⟩) h
    have h2 : 41 :: a = 44 :: 32 :: (restT (z :: r) ++ b) := h2
    injection h2 with h2 _
    cases h2
  | x :: z :: r, [y], a, b, _, _, hd, he, h => by
    unfold itsA at hd he
    rw [Bool.and_eq_true] at hd he
    have h : (sh x ++ 44 :: 32 :: restT (z :: r)) ++ a = (sh y ++ [41]) ++ b := h
    rw [List.append_assoc, List.append_assoc] at h
    obtain ⟨h1, h2⟩ := sh_dec x y _ _ hd.1 he.1 (.inr ⟨44, _, rfl, .inr rfl⟩) (.inr ⟨41, _, rfl, .inl rfl⟩) h
    have h2 : 44 :: 32 :: (restT (z :: r) ++ a) = 41 :: b := h2
    injection h2 with h2 _
    cases h2
  | x :: x' :: r, y :: y' :: r', a, b, _, _, hd, he, h => by
    unfold itsA at hd he
    rw [Bool.and_eq_true] at hd he
    have h : (sh x ++ 44 :: 32 :: restT (x' :: r)) ++ a = (sh y ++ 44 :: 32 :: restT (y' :: r')) ++ b := h
    rw [List.append_assoc, List.append_assoc] at h
    obtain ⟨h1, h2⟩ := sh_dec x y _ _ hd.1 he.1 (.inr ⟨44, _, rfl, .inr rfl⟩) (.inr ⟨44, _, rfl, .inr rfl⟩) h
    have h2 : 44 :: 32 :: (restT (x' :: r) ++ a) = 44 :: 32 :: (restT (y' :: r') ++ b) := h2
    injection h2 with _ h2
    injection h2 with _ h2
    obtain ⟨h3, h4⟩ := rest_dec (x' :: r) (y' :: r') a b (by simp) (by simp) hd.2 he.2 h2
    exact ⟨by rw [h1, h3], h4⟩
end
theorem shown_inj {d e : PyData} (hd : its d = true) (he : its e = true) (h : d.shown = e.shown) : d = e :=
  (sh_dec d e [] [] hd he (.inl rfl) (.inl rfl) (by unfold sh; rw [h])).1
end Ev
/-! Dt3: lots of trees: kept once, sorted (plain). -/
namespace Ev
open PySem PySem.Spec L2
/-! ### sorting tells the lot alone -/
theorem perm_sorted {α : Type} {le : α → α → Bool} : ∀ {l m : List α}, l.Perm m → l.Pairwise (fun x y => le x y = true) → m.Pairwise (fun x y => le x y = true) → (∀ x ∈ l, ∀ y ∈ l, le x y = true → le y x = true → x = y) → l = m
  | [], m, p, _, _, _ => (List.nil_perm.mp p).symm
  | x :: l, [], p, _, _, _ => by have := p.length_eq; simp at this
  | x :: l, y :: m, p, h1, h2, ha => by
    have hx : x ∈ y :: m := p.mem_iff.mp List.mem_cons_self
    have hy : y ∈ x :: l := p.mem_iff.mpr List.mem_cons_self
    have e : x = y := by
      rcases List.mem_cons.mp hx with e | hx'
      · exact e
      · rcases List.mem_cons.mp hy with e | hy'
        · exact e.symm
        · exact ha x List.mem_cons_self y hy ((List.pairwise_cons.mp h1).1 y hy') ((List.pairwise_cons.mp h2).1 x hx')
    subst e
    rw [perm_sorted (p.cons_inv) (List.pairwise_cons.mp h1).2 (List.pairwise_cons.mp h2).2 fun a ha' b hb' => ha a (List.mem_cons_of_mem _ ha') b (List.mem_cons_of_mem _ hb')]
theorem toks_inj {d e : PyData} (hd : itr d = true) (he : itr e = true) (ha : PySem.W.alike d e = true) (h : PySem.W.keyToks d = PySem.W.keyToks e) : d = e := by
  obtain ⟨h1, h2⟩ := PySem.W.toks_eqv d e ha
  cases q : PyData.eqv d e with
  | true => exact (eqv_itr d e hd he).mp q
  | false =>
    have a1 := h2 q [] [.inl 0]
    have a2 := h2 q [.inl 0] []
    rw [← h] at a1 a2
    rw [PySem.W.lex_pre] at a1 a2
    rw [show PyProof.Rows.lexLt PyProof.Rows.itemOrd [] [.inl 0] = true from rfl] at a1
    rw [show PyProof.Rows.lexLt PyProof.Rows.itemOrd [.inl 0] [] = false from rfl] at a2
    rw [← a1] at a2
    cases a2
theorem le_antisymm {d e : PyData} (hd : itr d = true) (he : itr e = true) (ha : PySem.W.alike d e = true) (h1 : PySem.W.dataLe false id d e = true) (h2 : PySem.W.dataLe false id e d = true) : d = e := by
  refine toks_inj hd he ha ?_
  rw [PySem.W.dataLe_eq] at h1 h2
  simp only [cond_false, id, Bool.not_eq_true'] at h1 h2
  exact (PyProof.Rows.listOrd PyProof.Rows.itemOrd).total _ _ h2 h1
theorem sortD_perm (l : List PyData) : (sortD l).Perm l := List.mergeSort_perm l _
theorem sortD_pair (l : List PyData) : (sortD l).Pairwise (fun x y => PySem.W.dataLe false id x y = true) := by
  have T := PySem.W.sortLe_total (PyProof.Rows.listOrd PyProof.Rows.itemOrd) false (fun b : PyData => PySem.W.keyToks (id b))
  exact List.pairwise_mergeSort (fun a b c => T.trans a b c) (fun a b => by have := T.total a b; simpa using this) l
/-- what is sorted hangs on what is in it alone -/
theorem sortD_eq {l m : List PyData} (p : l.Perm m) (hi : ∀ d ∈ l, itr d = true) (ha : ∀ d ∈ l, ∀ e ∈ l, PySem.W.alike d e = true) : sortD l = sortD m := by
  refine perm_sorted (((sortD_perm l).trans p).trans (sortD_perm m).symm) (sortD_pair l) (sortD_pair m) fun x hx y hy h1 h2 => ?_
  have hx' := (sortD_perm l).mem_iff.mp hx
  have hy' := (sortD_perm l).mem_iff.mp hy
  exact le_antisymm (hi x hx') (hi y hy') (ha x hx' y hy') h1 h2
/-! ### kept once -/
open Classical in
noncomputable def addU {α : Type} (acc : List α) (d : α) : List α := if d ∈ acc then acc else acc ++ [d]
noncomputable def dd {α : Type} (l : List α) : List α := l.foldl addU []
theorem addU_mem {α : Type} {acc : List α} {d x : α} : x ∈ addU acc d ↔ x ∈ acc ∨ x = d := by
  unfold addU
  split
  · rename_i h
    exact ⟨.inl, fun z => z.elim id fun e => by rw [e]; exact h⟩
  · simp
theorem addU_nodup {α : Type} {acc : List α} {d : α} (h : acc.Nodup) : (addU acc d).Nodup := by
  unfold addU
  split
  · exact h
  · rename_i hn
    rw [List.nodup_append]
    refine ⟨h, by simp, fun a ha b hb => ?_⟩
    rw [List.mem_singleton.mp hb]
    exact fun e => hn (by rw [← e]; exact ha)
theorem foldU_mem {α : Type} : ∀ {l acc : List α} {x : α}, x ∈ l.foldl addU acc ↔ x ∈ acc ∨ x ∈ l
  | [], acc, x => by simp
  | d :: l, acc, x => by
    rw [List.foldl_cons, foldU_mem, addU_mem, List.mem_cons]
    constructor
    · rintro ((h | h) | h)
      · exact .inl h
      · exact .inr (.inl h)
      · exact .inr (.inr h)
    · rintro (h | h | h)
      · exact .inl (.inl h)
      · exact .inl (.inr h)
      · exact .inr h
theorem foldU_nodup {α : Type} : ∀ {l acc : List α}, acc.Nodup → (l.foldl addU acc).Nodup
  | [], _, h => h
  | d :: l, _, h => foldU_nodup (l := l) (addU_nodup h)
theorem dd_mem {α : Type} {l : List α} {x : α} : x ∈ dd l ↔ x ∈ l := by unfold dd; rw [foldU_mem]; simp
theorem dd_nodup {α : Type} (l : List α) : (dd l).Nodup := foldU_nodup List.nodup_nil
theorem dd_perm {α : Type} {l m : List α} (h : ∀ x, x ∈ l ↔ x ∈ m) : (dd l).Perm (dd m) :=
  (List.perm_ext_iff_of_nodup (dd_nodup l) (dd_nodup m)).mpr fun x => by rw [dd_mem, dd_mem]; exact h x
theorem addU_len {α : Type} {acc : List α} {d : α} : (addU acc d).length ≤ acc.length + 1 := by
  unfold addU
  split <;> simp
theorem foldU_len {α : Type} : ∀ {l acc : List α}, (l.foldl addU acc).length ≤ acc.length + l.length
  | [], acc => by simp
  | d :: l, acc => by
    have h1 := foldU_len (l := l) (acc := addU acc d)
    have h2 := addU_len (acc := acc) (d := d)
    rw [List.foldl_cons, List.length_cons]
    omega
theorem dd_len {α : Type} (l : List α) : (dd l).length ≤ l.length := by have := foldU_len (l := l) (acc := []); simpa [dd] using this
/-- a dict with trees for keys: its keys -/
theorem dPut_keys {kvs : List (PyData × PyData)} {k v : PyData} (hk : itr k = true) (hs : ∀ p ∈ kvs, itr p.1 = true) : (dPut kvs k v).map (·.1) = addU (kvs.map (·.1)) k := by
  have hany : (kvs.any fun p => keq p.1 k) = true ↔ k ∈ kvs.map (·.1) := by
    rw [List.any_eq_true]
    constructor
    · rintro ⟨p, hp, e⟩
      exact List.mem_map.mpr ⟨p, hp, (keq_itr (hs p hp) hk).mp e⟩
    · intro h
      obtain ⟨p, hp, e⟩ := List.mem_map.mp h
      exact ⟨p, hp, (keq_itr (hs p hp) hk).mpr e⟩
  unfold dPut addU
  by_cases h : k ∈ kvs.map (·.1)
  · rw [if_pos (hany.mpr h), if_pos h, List.map_map]
    refine List.map_congr_left fun p hp => ?_
    show (if keq p.1 k = true then (p.1, v) else p).1 = p.1
    split <;> rfl
  · rw [if_neg (fun z => h (hany.mp z)), if_neg h, List.map_append]
    rfl
theorem dPut_mem {kvs : List (PyData × PyData)} {k v : PyData} {p : PyData × PyData} (h : p ∈ dPut kvs k v) : p ∈ kvs ∨ p.2 = v ∧ (p.1 = k ∨ ∃ q ∈ kvs, q.1 = p.1) := by
  unfold dPut at h
  split at h
  · obtain ⟨q, hq, e⟩ := List.mem_map.mp h
    split at e
    · subst e
      exact .inr ⟨rfl, .inr ⟨q, hq, rfl⟩⟩
    · subst e
      exact .inl hq
  · rcases List.mem_append.mp h with h | h
    · exact .inl h
    · rw [List.mem_singleton.mp h]
      exact .inr ⟨rfl, .inl rfl⟩
end Ev
/-! Ev29: dict comprehensions that keep a lot of trees (plain). -/
namespace Ev
open PySem PySem.Spec L2
section
variable {as : PyData → S → Option S} {own : List Nat} {ck cv : CE} {F : Fn} {ic : IC}
theorem dc_keys (E : List (Option Vx)) (src : Option Src) (f : PyData → PyData) (y : PyData) : ∀ (ds : List PyData) (acc : List (PyData × PyData)),
    (∀ d ∈ ds, ∃ s1 E1 E', as d ⟨E, src⟩ = some s1 ∧ ck F s1 = some (.d (f d), ⟨E1, src⟩) ∧ cv F ⟨E1, src⟩ = some (.d y, ⟨E', src⟩) ∧ wipeE E' own = E ∧ itr (f d) = true ∧ isKN (f d) = true) →
    (∀ p ∈ acc, itr p.1 = true ∧ isKN p.1 = true) → acc.length + ds.length ≤ sizeLine →
    ∀ E0, wipeE E0 own = E → ∃ kvs E2, dcL as own bYes ck cv F ds acc ⟨E0, src⟩ = some (kvs, ⟨E2, src⟩) ∧ wipeE E2 own = E ∧ kvs.map (·.1) = (ds.map f).foldl addU (acc.map (·.1))
  | [], acc, _, _, _, E0, he => ⟨acc, E0, rfl, he, rfl⟩
  | d :: ds, acc, st, ha, hz, E0, he => by
    obtain ⟨s1, E1, E', h1, h2, h3, h4, h5, h6⟩ := st d List.mem_cons_self
    rw [List.length_cons] at hz
    have hk : dKey acc (f d) = true := by
      unfold dKey
      rw [h6, show (acc.all fun p => isKN p.1) = true from List.all_eq_true.mpr fun p hp => (ha p hp).2]
      simp
    obtain ⟨kvs, E2, g1, g2, g3⟩ := dc_keys E src f y ds (dPut acc (f d) y) (fun d' hd => st d' (List.mem_cons_of_mem _ hd)) (fun p hp => by
      rcases dPut_mem hp with h | ⟨_, h | ⟨q, hq, e⟩⟩
      · exact ha p h
      · rw [h]; exact ⟨h5, h6⟩
      · rw [← e]; exact ha q hq) (by have := dPut_len (kvs := acc) (k := f d) (v := y); omega) E' h4
    refine ⟨kvs, E2, ?_, g2, by rw [g3, dPut_keys h5 fun p hp => (ha p hp).1]; rfl⟩
    show (match as d (wipeS own ⟨E0, src⟩) with | some s1 => _ | none => _) = _
    rw [show wipeS own ⟨E0, src⟩ = ⟨E, src⟩ by unfold wipeS; rw [he], h1]
    show (match ck F s1 with | some (.d k, s3) => _ | _ => none) = _
    rw [h2]
    show (match cv F ⟨E1, src⟩ with | some (.d y, s4) => _ | _ => none) = _
    rw [h3]
    show (if dKey acc (f d) && decide (acc.length < sizeLine) then _ else none) = _
    rw [hk, decide_eq_true (by omega), Bool.and_self, if_pos rfl]
    exact g1
theorem cdc_keys {ds : List PyData} {E1 : List (Option Vx)} {src : Option Src} {s : S} (hic : ic F s = some (ds, ⟨E1, src⟩, [])) (hl : ds.length ≤ sizeLine) (f : PyData → PyData) (y : PyData)
    (st : ∀ d ∈ ds, ∃ s1 E2 E', as d ⟨wipeE E1 own, src⟩ = some s1 ∧ ck F s1 = some (.d (f d), ⟨E2, src⟩) ∧ cv F ⟨E2, src⟩ = some (.d y, ⟨E', src⟩) ∧ wipeE E' own = wipeE E1 own ∧ itr (f d) = true ∧ isKN (f d) = true) :
    ∃ kvs, cDc own as ic bYes ck cv F s = some (.d (.dict kvs), ⟨E1, src⟩) ∧ kvs.map (·.1) = dd (ds.map f) := by
  obtain ⟨kvs, E2, g1, g2, g3⟩ := dc_keys (as := as) (own := own) (ck := ck) (cv := cv) (F := F) (wipeE E1 own) src f y ds [] st (fun p hp => nomatch hp) (by simpa using hl) E1 rfl
  refine ⟨kvs, ?_, g3⟩
  unfold cDc
  rw [hic]
  simp only [hl, if_true, g1]
  show some (Vx.d (.dict _), back [] (unwipeS own ⟨E1, src⟩ (wipeS own ⟨E2, src⟩))) = _
  unfold unwipeS wipeS back
  simp only [List.foldr_nil, g2, unwipe_wipe]
end
end Ev
/-! Ev30: the source of a law (plain). -/
namespace Ev
open PySem PySem.Spec L2
def srcB : CS :=
    (sSeq (sPar [1] [(cC (.int 11))])
    (sSeq (sFor (aName 2) (icAny (.e (cVar false 0))) (sPar [1] [(cBin fMod (.e (cNat fInt [(.e (cBin fAdd (.e (cBin fAdd (.e (cBin fMul (.e (cVar false 1)) (.e (cC (.int 69069))))) (.e (cBin fMul (.e (cVar false 2)) (.e (cC (.int 31))))))) (.e (cC (.int 5)))))])) (.e (cC (.int 2147483629))))]))
    (sRet (cSrc (cUn fRev (.e (cLc [2] (aName 2) (icAny (.e (cVar false 0))) bYes (cNat fAbs [(.e (cVar false 2))])))) (cC (.int 1)) (cVar false 1) (cC (.int 0))))))
theorem cells_ints : ∀ (l : List Int), cellsOf (l.map PyData.int) = some l
  | [] => rfl
  | x :: l => by
    show (cellsOf (l.map PyData.int)).map (x :: ·) = _
    rw [cells_ints l]; rfl
theorem src_run (F : Fn) (ns : List Int) (h : ns.length ≤ 63) : ∃ s', runDef ⟨1, 3, srcB⟩ F [.d (.list (ns.map PyData.int))] none = some (.src, some s') ∧ s'.cells.length ≤ 63 := by
  let R : Nat → S → Prop := fun _ s => ∃ (m : Int) (e2 : Option Vx), s = ⟨[some (.d (.list (ns.map PyData.int))), some (.d (.int m)), e2], none⟩
  obtain ⟨s', hfor, m, e2, rfl⟩ := sfor_ind (as := aName 2) (ic := icAny (.e (cVar false 0))) (F := F) (b := (sPar [1] [(cBin fMod (.e (cNat fInt [(.e (cBin fAdd (.e (cBin fAdd (.e (cBin fMul (.e (cVar false 1)) (.e (cC (.int 69069))))) (.e (cBin fMul (.e (cVar false 2)) (.e (cC (.int 31))))))) (.e (cC (.int 5)))))])) (.e (cC (.int 2147483629))))]))
    (s := ⟨[some (.d (.list (ns.map PyData.int))), some (.d (.int 11)), none], none⟩) (ds := ns.map PyData.int) (s0 := ⟨[some (.d (.list (ns.map PyData.int))), some (.d (.int 11)), none], none⟩) rfl R ⟨11, none, rfl⟩ (by
      rintro j d s hj ⟨m, e2, rfl⟩
      obtain ⟨c, _, rfl⟩ := List.mem_map.mp (List.mem_of_getElem? hj)
      exact ⟨⟨[some (.d (.list (ns.map PyData.int))), some (.d (.int m)), some (.d (.int c))], none⟩, _, rfl, spar1 (cbin (cnat1 (cbin (cbin (cbin rfl rfl (mul_sm _ _ (by decide))) (cbin rfl rfl (mul_sm _ _ (by decide))) rfl) rfl rfl) rfl) rfl (mod_ok _ _ (by decide))), _, _, rfl⟩)
  have hlc := clc_map (own := [2]) (as := aName 2) (ic := icAny (.e (cVar false 0))) (c := cNat fAbs [(.e (cVar false 2))]) (F := F) (ds := ns.map PyData.int) (E1 := [some (.d (.list (ns.map PyData.int))), some (.d (.int m)), e2]) (src := none) (s := ⟨[some (.d (.list (ns.map PyData.int))), some (.d (.int m)), e2], none⟩) rfl (by rw [List.length_map, sizeLine_eq]; omega)
    (fun d => (fAbs [d]).getD .none) (by
      intro d hd
      obtain ⟨c, _, rfl⟩ := List.mem_map.mp hd
      exact ⟨⟨[some (.d (.list (ns.map PyData.int))), some (.d (.int m)), some (.d (.int c))], none⟩, [some (.d (.list (ns.map PyData.int))), some (.d (.int m)), some (.d (.int c))], rfl, rfl, rfl⟩)
  have hm : (ns.map PyData.int).map (fun d => (fAbs [d]).getD .none) = (ns.map fun i => if i < 0 then -i else i).map PyData.int := by
    rw [List.map_map, List.map_map]; rfl
  rw [hm] at hlc
  refine ⟨⟨(ns.map fun i => if i < 0 then -i else i).reverse, 1, m, 0⟩, ?_, by simpa using h⟩
  refine run_ret (s' := ⟨[some (.d (.list (ns.map PyData.int))), some (.d (.int m)), e2], some ⟨(ns.map fun i => if i < 0 then -i else i).reverse, 1, m, 0⟩⟩) rfl ?_
  show srcB F ⟨[some (.d (.list (ns.map PyData.int))), none, none], none⟩ = _
  unfold srcB
  refine e_seq (spar1 (x := .d (.int 11)) rfl) (e_seq hfor (sret ?_))
  have hr : cUn fRev (.e (cLc [2] (aName 2) (icAny (.e (cVar false 0))) bYes (cNat fAbs [(.e (cVar false 2))]))) F ⟨[some (.d (.list (ns.map PyData.int))), some (.d (.int m)), e2], none⟩ = some (.d (.list ((ns.map fun i => if i < 0 then -i else i).reverse.map PyData.int)), ⟨[some (.d (.list (ns.map PyData.int))), some (.d (.int m)), e2], none⟩) := by
    unfold cUn
    simp only [Opd.ev, hlc]
    show some (Vx.d (.list ((ns.map fun i => if i < 0 then -i else i).map PyData.int).reverse), _) = _
    rw [List.map_reverse]
    rfl
  unfold cSrc
  simp only [hr, cells_ints]
  rfl
end Ev
/-! Ev31: x.update(e), x a dict of one's own. -/
namespace Ev
open PySem PySem.Spec L2 PyProof.Rows

mutual
/-- the hash of data without texts -/
def dHash : PyData → Option Int
  | .none => some (reduceHash 0xFCA86420)
  | .bool b => some (hashInt (if b = true then 1 else 0))
  | .int i => some (hashInt i)
  | .tuple ds => (dHashes ds).map fun l => reduceHash (Builtin.Tuple.tupleHashOf l)
  | _ => none
def dHashes : List PyData → Option (List Int)
  | [] => some []
  | d :: ds => match dHash d, dHashes ds with
    | some k, some ks => some (k :: ks)
    | _, _ => none
end
mutual
theorem dHash_is (w : World) : ∀ {d : PyData} {h : Int} {k : NestedKey}, dHash d = some h → keyOf d = some k → k.hash w = h
  | .none, h, k, e, e' => by cases e; cases e'; rfl
  | .bool b, h, k, e, e' => by cases e; cases e'; rfl
  | .int i, h, k, e, e' => by cases e; cases e'; rfl
  | .tuple ds, h, k, e, e' => by
    unfold dHash at e
    unfold keyOf at e'
    rw [Option.map_eq_some_iff] at e e'
    obtain ⟨l, e1, rfl⟩ := e
    obtain ⟨ks, e2, rfl⟩ := e'
    show reduceHash (Builtin.Tuple.tupleHashOf (NestedKey.hashes w ks)) = _
    rw [dHashes_is w e1 e2]
  | .str _, h, k, e, _ => by cases e
  | .list _, h, k, e, _ => by cases e
  | .dict _, h, k, e, _ => by cases e
theorem dHashes_is (w : World) : ∀ {ds : List PyData} {l : List Int} {ks : List NestedKey}, dHashes ds = some l → keysOf ds = some ks → NestedKey.hashes w ks = l
  | [], l, ks, e, e' => by cases e; cases e'; rfl
  | d :: ds, l, ks, e, e' => by
    unfold dHashes at e
    unfold keysOf at e'
    split at e
    · rename_i h hs q1 q2
      cases e
      split at e'
      · rename_i k ks q3 q4
        cases e'
        show NestedKey.hash w k :: NestedKey.hashes w ks = _
        rw [dHash_is w q1 q3, dHashes_is w q2 q4]
      · cases e'
    · cases e
end
/-- no two keys hash alike -/
def apartD (kvs : List (PyData × PyData)) : Bool := match dHashes (kvs.map (·.1)) with
  | some l => decide l.Nodup
  | none => false
def updOk (kvs more : List (PyData × PyData)) : Bool := decide (kvs.length + more.length ≤ sizeLine) &&
  (((kvs.all fun p => isK1 p.1) && (more.all fun p => isK1 p.1)) || ((kvs.all fun p => isKN p.1) && (more.all fun p => isKN p.1) && (!kvs.isEmpty || apartD more)))
theorem keysOf_map : ∀ {xs : List (NestedKey × Addr × V)} {kvs : List (PyData × PyData)}, xs.map (fun x => some x.1) = kvs.map (fun p => keyOf p.1) → keysOf (kvs.map (·.1)) = some (xs.map (·.1))
  | [], [], _ => rfl
  | x :: xs, p :: kvs, e => by
    rw [List.map_cons, List.map_cons] at e
    obtain ⟨e1, e2⟩ := List.cons.inj e
    rw [List.map_cons]
    unfold keysOf
    rw [← e1, keysOf_map e2]
    rfl
  | [], _ :: _, e => by simp at e
  | _ :: _, [], e => by simp at e
theorem hashes_map (w : World) : ∀ ks : List NestedKey, NestedKey.hashes w ks = ks.map (NestedKey.hash w)
  | [] => rfl
  | k :: ks => by rw [List.map_cons, ← hashes_map w ks]; rfl
theorem kn_fst : ∀ {xs : List (NestedKey × Addr × V)} {ys : List (NestedKey × Addr × Value)}, KN xs ys → xs.map (·.1) = ys.map (·.1)
  | _, _, .nil => rfl
  | _, _, .cons h t => by rw [List.map_cons, List.map_cons, h.1, kn_fst t]
section
variable {X : Cx} {pins : List (Addr × Obj)} {σ : L2.St} {H : Hp} {s : Shared} {N : Addr → Prop} {a : Addr} {kvs : List (PyData × PyData)} {v : V} {u : Value} {k : PyData} {A : Around} {E : Value → Shared → Prop}
theorem D_update {b : Addr} {more : List (PyData × PyData)} {Q : Value → Shared → Prop} {o : HO} (hu : A.units + 20 < cLine) (I : Inv X pins σ H s) (h : DAt X.kk N H a kvs) (e : H a = some o) (ho : Plain0 o) (hp : N a) (hb : DAt X.kk N H b more) (hab : a ≠ b) (hz : updOk kvs more = true)
    (q : ∀ o' s', Inv X pins σ (upd H a o') s' → DAt X.kk N (upd H a o') a (dMerge kvs more) → Q .none s') : wpAny (model X.prog X.w) A (call (.builtin "dict.update") [.ref a, .ref b]) Q E s := by
  unfold updOk at hz
  rw [Bool.and_eq_true, decide_eq_true_eq, Bool.or_eq_true, Bool.and_eq_true, Bool.and_eq_true, Bool.and_eq_true] at hz
  obtain ⟨hl, ⟨h1, h2⟩ | ⟨⟨h1, h2⟩, h3⟩⟩ := hz
  · obtain ⟨ks, vs, as⟩ := h.asK I h1
    obtain ⟨ms, rs, bs⟩ := hb.asK I h2
    have z1 := as.rel.length
    have z2 := bs.rel.length
    rw [List.length_map] at z1 z2
    refine call_meetsIn F.slot_dict_update as.dict.typeIs F.entry_dict_update (F.args_dict_update_2 _ _) (meets_dict_update (mixKind X.prog X.w) a b hab bs.sys) ⟨vs, rs, as.dict, bs.dict, by rw [← as.kv.length, ← bs.kv.length]; omega, fun h' dd' _ hs => ?_⟩
    have he : ∃ q, h'.get? a = some q := let ⟨q, _, _, hq, _⟩ := dd'; ⟨q, hq⟩
    obtain ⟨qo, hq⟩ := he
    have hm := length_mergeK ms ks
    refine q (.ext (PhiK X.kk a qo (mergeK ks ms))) _ ?_ ⟨_, _, upd_same, .dK, Paired.mapP (mergeK_rel bs.rel as.rel) fun p q h => ⟨h.1.upd hp e ho, h.2.upd hp e ho⟩⟩
    refine d_write (t' := s.toks) I (mut_plain e ho) hs ⟨qo, hq⟩ (phiK_ok ⟨by omega, as.sys, hq, _, KV.merge bs.kv as.kv, dd'⟩)
  · obtain ⟨xs, ys, as⟩ := h.asN I h1
    obtain ⟨ms, rs, bs⟩ := hb.asN I h2
    have z1 := as.rel.length
    have z2 := bs.rel.length
    rw [List.length_map] at z1 z2
    refine call_update_dictH (knd := nestedKind X.prog X.w) (show A.in1.units + 8 < cLine from by show A.units + 1 + 8 < cLine; omega) hab bs.sys as.dict bs.dict ?_ (by rw [← as.kn.length, ← bs.kn.length]; omega) fun h' dd' _ hs => ?_
    · rw [Bool.or_eq_true] at h3
      rcases h3 with h3 | h3
      · refine .inl fun z => ?_
        subst z
        have x0 : xs = [] := paired_nil' as.kn
        subst x0
        have k0 : kvs = [] := paired_nil as.rel
        subst k0
        cases h3
      · refine .inr ⟨fun y hy => ?_, ?_⟩
        · exact nestedKind_stays.tuple ((let ⟨_, _, _, _, _, _, _, his, _⟩ := bs.dict; his) y hy)
        · unfold apartD at h3
          split at h3
          · rename_i l el
            have e1 := dHashes_is X.w el (keysOf_map bs.keys)
            rw [hashes_map, kn_fst bs.kn] at e1
            have : (rs.map fun x => (nestedKind X.prog X.w).hash x.1) = l := by
              rw [← e1, List.map_map]; rfl
            rw [this]
            simpa using h3
          · cases h3
    · obtain ⟨qo, es, ep, hq, g2, g3, g4, _, g5⟩ := dd'
      have hm := mergeN_len ms xs
      obtain ⟨m1, m2⟩ := mergeN_rel (X := X) bs.rel bs.keys as.rel as.keys
      refine q (.ext (PhiN X.kk a qo (mergeN xs ms))) _ ?_ ⟨_, _, upd_same, .dN m2, Paired.mapP m1 fun p q h => ⟨h.1.upd hp e ho, h.2.upd hp e ho⟩⟩
      refine d_write (t' := s.toks) I (mut_plain e ho) hs ⟨qo, hq⟩ (phiN_ok ⟨by omega, as.sys, mergeN_deep bs.deep as.deep, hq, _, mergeN_kn bs.kn as.kn, es, ep, g2, g3, g4, g5⟩)
end

section
variable {X : Cx} {M : Nat → Bool} {F : Fn} {a b c e : Expr} {es : List Expr} {pos p apos cpos : Pos} {x : Str} {i : Nat}
/-- x.update(e) -/
def cUpd (i : Nat) (c : CE) : CE := fun F s => match s.env[i]? with
  | some (some (.d (.dict _))) => match c F s with
    | some (.d (.dict more), s1) => match s1.env[i]? with
      | some (some (.d (.dict kvs))) => if updOk kvs more then some (.d .none, { s1 with env := s1.env.set i (some (.d (.dict (dMerge kvs more)))) }) else none
      | _ => none
    | _ => none
  | _ => none
theorem sx_update {ce : CE} {fr : Bool} (hu : X.A.units + 20 < cLine) (hN : X.N[i]? = some x) (hv : Vis X.env.scope x) (hm : M i = true) (ha : PE X e (TX X.kk F M fr ce)) (hd : (x == ("__debug__" : Str)) = false := by decide) (hcd : (x == ("__classdict__" : Str)) = false := by decide)
    (hbase : attributeBase (.Name x p) "update" X.env (eval (.Name x p) X.env) = eval (.Name x p) X.env := by rfl)
    (hfew : ((backTo cpos (starEach [e] X.env)).all (fun x => !x.1) && (backToKw cpos (keywordEach [] X.env)).all (fun x => x.1.isSome) && decide (([e] : List Expr).length + ([] : List Keyword).length + (if ([] : List Keyword).isEmpty then 0 else 1) < 30)) = true := by rfl)
    (hline : (apos.endLine == cpos.line) = true := by rfl) (hs : starEach [e] X.env = (false, eval e X.env) :: starEach [] X.env := by rfl) (hpl : (backTo cpos (starEach [] X.env)).any (·.1) = false := by rfl) :
    PE X (.Call (.Attribute (.Name x p) "update" apos) [e] [] cpos) (TX X.kk F M true (cUpd i ce)) := by
  refine ⟨fun pins s σ H Q I ⟨g, st, y, s', r, ev, q⟩ => ?_⟩
  have pv := pe_var (X := X) (pos := p) hN hv hd hcd
  have pa := pa_cons (es := []) ha pa_nil hs
  unfold cUpd at ev
  split at ev
  · rename_i kvs0 e0
    split at ev
    · rename_i more s1 e1
      split at ev
      · rename_i kvs e2
        split at ev
        · rename_i hz
          cases ev
          obtain ⟨l0, ev0, hp0, t0, _⟩ := r.owned e0 ⟨hm, rfl⟩
          refine wpAny_Call_method_late hbase hfew hline rfl (thn (pv.run pins s σ H (fun w H2 => w = .ref l0 ∧ H2 = H) I ⟨_, ev0, rfl, rfl⟩) fun v sh1 ⟨w, H2, I2, rv, ew, eH⟩ => ?_)
          subst ew
          rw [eH] at I2
          cases rv
          obtain ⟨o, es, ep, ents, eo, _, P, r2, hl⟩ := t0.dat.pin I2
          have raw := P.at' _ _ _ _ _ I2 eo
          refine ⟨"dict", "dict.update", PySem.F.plainAttrs_dict, PySem.F.slot_dict_update, PySem.F.type_dict_update, raw.typeIs, fun a ea => ?_, ?_⟩
          · cases ea
            obtain ⟨ob, h1, h2, _⟩ := raw
            exact ⟨ob, h1, h2.2.1⟩
          have hA := pa.run cpos pins sh1 σ H (fun vs H' => ∃ v g1, vs = [v] ∧ Rel X.kk M g1 s1 σ H' ∧ Evo g g1 H H' ∧ RpX X.kk g1 H' v (.d (.dict more))) I2 ⟨g, st, .d (.dict more), s1, r, e1, fun v g1 H1 r1 v1 rp _ => ⟨v, g1, rfl, r1, v1, rp⟩⟩
          rw [hs] at hA ⊢
          refine Calls.callWith_builtin (by show (false || (backTo cpos (starEach [] X.env)).any (·.1)) = false; rw [hpl]; rfl) (Calls.evalArgs_plain ?_)
          refine thn hA fun us sh2 ⟨vs, H3, I3, r3, v, g1, evs, r1, v1, rp⟩ => ?_
          subst evs
          obtain ⟨u, rfl, ru⟩ := vals1 r3
          obtain ⟨l, ev1, hp, t, w⟩ := r1.owned e2 ⟨hm, rfl⟩
          rw [ev0] at ev1
          cases ev1
          obtain ⟨o1, eo1, ho1⟩ := t.plain
          have rp : Rp X.kk g1.N H3 v (.dict more) := rp
          obtain ⟨b, rfl, hb⟩ := RpV.dct (.inl rp)
          cases ru
          have hab : l0 ≠ b := by
            rintro rfl
            generalize hd : PyData.dict more = d at rp
            cases rp with
            | dct _ _ hn _ _ => exact hn (.inr ⟨i, hp⟩)
            | _ => cases hd
          refine D_update hu I3 t.dat eo1 ho1 (.inr ⟨i, hp⟩) hb hab hz fun o' sh4 I4 dat => ?_
          obtain ⟨r4, v4⟩ := w o' _ dat.top
          exact ⟨.non, _, I4, rfl, q .non g1 _ r4 (v1.trans v4) .non fun _ d' e' h => by cases e'; cases h⟩
        · cases ev
      · cases ev
    · cases ev
  · cases ev
end
end Ev
/-! Ev32: a, b, .. = a list or a tuple. -/
namespace Ev
open PySem PySem.Spec L2
section
variable {X : Cx} {M : Nat → Bool} {F : Fn} {es : List Expr} {pos : Pos}
def aUnp (n : Nat) (a : List PyData → S → Option S) : PyData → S → Option S := fun d s => match d with
  | .tuple ds => if ds.length = n then a ds s else none
  | .list ds => if ds.length = n then a ds s else none
  | _ => none
theorem tg_unp {k n : Nat} {ts : List Nat} {t : List PyData → S → Option S} (hc : X.calm = true) (h : PGs X es (TGXs X.kk M ts t)) (hn : (assignEach es X.env).length = n := by rfl) (hst : (assignEach es X.env).findIdx? (·.1) = none := by rfl) : PG X (.Tuple es k pos) (TGX X.kk M ts (aUnp n t)) := by
  refine ⟨fun pins s σ H v u Q I r ⟨g, st, d, s', r0, rp, e, q⟩ => ?_⟩
  unfold aUnp at e
  split at e
  · rename_i ds
    split at e
    · rename_i hl
      refine (pg_tup hc h hn hst).run pins s σ H v u Q I r ?_
      cases rp with
      | tup h1 h2 => exact ⟨_, _, rfl, h1, by rw [h2.length]; exact hl, g, st, ds, s', r0, h2, e, q⟩
    · cases e
  · rename_i ds
    split at e
    · rename_i hl
      refine (pg_unl hc h hn hst).run pins s σ H v u Q I r ?_
      cases rp with
      | lst h1 _ h2 => exact ⟨_, _, rfl, Lr.sq (.inl h1), by rw [h2.length]; exact hl, g, st, ds, s', r0, h2, e, q⟩
      | lstK h1 h3 h4 h2 => exact ⟨_, _, rfl, Lr.sq (.inr ⟨_, _, h1, h3, h4⟩), by rw [h2.length]; exact hl, g, st, ds, s', r0, h2, e, q⟩
    · cases e
  · cases e
end
end Ev
/-! Ev33: dicts merged, lots of trees (plain). -/
namespace Ev
open PySem PySem.Spec L2
/-- no two of l hash alike -/
def HI (l : List PyData) : Prop := ∀ d ∈ l, ∃ h, dHash d = some h ∧ ∀ e ∈ l, dHash e = some h → e = d
theorem HI.mono {l m : List PyData} (h : HI l) (hm : ∀ x ∈ m, x ∈ l) : HI m := fun d hd => by
  obtain ⟨k, h1, h2⟩ := h d (hm d hd)
  exact ⟨k, h1, fun e he => h2 e (hm e he)⟩
theorem HI.hashes : ∀ {l : List PyData}, HI l → l.Nodup → ∃ hs, dHashes l = some hs ∧ hs.Nodup ∧ ∀ x ∈ hs, ∃ d ∈ l, dHash d = some x
  | [], _, _ => ⟨[], rfl, List.nodup_nil, fun _ h => nomatch h⟩
  | d :: l, h, hn => by
    rw [List.nodup_cons] at hn
    obtain ⟨hs, h1, h2, h3⟩ := HI.hashes (h.mono fun x hx => List.mem_cons_of_mem _ hx) hn.2
    obtain ⟨k, h4, h5⟩ := h d List.mem_cons_self
    refine ⟨k :: hs, by unfold dHashes; rw [h4, h1], List.nodup_cons.mpr ⟨fun hk => ?_, h2⟩, fun x hx => ?_⟩
    · obtain ⟨e, he, e1⟩ := h3 k hk
      exact hn.1 ((h5 e (List.mem_cons_of_mem _ he) e1) ▸ he)
    · rcases List.mem_cons.mp hx with rfl | hx
      · exact ⟨d, List.mem_cons_self, h4⟩
      · obtain ⟨e, he, e1⟩ := h3 x hx
        exact ⟨e, List.mem_cons_of_mem _ he, e1⟩
theorem apartD_of {kvs : List (PyData × PyData)} (h : HI (kvs.map (·.1))) (hn : (kvs.map (·.1)).Nodup) : apartD kvs = true := by
  obtain ⟨hs, h1, h2, _⟩ := h.hashes hn
  unfold apartD
  rw [h1]
  exact decide_eq_true h2
theorem dMerge_keys : ∀ {more kvs : List (PyData × PyData)}, (∀ p ∈ more, itr p.1 = true) → (∀ p ∈ kvs, itr p.1 = true) → (dMerge kvs more).map (·.1) = (more.map (·.1)).foldl addU (kvs.map (·.1))
  | [], _, _, _ => rfl
  | p :: more, kvs, hm, hk => by
    show (dMerge (dPut kvs p.1 p.2) more).map (·.1) = _
    rw [dMerge_keys (fun q hq => hm q (List.mem_cons_of_mem _ hq)) fun q hq => ?_, dPut_keys (hm p List.mem_cons_self) hk]
    · rfl
    · rcases dPut_mem hq with h | ⟨_, h | ⟨r, hr, e⟩⟩
      · exact hk q h
      · rw [h]; exact hm p List.mem_cons_self
      · rw [← e]; exact hk r hr
theorem foldU_nodup' {α : Type} {l acc : List α} (h : acc.Nodup) : (l.foldl addU acc).Nodup := foldU_nodup h
theorem cupd {i : Nat} {c : CE} {F : Fn} {s s1 : S} {kvs0 more kvs : List (PyData × PyData)} (h0 : s.env[i]? = some (some (.d (.dict kvs0)))) (h1 : c F s = some (.d (.dict more), s1)) (h2 : s1.env[i]? = some (some (.d (.dict kvs)))) (hz : updOk kvs more = true) :
    cUpd i c F s = some (.d .none, { s1 with env := s1.env.set i (some (.d (.dict (dMerge kvs more)))) }) := by
  unfold cUpd
  rw [h0]
  simp only [h1, h2, hz, if_true]
theorem sexpr {c : CE} {F : Fn} {s s1 : S} {x : Vx} (h : c F s = some (x, s1)) : sExpr c F s = some (.nx, s1) := by
  unfold sExpr
  rw [h]
end Ev
/-! Ev34: list(range(e)). -/
namespace Ev
open PySem PySem.Spec L2
section
variable {X : Cx} {M : Nat → Bool} {F : Fn} {a : Expr} {pos p p2 pos2 : Pos}
def cLRng (o : Opd) : CE := fun F s => match o.ev F s with
  | some (.int j, s', l) => if 0 ≤ j ∧ j ≤ 16777216 then some (.d (.list (intsFrom 0 j.toNat)), back l s') else none
  | _ => none
theorem rp_rgV {K : KK} {N : Addr → Prop} {H : Hp} (j : Int) : RpA K N H (rgV 0 j) (intsFrom 0 j.toNat) := by
  unfold rgV intsFrom
  rw [Int.sub_zero]
  generalize List.range j.toNat = l
  induction l with
  | nil => exact .nil
  | cons x l ih => exact .cons (.int _) ih
theorem sx_lrng {o : Opd} (hc : X.calm = true) (hgl : Gl X "list") (hml : X.mg "list" = none) (hg : Gl X "range") (hm : X.mg "range" = none) (ha : PE X a (TP X.kk F M o))
    (na : starEach [a] X.env = (false, eval a X.env) :: starEach [] X.env := by rfl) (na2 : starEach [Expr.Call (.Name "range" p2) [a] [] pos2] X.env = (false, eval (.Call (.Name "range" p2) [a] [] pos2) X.env) :: starEach [] X.env := by rfl) :
    PE X (.Call (.Name "list" p) [.Call (.Name "range" p2) [a] [] pos2] [] pos) (TX X.kk F M true (cLRng o)) :=
  peI (pe_listRg hc hgl hml (prg_1 hg hm ha na) na2) fun σ H Q ⟨g, s, y, s', r, ev, q⟩ => by
    unfold cLRng at ev
    split at ev
    · rename_i j s1 l e1
      split at ev
      · rename_i hj
        cases ev
        refine ⟨g, s, _, s1, l, r, e1, fun v g1 H1 r1 v1 rp L => ?_⟩
        refine ⟨j, rp.v.int, ⟨by omega, by omega, by omega, by omega, by omega⟩, fun q1 hq => ?_⟩
        exact vr_lst r1.ex (rp_rgV j) (fin_op r1 L v1 q) hq
      · cases ev
    · cases ev
end
end Ev
/-! Ev35: f(). -/
namespace Ev
open PySem PySem.Spec L2
section
variable {X : Cx} {M : Nat → Bool} {F : Fn} {pos p : Pos} {x : Str} {k n : Nat} {nm : String}
theorem sx_call0 (C : Callee X.prog X.w X.K X.mg X.base F k nm x n) (hr : Room k X.A) (hgd : X.A.guards = some []) (hg : Gl X x) (hlen : 0 = n) (hdb : (x == ("__debug__" : Str)) = false := by decide) :
    PE X (.Call (.Name x p) [] [] pos) (TX X.kk F M false (cCall nm [])) := by
  obtain ⟨f, fd, ps, D, hm, hk, hb⟩ := C
  refine ⟨fun pins s σ H Q I h => ?_⟩
  obtain ⟨g, st, xs, s1, r, e1, q⟩ := tx_call (cs := []) hlen h
  cases e1
  refine wpAny_Call_Name_kw (ld_glob I hg hm ?_ hdb)
  exact PySem.W.callWith_K0 I.kIn hk (run_g D hr hgd hb I .nil (q [] g H r Evo.refl .nil))
end
end Ev
/-! Ev36: x[k] += e, x a list of whole numbers of one's own. -/
namespace Ev
open PySem PySem.Spec L2
section
variable {X : Cx} {M : Nat → Bool} {F : Fn} {b e : Expr} {pos p tpos : Pos} {x : Str} {i : Nat}
def rGetN : V → V → Hp → VK → Prop := fun o i H Q => ∃ p xs, ∃ k : Nat, ∃ v, o = .ref p ∧ i = .int (k : Int) ∧ H p = some (.lst xs) ∧ xs[k]? = some v ∧ Q v H
theorem vals_at : ∀ {xs : List V} {us : List Value} {k : Nat} {v : V}, Vals xs us → xs[k]? = some v → ∃ u, us[k]? = some u ∧ RelV v u
  | _, _, _, _, .nil, h => by simp at h
  | _, _, 0, _, .cons r _, h => by simp at h; subst h; exact ⟨_, rfl, r⟩
  | _, _, k + 1, v, .cons _ t, h => by
    obtain ⟨u, h1, h2⟩ := vals_at (k := k) (v := v) t (by simpa using h)
    exact ⟨u, by simpa using h1, h2⟩
theorem get_listN : PGet X rGetN := by
  intro pins s σ H o i ov iv Q I ro ri h
  obtain ⟨p, xs, k, v, rfl, rfl, hp, hk, q⟩ := h
  cases ro
  obtain ⟨t, rfl⟩ := ri
  obtain ⟨its, n, r, ho, hz⟩ := I.lst hp
  obtain ⟨u, hu, ru⟩ := vals_at r hk
  have hl : k < xs.length := (List.getElem?_eq_some_iff.mp hk).1
  have hi : s.heap.IsList p its.toArray := ⟨_, ho, rfl, n, rfl⟩
  rw [sizeLine_eq] at hz
  exact wpAny_getItem_list hi (by omega) (by omega) (by rw [Int.toNat_natCast, List.getElem?_toArray]; exact hu) ⟨v, H, I, ru, q⟩
def sAugAdd (i : Nat) (ck ce : CE) : CS := fun F s => match s.env[i]? with
  | some (some (.d (.list _))) => match ck F s with
    | some (.d (.int k), s1) => match s1.env[i]? with
      | some (some (.d (.list ds))) => if 0 ≤ k then match ds[k.toNat]? with
        | some (.int a) => match ce F s1 with
          | some (.d (.int b), s2) => match s2.env[i]? with
            | some (some (.d (.list ds2))) => match ixN ds2.length k with
              | some j => some (.nx, { s2 with env := s2.env.set i (some (.d (.list (ds2.set j (.int (a + b)))))) })
              | none => none
            | _ => none
          | _ => none
        | _ => none
        else none
      | _ => none
    | _ => none
  | _ => none
theorem ss_augAdd {ck ce : CE} {f1 f2 : Bool} (hN : X.N[i]? = some x) (hv : Vis X.env.scope x) (hm : M i = true) (hk : PE X b (TX X.kk F M f1 ck)) (he : PE X e (TX X.kk F M f2 ce)) (hd : (x == ("__debug__" : Str)) = false := by decide) (hcd : (x == ("__classdict__" : Str)) = false := by decide)
    (ha : ∀ ov iv new, augStore b ov iv new = (do holding [new, ov, iv] (setItem ov iv new); release [new, ov, iv] []; pure .next) := by intros; rfl) :
    PS X (.AugAssign (.Subscript (.Name x p) b tpos) .Add e pos) (TSt X.kk F M (sAugAdd i ck ce)) :=
  psI (ps_augS (pe_var hN hv hd hcd) hk get_listN he ip_add set_list ha) fun D σ H ⟨g, s, f, s', r, ev, q⟩ => by
    unfold sAugAdd at ev
    split at ev
    · rename_i ds0 e0
      split at ev
      · rename_i k s1 e1
        split at ev
        · rename_i ds e2
          split at ev
          · rename_i hk0
            split at ev
            · rename_i a e3
              split at ev
              · rename_i bb s2 e4
                split at ev
                · rename_i ds2 e5
                  split at ev
                  · rename_i j e6
                    cases ev
                    obtain ⟨l0, xs0, ev0, hp0, hl0, ra0, _⟩ := slot_list r e0 hm
                    refine ⟨_, ev0, g, s, .d (.int k), s1, r, e1, fun w g1 H1 r1 v1 rp1 _ => ?_⟩
                    obtain ⟨l, xs, ev1, hp, hl, ra, ww⟩ := slot_list r1 e2 hm
                    rw [ev0] at ev1
                    cases ev1
                    have ek : w = .int k := by cases rp1; rfl
                    subst ek
                    obtain ⟨v, hv1, hv2⟩ := ra.get e3
                    have ev : v = .int a := by cases hv2; rfl
                    subst ev
                    refine ⟨l0, xs, k.toNat, .int a, rfl, by rw [Int.toNat_of_nonneg hk0], hl, hv1, ?_⟩
                    refine ⟨g1, s1, .d (.int bb), s2, r1, e4, fun y g2 H2 r2 v2 rp2 _ => ?_⟩
                    have ey : y = .int bb := by cases rp2; rfl
                    subst ey
                    refine ⟨a, bb, rfl, rfl, ?_⟩
                    obtain ⟨l2, xs2, ev2, hp2, hl2, ra2, ww2⟩ := slot_list r2 e5 hm
                    rw [ev0] at ev2
                    cases ev2
                    have t := top_list (.inr ⟨i, hp2⟩) hl2 trivial (ra2.set (.int (a + bb)) j)
                    obtain ⟨r3, v3⟩ := ww2 (.lst (xs2.set j (.int (a + bb)))) _ t
                    exact ⟨l0, xs2, k, j, rfl, rfl, hl2, by rw [ra2.length]; exact e6, q σ g2 _ r3 ((v1.trans v2).trans v3)⟩
                  · cases ev
                · cases ev
              · cases ev
            · cases ev
          · cases ev
        · cases ev
      · cases ev
    · cases ev
end
end Ev
/-! Ev37: the other drawing defs of laws (plain). -/
namespace Ev
open PySem PySem.Spec L2
def pickB2 : CS :=
    (sSeq (sIf (bOf (cBin fLt (.e (cVar false 1)) (.e (cC (.int 2))))) (sRet (cC (.int 0))) sPass)
    (sSeq (sPar [2] [(cCells 0)])
    (sSeq (sWhile (bAnd (bOf (cBin fLt (.e (cSF .left 0)) (.e (cC (.int 2))))) (bOf (cBin fGt (.e (cLenS (cVar false 2))) (.e (cC (.int 0)))))) (sSF .left 0 (cPopS (cVar false 2))))
    (sSeq (sPar [3] [(cSF .left 0)])
    (sSeq (sIf (bOf (cBin fGt (.e (cVar false 3)) (.e (cC (.int 1))))) (sSeq (sSF .left 0 (cBin fDiv (.e (cVar false 3)) (.e (cVar false 1))))
    (sRet (cBin fMod (.e (cNat fInt [(.e (cVar false 3))])) (.e (cVar false 1))))) sPass)
    (sSeq (sSF .turn 0 (cBin fAdd (.e (cSF .turn 0)) (.e (cC (.int 1)))))
    (sSeq (sPar [4] [(cSF .turn 0)])
    (sSeq (sPar [5] [(cBin fMod (.e (cNat fInt [(.e (cBin fAdd (.e (cSF .mixed 0)) (.e (cBin fMul (.e (cVar false 4)) (.e (cC (.int 104729)))))))])) (.e (cC (.int 998244353))))])
    (sSeq (sPar [5] [(cBin fMod (.e (cNat fInt [(.e (cBin fAdd (.e (cBin fMul (.e (cVar false 5)) (.e (cVar false 5)))) (.e (cBin fMul (.e (cVar false 4)) (.e (cC (.int 17)))))))])) (.e (cC (.int 2147483647))))])
    (sRet (cBin fMod (.e (cNat fInt [(.e (cBin fDiv (.e (cVar false 5)) (.e (cC (.int 16)))))])) (.e (cVar false 1)))))))))))))
def srcB2 : CS :=
    (sSeq (sPar [1] [(cC (.int 11))])
    (sSeq (sFor (aName 2) (icAny (.e (cVar false 0))) (sPar [1] [(cBin fMod (.e (cNat fInt [(.e (cBin fAdd (.e (cBin fAdd (.e (cBin fMul (.e (cVar false 1)) (.e (cC (.int 69069))))) (.e (cBin fMul (.e (cVar false 2)) (.e (cC (.int 31))))))) (.e (cC (.int 5)))))])) (.e (cC (.int 2147483629))))]))
    (sSeq (sPar [3] [(cLc [2] (aName 2) (icAny (.e (cVar false 0))) bYes (cNat fAbs [(.e (cVar false 2))]))])
    (sRet (cSrc (cUn fRev (.e (cVar false 3))) (cC (.int 1)) (cVar false 1) (cC (.int 0)))))))
theorem pick_while2 (F : Fn) (many : Int) (e3 e4 e5 : Option Vx) : ∀ (n : Nat) (s : Src), s.cells.length < n → ∃ s', whileN n (bAnd (bOf (cBin fLt (.e (cSF .left 0)) (.e (cC (.int 2))))) (bOf (cBin fGt (.e (cLenS (cVar false 2))) (.e (cC (.int 0)))))) (sSF .left 0 (cPopS (cVar false 2))) F ⟨[some .src, some (.d (.int many)), some .srcc, e3, e4, e5], some s⟩ = some (.nx, ⟨[some .src, some (.d (.int many)), some .srcc, e3, e4, e5], some s'⟩) ∧ s'.cells.length ≤ s.cells.length
  | 0, s, h => absurd h (Nat.not_lt_zero _)
  | n + 1, s, h => by
    have hc : (bAnd (bOf (cBin fLt (.e (cSF .left 0)) (.e (cC (.int 2))))) (bOf (cBin fGt (.e (cLenS (cVar false 2))) (.e (cC (.int 0)))))) F ⟨[some .src, some (.d (.int many)), some .srcc, e3, e4, e5], some s⟩ = some (decide (s.left < 2) && decide ((s.cells.length : Int) > 0), ⟨[some .src, some (.d (.int many)), some .srcc, e3, e4, e5], some s⟩) := e_and rfl rfl
    cases hb : (decide (s.left < 2) && decide ((s.cells.length : Int) > 0)) with
    | false => rw [hb] at hc; exact ⟨s, e_whF hc, Nat.le_refl _⟩
    | true =>
      rw [hb] at hc
      simp only [Bool.and_eq_true, decide_eq_true_eq] at hb
      have hp : 0 < s.cells.length := by omega
      have hx : s.cells[s.cells.length - 1]? = some (s.cells[s.cells.length - 1]'(Nat.sub_lt hp Nat.one_pos)) := List.getElem?_eq_getElem _
      have hs : (sSF .left 0 (cPopS (cVar false 2))) F ⟨[some .src, some (.d (.int many)), some .srcc, e3, e4, e5], some s⟩ = some (.nx, ⟨[some .src, some (.d (.int many)), some .srcc, e3, e4, e5], some (SF.left.set { s with cells := s.cells.dropLast } (s.cells[s.cells.length - 1]'(Nat.sub_lt hp Nat.one_pos)))⟩) := by
        have h1 : cPopS (cVar false 2) F ⟨[some .src, some (.d (.int many)), some .srcc, e3, e4, e5], some s⟩ = some (.d (.int (s.cells[s.cells.length - 1]'(Nat.sub_lt hp Nat.one_pos))), ⟨[some .src, some (.d (.int many)), some .srcc, e3, e4, e5], some { s with cells := s.cells.dropLast }⟩) := by
          show (match s.cells[s.cells.length - 1]? with | some y => some (Vx.d (.int y), (⟨[some .src, some (.d (.int many)), some .srcc, e3, e4, e5], some { s with cells := s.cells.dropLast }⟩ : S)) | none => none) = _
          rw [hx]
        unfold sSF
        rw [h1]
        rfl
      obtain ⟨s', e, hl⟩ := pick_while2 F many e3 e4 e5 n (SF.left.set { s with cells := s.cells.dropLast } (s.cells[s.cells.length - 1]'(Nat.sub_lt hp Nat.one_pos))) (by simp [SF.set]; omega)
      refine ⟨s', (e_whT hc hs).trans e, Nat.le_trans hl ?_⟩
      simp [SF.set]
theorem pick_run2 (F : Fn) (hf : 64 ≤ F.fuel) (s : Src) (hs : s.cells.length ≤ 63) (many : Int) (hm : many < 1073741824) : ∃ r s', runDef ⟨2, 6, pickB2⟩ F [.src, .d (.int many)] (some s) = some (.d (.int r), some s') ∧ s'.cells.length ≤ 63 ∧ 0 ≤ r ∧ r < max 1 many := by
  by_cases h2 : many < 2
  · refine ⟨0, s, ?_, hs, Int.le_refl _, by omega⟩
    refine run_ret (s' := ⟨[some .src, some (.d (.int many)), none, none, none, none], some s⟩) rfl ?_
    show pickB2 F ⟨[some .src, some (.d (.int many)), none, none, none, none], some s⟩ = _
    unfold pickB2
    have hc : (bOf (cBin fLt (.e (cVar false 1)) (.e (cC (.int 2))))) F ⟨[some .src, some (.d (.int many)), none, none, none, none], some s⟩ = some (decide (many < 2), ⟨[some .src, some (.d (.int many)), none, none, none, none], some s⟩) := rfl
    rw [decide_eq_true h2] at hc
    exact e_ret (e_ifT hc (sret rfl))
  · have h0 : 0 < many := by omega
    obtain ⟨s1, e1, h1⟩ := pick_while2 F many none none none F.fuel s (by omega)
    have hc0 : (bOf (cBin fLt (.e (cVar false 1)) (.e (cC (.int 2))))) F ⟨[some .src, some (.d (.int many)), none, none, none, none], some s⟩ = some (decide (many < 2), ⟨[some .src, some (.d (.int many)), none, none, none, none], some s⟩) := rfl
    rw [decide_eq_false h2] at hc0
    have key : ∃ r s', pickB2 F ⟨[some .src, some (.d (.int many)), none, none, none, none], some s⟩ = some (.rt (.d (.int r)), s') ∧ (∃ s2, s'.src = some s2 ∧ s2.cells.length ≤ 63) ∧ 0 ≤ r ∧ r < many := by
      have hc1 : (bOf (cBin fGt (.e (cVar false 3)) (.e (cC (.int 1))))) F ⟨[some .src, some (.d (.int many)), some .srcc, some (.d (.int s1.left)), none, none], some s1⟩ = some (decide (s1.left > 1), ⟨[some .src, some (.d (.int many)), some .srcc, some (.d (.int s1.left)), none, none], some s1⟩) := rfl
      by_cases hb : s1.left > 1
      · rw [decide_eq_true hb] at hc1
        refine ⟨s1.left % many, ⟨[some .src, some (.d (.int many)), some .srcc, some (.d (.int s1.left)), none, none], some { s1 with left := s1.left / many }⟩, ?_, ⟨_, rfl, by show s1.cells.length ≤ 63; omega⟩, Int.emod_nonneg _ (by omega), Int.emod_lt_of_pos _ h0⟩
        unfold pickB2
        refine e_seq (e_ifF hc0 rfl) (e_seq (spar1 (x := .srcc) rfl) (e_seq (show sWhile _ _ F _ = _ from e1) (e_seq (spar1 (x := .d (.int s1.left)) rfl) (e_ret (e_ifT hc1 ?_)))))
        refine e_seq (ssf (k := s1.left / many) (x := s1) (cbin (x := .int s1.left) (y := .int many) rfl rfl (div_ok _ _ h0 hm)) rfl rfl) ?_
        exact sret (cbin (x := .int s1.left) (y := .int many) rfl rfl (mod_ok _ _ h0))
      · rw [decide_eq_false hb] at hc1
        refine ⟨((((s1.mixed + (s1.turn + 1) * 104729) % 998244353) * ((s1.mixed + (s1.turn + 1) * 104729) % 998244353) + (s1.turn + 1) * 17) % 2147483647) / 16 % many, ⟨[some .src, some (.d (.int many)), some .srcc, some (.d (.int s1.left)), some (.d (.int (s1.turn + 1))), some (.d (.int ((((s1.mixed + (s1.turn + 1) * 104729) % 998244353) * ((s1.mixed + (s1.turn + 1) * 104729) % 998244353) + (s1.turn + 1) * 17) % 2147483647)))], some { s1 with turn := s1.turn + 1 }⟩, ?_, ⟨_, rfl, by show s1.cells.length ≤ 63; omega⟩, Int.emod_nonneg _ (by omega), Int.emod_lt_of_pos _ h0⟩
        unfold pickB2
        refine e_seq (e_ifF hc0 rfl) (e_seq (spar1 (x := .srcc) rfl) (e_seq (show sWhile _ _ F _ = _ from e1) (e_seq (spar1 (x := .d (.int s1.left)) rfl) (e_seq (e_ifF hc1 rfl) ?_))))
        refine e_seq (ssf (k := s1.turn + 1) (x := s1) rfl rfl rfl) ?_
        refine e_seq (spar1 (x := .d (.int (s1.turn + 1))) rfl) ?_
        refine e_seq (spar1 (x := .d (.int ((s1.mixed + (s1.turn + 1) * 104729) % 998244353))) (cbin (cnat1 (cbin rfl (cbin rfl rfl (mul_sm _ _ (by decide))) rfl) rfl) rfl (mod_ok _ _ (by decide)))) ?_
        refine e_seq (spar1 (x := .d (.int ((((s1.mixed + (s1.turn + 1) * 104729) % 998244353) * ((s1.mixed + (s1.turn + 1) * 104729) % 998244353) + (s1.turn + 1) * 17) % 2147483647))) (cbin (cnat1 (cbin (cbin rfl rfl (mul_sm _ _ ?_)) (cbin rfl rfl (mul_sm _ _ (by decide))) rfl) rfl) rfl (mod_ok _ _ (by decide)))) ?_
        · have := Int.emod_lt_of_pos (s1.mixed + (s1.turn + 1) * 104729) (show (0 : Int) < 998244353 by decide)
          have := Int.emod_nonneg (s1.mixed + (s1.turn + 1) * 104729) (show (998244353 : Int) ≠ 0 by decide)
          unfold Ev.small64
          simp only [Bool.and_eq_true, decide_eq_true_eq]
          omega
        exact sret (cbin (cnat1 (cbin rfl rfl (div_ok _ _ (by decide) (by decide))) rfl) rfl (mod_ok _ _ h0))
    obtain ⟨r, s', e, ⟨s2, h2', h3⟩, h4, h5⟩ := key
    refine ⟨r, s2, ?_, h3, h4, by omega⟩
    have hd := run_ret (d := ⟨2, 6, pickB2⟩) (F := F) (xs := [.src, .d (.int many)]) (src := some s) rfl e
    rw [hd, h2']
theorem src_run2 (F : Fn) (ns : List Int) (h : ns.length ≤ 63) : ∃ s', runDef ⟨1, 4, srcB2⟩ F [.d (.list (ns.map PyData.int))] none = some (.src, some s') ∧ s'.cells.length ≤ 63 := by
  let R : Nat → S → Prop := fun _ s => ∃ (m : Int) (e2 : Option Vx), s = ⟨[some (.d (.list (ns.map PyData.int))), some (.d (.int m)), e2, none], none⟩
  obtain ⟨s', hfor, m, e2, rfl⟩ := sfor_ind (as := aName 2) (ic := icAny (.e (cVar false 0))) (F := F) (b := (sPar [1] [(cBin fMod (.e (cNat fInt [(.e (cBin fAdd (.e (cBin fAdd (.e (cBin fMul (.e (cVar false 1)) (.e (cC (.int 69069))))) (.e (cBin fMul (.e (cVar false 2)) (.e (cC (.int 31))))))) (.e (cC (.int 5)))))])) (.e (cC (.int 2147483629))))]))
    (s := ⟨[some (.d (.list (ns.map PyData.int))), some (.d (.int 11)), none, none], none⟩) (ds := ns.map PyData.int) (s0 := ⟨[some (.d (.list (ns.map PyData.int))), some (.d (.int 11)), none, none], none⟩) rfl R ⟨11, none, rfl⟩ (by
      rintro j d s hj ⟨m, e2, rfl⟩
      obtain ⟨c, _, rfl⟩ := List.mem_map.mp (List.mem_of_getElem? hj)
      exact ⟨⟨[some (.d (.list (ns.map PyData.int))), some (.d (.int m)), some (.d (.int c)), none], none⟩, _, rfl, spar1 (cbin (cnat1 (cbin (cbin (cbin rfl rfl (mul_sm _ _ (by decide))) (cbin rfl rfl (mul_sm _ _ (by decide))) rfl) rfl rfl) rfl) rfl (mod_ok _ _ (by decide))), _, _, rfl⟩)
  have hlc := clc_map (own := [2]) (as := aName 2) (ic := icAny (.e (cVar false 0))) (c := cNat fAbs [(.e (cVar false 2))]) (F := F) (ds := ns.map PyData.int) (E1 := [some (.d (.list (ns.map PyData.int))), some (.d (.int m)), e2, none]) (src := none) (s := ⟨[some (.d (.list (ns.map PyData.int))), some (.d (.int m)), e2, none], none⟩) rfl (by rw [List.length_map, sizeLine_eq]; omega)
    (fun d => (fAbs [d]).getD .none) (by
      intro d hd
      obtain ⟨c, _, rfl⟩ := List.mem_map.mp hd
      exact ⟨⟨[some (.d (.list (ns.map PyData.int))), some (.d (.int m)), some (.d (.int c)), none], none⟩, [some (.d (.list (ns.map PyData.int))), some (.d (.int m)), some (.d (.int c)), none], rfl, rfl, rfl⟩)
  have hm : (ns.map PyData.int).map (fun d => (fAbs [d]).getD .none) = (ns.map fun i => if i < 0 then -i else i).map PyData.int := by
    rw [List.map_map, List.map_map]; rfl
  rw [hm] at hlc
  refine ⟨⟨(ns.map fun i => if i < 0 then -i else i).reverse, 1, m, 0⟩, ?_, by simpa using h⟩
  refine run_ret (s' := ⟨[some (.d (.list (ns.map PyData.int))), some (.d (.int m)), e2, some (.d (.list ((ns.map fun i => if i < 0 then -i else i).map PyData.int)))], some ⟨(ns.map fun i => if i < 0 then -i else i).reverse, 1, m, 0⟩⟩) rfl ?_
  show srcB2 F ⟨[some (.d (.list (ns.map PyData.int))), none, none, none], none⟩ = _
  unfold srcB2
  refine e_seq (spar1 (x := .d (.int 11)) rfl) (e_seq hfor (e_seq (spar1 hlc) (sret ?_)))
  have hr : cUn fRev (.e (cVar false 3)) F ⟨[some (.d (.list (ns.map PyData.int))), some (.d (.int m)), e2, some (.d (.list ((ns.map fun i => if i < 0 then -i else i).map PyData.int)))], none⟩ = some (.d (.list ((ns.map fun i => if i < 0 then -i else i).reverse.map PyData.int)), ⟨[some (.d (.list (ns.map PyData.int))), some (.d (.int m)), e2, some (.d (.list ((ns.map fun i => if i < 0 then -i else i).map PyData.int)))], none⟩) := by
    show some (Vx.d (.list ((ns.map fun i => if i < 0 then -i else i).map PyData.int).reverse), _) = _
    rw [List.map_reverse]
    rfl
  show cSrc (cUn fRev (.e (cVar false 3))) (cC (.int 1)) (cVar false 1) (cC (.int 0)) F ⟨[some (.d (.list (ns.map PyData.int))), some (.d (.int m)), e2, some (.d (.list ((ns.map fun i => if i < 0 then -i else i).map PyData.int)))], none⟩ = _
  unfold cSrc
  simp only [hr, cells_ints]
  rfl
end Ev
/-! W1: types of words (plain). -/
namespace Ev
open PySem PySem.Spec L2
def trp (f : List Int → PyData) (u : List Int) (k : Nat) : PyData := .tuple [f (u.take k), .int (u.getD k 0), f (u.drop (k + 1))]
def trps (f : List Int → PyData) (u : List Int) : List PyData := (List.range u.length).map (trp f u)
noncomputable def wt : Nat → List Int → PyData
  | 0, _ => .tuple []
  | r + 1, u => .tuple (sortD (dd (trps (wt r) u)))
def Lw (u : List Int) : Prop := ∀ x ∈ u, 0 ≤ x ∧ x < 100
theorem Lw.take {u : List Int} (h : Lw u) (n : Nat) : Lw (u.take n) := fun x hx => h x (List.mem_of_mem_take hx)
theorem Lw.drop {u : List Int} (h : Lw u) (n : Nat) : Lw (u.drop n) := fun x hx => h x (List.mem_of_mem_drop hx)
theorem Lw.getD {u : List Int} (h : Lw u) (n : Nat) : 0 ≤ u.getD n 0 ∧ u.getD n 0 < 100 := by
  rw [List.getD_eq_getElem?_getD]
  cases q : u[n]? with
  | none => exact ⟨Int.le_refl _, by decide⟩
  | some x => exact h x (List.mem_of_getElem? q)
theorem itsA_iff : ∀ {ds : List PyData}, itsA ds = true ↔ ∀ d ∈ ds, its d = true
  | [] => by simp [itsA]
  | d :: ds => by
    unfold itsA
    rw [Bool.and_eq_true, itsA_iff]
    constructor
    · rintro ⟨h1, h2⟩ x hx
      rcases List.mem_cons.mp hx with rfl | hx
      · exact h1
      · exact h2 x hx
    · exact fun h => ⟨h d List.mem_cons_self, fun x hx => h x (List.mem_cons_of_mem _ hx)⟩
theorem sortD_mem {l : List PyData} {x : PyData} : x ∈ sortD l ↔ x ∈ l := (sortD_perm l).mem_iff
theorem trp_its {f : List Int → PyData} (hf : ∀ u, Lw u → its (f u) = true) {u : List Int} (h : Lw u) (k : Nat) : its (trp f u k) = true := by
  show itsA [f (u.take k), .int (u.getD k 0), f (u.drop (k + 1))] = true
  have := h.getD k
  simp only [itsA, hf _ (h.take k), hf _ (h.drop (k + 1)), its, Bool.true_and, Bool.and_true, Bool.and_eq_true, decide_eq_true_eq]
  exact this
theorem wt_its : ∀ (r : Nat) (u : List Int), Lw u → its (wt r u) = true
  | 0, _, _ => rfl
  | r + 1, u, h => by
    show itsA (sortD (dd (trps (wt r) u))) = true
    rw [itsA_iff]
    intro d hd
    rw [sortD_mem, dd_mem] at hd
    obtain ⟨k, _, rfl⟩ := List.mem_map.mp hd
    exact trp_its (wt_its r) h k
/-- shapes alike -/
theorem alikeAll_of : ∀ {xs ys : List PyData}, (∀ x ∈ xs, ∀ y ∈ ys, PySem.W.alike x y = true) → PySem.W.alikeAll xs ys = true
  | [], _, _ => by simp [PySem.W.alikeAll]
  | _ :: _, [], _ => by simp [PySem.W.alikeAll]
  | x :: xs, y :: ys, h => by
    rw [PySem.W.alikeAll, h x List.mem_cons_self y List.mem_cons_self, alikeAll_of fun a ha b hb => h a (List.mem_cons_of_mem _ ha) b (List.mem_cons_of_mem _ hb)]
    rfl
theorem trp_alike {f : List Int → PyData} (hf : ∀ u v, PySem.W.alike (f u) (f v) = true) (u v : List Int) (k j : Nat) : PySem.W.alike (trp f u k) (trp f v j) = true := by
  show PySem.W.alikeAll _ _ = true
  simp [PySem.W.alikeAll, PySem.W.alike, hf]
theorem wt_alike : ∀ (r : Nat) (u v : List Int), PySem.W.alike (wt r u) (wt r v) = true
  | 0, _, _ => by simp [wt, PySem.W.alike, PySem.W.alikeAll]
  | r + 1, u, v => by
    show PySem.W.alikeAll _ _ = true
    refine alikeAll_of fun x hx y hy => ?_
    rw [sortD_mem, dd_mem] at hx hy
    obtain ⟨k, _, rfl⟩ := List.mem_map.mp hx
    obtain ⟨j, _, rfl⟩ := List.mem_map.mp hy
    exact trp_alike (wt_alike r) u v k j
theorem depthAll_le {n : Nat} : ∀ {ds : List PyData}, (∀ d ∈ ds, d.depth ≤ n) → PyData.depthAll ds ≤ n
  | [], _ => Nat.zero_le _
  | d :: ds, h => by
    have h1 := h d List.mem_cons_self
    have h2 := depthAll_le (ds := ds) fun x hx => h x (List.mem_cons_of_mem _ hx)
    simp only [PyData.depthAll]
    omega
theorem trp_depth {f : List Int → PyData} {n : Nat} (hf : ∀ u, (f u).depth ≤ n) (u : List Int) (k : Nat) : (trp f u k).depth ≤ n + 1 := by
  have h1 := hf (u.take k)
  have h2 := hf (u.drop (k + 1))
  simp only [trp, PyData.depth, PyData.depthAll]
  omega
theorem wt_depth : ∀ (r : Nat) (u : List Int), (wt r u).depth ≤ 2 * r + 1
  | 0, _ => by simp [wt, PyData.depth, PyData.depthAll]
  | r + 1, u => by
    have : PyData.depthAll (sortD (dd (trps (wt r) u))) ≤ 2 * r + 1 + 1 := depthAll_le fun d hd => by
      rw [sortD_mem, dd_mem] at hd
      obtain ⟨k, _, rfl⟩ := List.mem_map.mp hd
      exact trp_depth (wt_depth r) u k
    simp only [wt, PyData.depth]
    omega
mutual
theorem key_depth : ∀ (d : PyData) (k : NestedKey), keyOf d = some k → k.depth ≤ d.depth
  | .none, _, h => by cases h; simp [NestedKey.depth]
  | .bool _, _, h => by cases h; simp [NestedKey.depth]
  | .int _, _, h => by cases h; simp [NestedKey.depth]
  | .str _, _, h => by cases h; simp [NestedKey.depth]
  | .tuple ds, _, h => by
    unfold keyOf at h
    rw [Option.map_eq_some_iff] at h
    obtain ⟨ks, e, rfl⟩ := h
    have := keys_depth ds ks e
    simp only [NestedKey.depth, PyData.depth]
    omega
  | .list _, _, h => by unfold keyOf at h; cases h
  | .dict _, _, h => by unfold keyOf at h; cases h
theorem keys_depth : ∀ (ds : List PyData) (ks : List NestedKey), keysOf ds = some ks → NestedKey.depthAll ks ≤ PyData.depthAll ds
  | [], _, h => by cases h; simp [NestedKey.depthAll]
  | d :: ds, _, h => by
    unfold keysOf at h
    split at h
    · rename_i k ks e1 e2
      cases h
      have h1 := key_depth d k e1
      have h2 := keys_depth ds ks e2
      simp only [NestedKey.depthAll, PyData.depthAll]
      omega
    · cases h
end
theorem isKN_of {ds : List PyData} (h : itr (.tuple ds) = true) (hd : (PyData.tuple ds).depth ≤ 8) : isKN (.tuple ds) = true := by
  obtain ⟨k, e⟩ := itr_key _ h
  have := key_depth _ k e
  show (match keyOf (.tuple ds) with | some k => decide (k.depth ≤ 8) | none => false) = true
  rw [e]
  exact decide_eq_true (by omega)
theorem trp_KN {f : List Int → PyData} (hf : ∀ u, Lw u → its (f u) = true) {n : Nat} (hn : ∀ u, (f u).depth ≤ n) (h7 : n ≤ 7) {u : List Int} (h : Lw u) (k : Nat) : isKN (trp f u k) = true :=
  isKN_of (its_itr _ (trp_its hf h k)) (by have := trp_depth hn u k; show (trp f u k).depth ≤ 8; omega)
/-- how long the texts are -/
theorem shI_len : ∀ i : Fin 100, (shI (i.val : Int)).length ≤ 2 := by decide +kernel
theorem shI_len' {i : Int} (h : 0 ≤ i ∧ i < 100) : (shI i).length ≤ 2 := by
  have := shI_len ⟨i.toNat, by omega⟩
  rw [show ((⟨i.toNat, by omega⟩ : Fin 100).val : Int) = i from Int.toNat_of_nonneg h.1] at this
  exact this
theorem rest_len {n : Nat} : ∀ (ds : List PyData), (∀ d ∈ ds, (sh d).length ≤ n) → (restT ds).length ≤ ds.length * (n + 2)
  | [], _ => by simp [restT]
  | [x], h => by
    have := h x List.mem_cons_self
    simp [restT]; omega
  | x :: y :: r, h => by
    have h1 := h x List.mem_cons_self
    have h2 := rest_len (y :: r) fun d hd => h d (List.mem_cons_of_mem _ hd)
    show (sh x ++ 44 :: 32 :: restT (y :: r)).length ≤ _
    rw [List.length_append, List.length_cons, List.length_cons, List.length_cons, Nat.succ_mul]
    omega
theorem body_len {n : Nat} (ds : List PyData) (h : ∀ d ∈ ds, (sh d).length ≤ n) : (bodyT ds).length ≤ ds.length * (n + 2) + 1 := by
  match ds, h with
  | [], _ => simp [bodyT]
  | [x], h =>
    have := h x List.mem_cons_self
    simp [bodyT]; omega
  | x :: y :: r, h =>
    have h1 := rest_len (x :: y :: r) h
    show (restT (x :: y :: r)).length ≤ _
    omega
theorem tup_len {n : Nat} (ds : List PyData) (h : ∀ d ∈ ds, (sh d).length ≤ n) : (sh (.tuple ds)).length ≤ ds.length * (n + 2) + 2 := by
  rw [sh_tup, List.length_cons]
  have := body_len ds h
  omega
theorem shown_len (d : PyData) : d.shown.length = (sh d).length := by
  unfold sh Str.length
  simp
end Ev
/-! W2: how the programs reckon types of words (plain). -/
namespace Ev
open PySem PySem.Spec L2
def bl : Nat → Nat
  | 0 => 2
  | r + 1 => 16 * ((3 * (bl r + 2) + 2) + 2) + 2
theorem trp_len {f : List Int → PyData} {n : Nat} (hn : 2 ≤ n) (hf : ∀ u, Lw u → u.length ≤ 16 → (sh (f u)).length ≤ n) {u : List Int} (h : Lw u) (hl : u.length ≤ 16) (k : Nat) : (sh (trp f u k)).length ≤ 3 * (n + 2) + 2 := by
  refine tup_len (n := n) [f (u.take k), .int (u.getD k 0), f (u.drop (k + 1))] fun d hd => ?_
  rcases List.mem_cons.mp hd with rfl | hd
  · exact hf _ (h.take k) (by rw [List.length_take]; omega)
  · rcases List.mem_cons.mp hd with rfl | hd
    · rw [sh_int]
      have := shI_len' (h.getD k)
      omega
    · rw [List.mem_singleton.mp hd]
      exact hf _ (h.drop (k + 1)) (by rw [List.length_drop]; omega)
theorem bl_two : ∀ r, 2 ≤ bl r
  | 0 => Nat.le_refl _
  | r + 1 => by unfold bl; omega
theorem sortD_len (l : List PyData) : (sortD l).length = l.length := (sortD_perm l).length_eq
theorem trps_len (f : List Int → PyData) (u : List Int) : (trps f u).length = u.length := by unfold trps; simp
theorem wt_len : ∀ (r : Nat) (u : List Int), Lw u → u.length ≤ 16 → (sh (wt r u)).length ≤ bl r
  | 0, _, _, _ => by
    show (sh (.tuple [])).length ≤ 2
    rw [sh_tup]; exact Nat.le_refl _
  | r + 1, u, h, hl => by
    have := tup_len (n := 3 * (bl r + 2) + 2) (sortD (dd (trps (wt r) u))) fun d hd => by
      rw [sortD_mem, dd_mem] at hd
      obtain ⟨k, _, rfl⟩ := List.mem_map.mp hd
      exact trp_len (bl_two r) (wt_len r) h hl k
    refine Nat.le_trans this ?_
    rw [sortD_len]
    have h1 := dd_len (trps (wt r) u)
    rw [trps_len] at h1
    have h2 : (dd (trps (wt r) u)).length ≤ 16 := by omega
    have h3 := Nat.mul_le_mul_right (3 * (bl r + 2) + 2 + 2) h2
    show _ ≤ 16 * ((3 * (bl r + 2) + 2) + 2) + 2
    omega
/-- sorted(..) of them may be reckoned -/
theorem sortOk_of {l : List PyData} (hl : l.length ≤ sizeLine) (ha : ∀ d ∈ l, ∀ e ∈ l, PySem.W.alike d e = true) (ht : ∀ d ∈ l, isTupC d = true) (hi : ∀ d ∈ l, itr d = true) (hd : ∀ d ∈ l, d.depth ≤ 64) : sortOk l = true := by
  unfold sortOk
  simp only [Bool.and_eq_true, decide_eq_true_eq, List.all_eq_true, Bool.or_eq_true]
  exact ⟨⟨⟨⟨hl, fun d hd e he => ha d hd e he⟩, .inl ht⟩, itrA_lay l (itrA_iff.mpr hi)⟩, hd⟩
theorem sortOk_trps {f : List Int → PyData} {n : Nat} (hf : ∀ u, Lw u → its (f u) = true) (hfa : ∀ u v, PySem.W.alike (f u) (f v) = true) (hfd : ∀ u, (f u).depth ≤ n) (hn : n ≤ 60) {u : List Int} (h : Lw u) (hl : u.length ≤ 16) {l : List PyData} (hm : ∀ d ∈ l, d ∈ trps f u) (hll : l.length ≤ 16) : sortOk l = true := by
  have ex : ∀ d ∈ l, ∃ k, d = trp f u k := fun d hd => by
    obtain ⟨k, _, e⟩ := List.mem_map.mp (hm d hd)
    exact ⟨k, e.symm⟩
  refine sortOk_of (by rw [sizeLine_eq]; omega) (fun d hd e he => ?_) (fun d hd => ?_) (fun d hd => ?_) fun d hd => ?_
  · obtain ⟨k, rfl⟩ := ex d hd
    obtain ⟨j, rfl⟩ := ex e he
    exact trp_alike hfa u u k j
  · obtain ⟨k, rfl⟩ := ex d hd
    rfl
  · obtain ⟨k, rfl⟩ := ex d hd
    exact its_itr _ (trp_its hf h k)
  · obtain ⟨k, rfl⟩ := ex d hd
    have := trp_depth hfd u k
    omega

/-! ### small evaluations -/
theorem eargs {F : Fn} {s s1 s2 : S} {c : CE} {cs : List CE} {x : Vx} {xs : List Vx} (h : c F s = some (x, s1)) (h2 : evArgs cs F s1 = some (xs, s2)) : evArgs (c :: cs) F s = some (x :: xs, s2) := by
  unfold evArgs
  rw [h]
  simp only [h2]
theorem ccall {F : Fn} {s s1 : S} {nm : String} {cs : List CE} {xs : List Vx} {x : Vx} {src' : Option Src} (h : evArgs cs F s = some (xs, s1)) (h2 : F.call nm xs s1.src = some (x, src')) : cCall nm cs F s = some (x, { s1 with src := src' }) := by
  unfold cCall
  rw [h]
  simp only [h2]
theorem cdisp {F : Fn} {s s1 : S} {b : Bool} {cs : List CE} {xs : List Vx} {ds : List PyData} (h : evArgs cs F s = some (xs, s1)) (h2 : allD xs = some ds) (h3 : ds.length ≤ sizeLine) : cDisp b cs F s = some (.d (if b then .tuple ds else .list ds), s1) := by
  unfold cDisp
  rw [h]
  simp only [h2, h3, if_true]
theorem feq_int (i j : Int) : fEq (.int i) (.int j) = some (.bool (i == j)) := by
  simp [fEq, shp, SeqAt.shaped, PyData.canLay0, PyData.depth, PyData.eqv]
theorem cut_take (xs : List PyData) (j : Nat) : cutD xs none (some (j : Int)) = xs.take j := by
  unfold cutD
  rw [HT.sIx_none, HT.sIx_nat]
  simp only [Nat.sub_zero, List.drop_zero]
  rw [List.take_eq_take_iff]
  omega
theorem cut_drop (xs : List PyData) (j : Nat) : cutD xs (some (j : Int)) none = xs.drop j := by
  unfold cutD
  rw [HT.sIx_none, HT.sIx_nat]
  by_cases h : j ≤ xs.length
  · rw [Nat.min_eq_left h, List.take_of_length_le]
    rw [List.length_drop]; omega
  · rw [Nat.min_eq_right (by omega), List.drop_of_length_le (Nat.le_refl _), List.drop_of_length_le (by omega)]
    simp
theorem fnAt_call {T : String → Option FnDef} {fuel k : Nat} {nm : String} {d : FnDef} {xs : List Vx} {src : Option Src} (h : T nm = some d) : (fnAt T fuel (k + 1)).call nm xs src = runDef d (fnAt T fuel k) xs src := by
  show (match T nm with | some d => runDef d (fnAt T fuel k) xs src | none => none) = _
  rw [h]
end Ev
/-! W4: types of short words, reckoned; their hashes (plain). -/
namespace Ev
open PySem PySem.Spec L2
abbrev dle (a b : PyData) : Bool := PySem.W.dataLe false id a b
def insD (a : PyData) : List PyData → List PyData
  | [] => [a]
  | b :: l => if dle a b then a :: b :: l else b :: insD a l
def isort : List PyData → List PyData
  | [] => []
  | a :: l => insD a (isort l)
theorem insD_perm (a : PyData) : ∀ l, (insD a l).Perm (a :: l)
  | [] => .refl _
  | b :: l => by
    unfold insD
    split
    · exact .refl _
    · exact ((insD_perm a l).cons b).trans (.swap a b l)
theorem isort_perm : ∀ l, (isort l).Perm l
  | [] => .refl _
  | a :: l => (insD_perm a _).trans ((isort_perm l).cons a)
theorem dle_tot (a b : PyData) : dle a b = true ∨ dle b a = true := by
  have T := PySem.W.sortLe_total (PyProof.Rows.listOrd PyProof.Rows.itemOrd) false (fun b : PyData => PySem.W.keyToks (id b))
  exact T.total a b
theorem dle_trans (a b c : PyData) (h1 : dle a b = true) (h2 : dle b c = true) : dle a c = true := by
  have T := PySem.W.sortLe_total (PyProof.Rows.listOrd PyProof.Rows.itemOrd) false (fun b : PyData => PySem.W.keyToks (id b))
  exact T.trans a b c h1 h2
theorem insD_pair (a : PyData) : ∀ {l}, l.Pairwise (fun x y => dle x y = true) → (insD a l).Pairwise (fun x y => dle x y = true)
  | [], _ => List.pairwise_singleton ..
  | b :: l, h => by
    obtain ⟨h1, h2⟩ := List.pairwise_cons.mp h
    unfold insD
    split
    · rename_i hab
      refine List.pairwise_cons.mpr ⟨fun y hy => ?_, h⟩
      rcases List.mem_cons.mp hy with rfl | hy
      · exact hab
      · exact dle_trans _ _ _ hab (h1 y hy)
    · rename_i hab
      have hba := (dle_tot a b).resolve_left hab
      refine List.pairwise_cons.mpr ⟨fun y hy => ?_, insD_pair a h2⟩
      rcases List.mem_cons.mp ((insD_perm a l).mem_iff.mp hy) with rfl | hy
      · exact hba
      · exact h1 y hy
theorem isort_pair : ∀ l, (isort l).Pairwise (fun x y => dle x y = true)
  | [] => .nil
  | a :: l => insD_pair a (isort_pair l)
theorem sortD_isort {l m : List PyData} (p : l.Perm m) (hi : ∀ d ∈ l, itr d = true) (ha : ∀ d ∈ l, ∀ e ∈ l, PySem.W.alike d e = true) : sortD l = isort m := by
  refine perm_sorted ((sortD_perm l).trans (p.trans (isort_perm m).symm)) (sortD_pair l) (isort_pair m) fun x hx y hy h1 h2 => ?_
  have hx' := (sortD_perm l).mem_iff.mp hx
  have hy' := (sortD_perm l).mem_iff.mp hy
  exact le_antisymm (hi x hx') (hi y hy') (ha x hx' y hy') h1 h2
/-- kept once, reckoned -/
def addC (acc : List PyData) (d : PyData) : List PyData := if acc.any (fun x => keq x d) then acc else acc ++ [d]
theorem addC_eq {acc : List PyData} {d : PyData} (hd : itr d = true) (ha : ∀ x ∈ acc, itr x = true) : addC acc d = addU acc d := by
  have : (acc.any fun x => keq x d) = true ↔ d ∈ acc := by
    rw [List.any_eq_true]
    exact ⟨fun ⟨x, hx, e⟩ => ((keq_itr (ha x hx) hd).mp e) ▸ hx, fun h => ⟨d, h, (keq_itr hd hd).mpr rfl⟩⟩
  unfold addC addU
  by_cases h : d ∈ acc
  · rw [if_pos (this.mpr h), if_pos h]
  · rw [if_neg (fun z => h (this.mp z)), if_neg h]
theorem foldC_eq : ∀ {l acc : List PyData}, (∀ d ∈ l, itr d = true) → (∀ x ∈ acc, itr x = true) → l.foldl addC acc = l.foldl addU acc
  | [], _, _, _ => rfl
  | d :: l, acc, hl, ha => by
    rw [List.foldl_cons, List.foldl_cons, addC_eq (hl d List.mem_cons_self) ha]
    refine foldC_eq (fun x hx => hl x (List.mem_cons_of_mem _ hx)) fun x hx => ?_
    rcases addU_mem.mp hx with h | h
    · exact ha x h
    · rw [h]; exact hl d List.mem_cons_self
def wtC : Nat → List Int → PyData
  | 0, _ => .tuple []
  | r + 1, u => .tuple (isort ((trps (wtC r) u).foldl addC []))
theorem wtC_eq : ∀ (r : Nat) (u : List Int), Lw u → wtC r u = wt r u
  | 0, _, _ => rfl
  | r + 1, u, h => by
    have ht : trps (wtC r) u = trps (wt r) u := by
      unfold trps
      refine List.map_congr_left fun j _ => ?_
      unfold trp
      rw [wtC_eq r _ (h.take j), wtC_eq r _ (h.drop (j + 1))]
    have hi : ∀ d ∈ trps (wt r) u, itr d = true := fun d hd => by
      obtain ⟨j, _, rfl⟩ := List.mem_map.mp hd
      exact its_itr _ (trp_its (wt_its r) h j)
    show PyData.tuple (isort ((trps (wtC r) u).foldl addC [])) = .tuple (sortD (dd (trps (wt r) u)))
    rw [ht, foldC_eq (acc := []) hi (by intro x hx; cases hx)]
    show PyData.tuple (isort (dd (trps (wt r) u))) = _
    rw [sortD_isort (.refl _) (fun d hd => hi d (dd_mem.mp hd)) fun d hd e he => ?_]
    obtain ⟨j, _, rfl⟩ := List.mem_map.mp (dd_mem.mp hd)
    obtain ⟨i, _, rfl⟩ := List.mem_map.mp (dd_mem.mp he)
    exact trp_alike (wt_alike r) u u j i
/-! ### hashes that are all unlike -/
def hash1 (d : PyData) : Int := (dHash d).getD 0
def unlike : List Int → Bool
  | [] => true
  | x :: l => (l.all fun y => !(x == y)) && unlike l
theorem unlike_nodup : ∀ {l : List Int}, unlike l = true → l.Nodup
  | [], _ => List.nodup_nil
  | x :: l, h => by
    unfold unlike at h
    rw [Bool.and_eq_true, List.all_eq_true] at h
    refine List.nodup_cons.mpr ⟨fun hx => ?_, unlike_nodup h.2⟩
    have := h.1 x hx
    simp at this
theorem HI_of {L : List PyData} (h1 : (L.all fun d => (dHash d).isSome) = true) (h2 : unlike (L.map hash1) = true) : HI L := fun d hd => by
  rw [List.all_eq_true] at h1
  obtain ⟨h, e⟩ := Option.isSome_iff_exists.mp (h1 d hd)
  refine ⟨h, e, fun x hx ex => ?_⟩
  have hn := unlike_nodup h2
  obtain ⟨i, hi⟩ := List.mem_iff_getElem?.mp hd
  obtain ⟨j, hj⟩ := List.mem_iff_getElem?.mp hx
  have g1 : (L.map hash1)[i]? = some h := by rw [List.getElem?_map, hi]; show some (hash1 d) = _; unfold hash1; rw [e]; rfl
  have g2 : (L.map hash1)[j]? = some h := by rw [List.getElem?_map, hj]; show some (hash1 x) = _; unfold hash1; rw [ex]; rfl
  have hil : i < (L.map hash1).length := (List.getElem?_eq_some_iff.mp g1).1
  have hij : i = j := (List.getElem?_inj hil hn).mp (g1.trans g2.symm)
  subst hij
  rw [hi] at hj
  exact (Option.some.inj hj).symm
end Ev
/-! P1: webs of ties as data (plain). -/
namespace Ev
open PySem PySem.Spec L2
abbrev Nm (n : Nat) : PyData := .int (n : Int)
abbrev pr (p : Nat × Nat) : PyData := .tuple [Nm p.1, Nm p.2]
abbrev Rw (row : List Nat) : PyData := .tuple (row.map Nm)
theorem itr_pr (p : Nat × Nat) : itr (pr p) = true := rfl
theorem Nm_inj {a b : Nat} (h : Nm a = Nm b) : a = b := by
  injection h with h
  omega
theorem pr_inj {p q : Nat × Nat} (h : pr p = pr q) : p = q := by
  injection h with h
  injection h with h1 h
  injection h with h2 _
  exact Prod.ext (Nm_inj h1) (Nm_inj h2)
theorem pr_depth (p : Nat × Nat) : (pr p).depth ≤ 4 := by simp [PyData.depth, PyData.depthAll]
theorem toks_pr (a b : Nat) : PySem.W.keyToks (pr (a, b)) = [.inl 1, .inl (a : Int), .inl 1, .inl (b : Int), .inl 0] := rfl
theorem dle_pr (a b c d : Nat) : dle (pr (a, b)) (pr (c, d)) = true ↔ a < c ∨ (a = c ∧ b ≤ d) := by
  have e : dle (pr (a, b)) (pr (c, d)) = !(decide ((c : Int) < a) || (!decide ((a : Int) < c) && (decide ((d : Int) < b) || (!decide ((b : Int) < d) && false)))) := by
    show (!PyProof.Rows.lexLt PyProof.Rows.itemOrd [.inl 1, .inl (c : Int), .inl 1, .inl (d : Int), .inl 0] [.inl 1, .inl (a : Int), .inl 1, .inl (b : Int), .inl 0]) = _
    rfl
  rw [e]
  simp only [Bool.not_eq_true', Bool.or_eq_false_iff, Bool.and_eq_false_iff, decide_eq_false_iff_not, Bool.not_eq_false', decide_eq_true_eq, Bool.and_false, Bool.or_false]
  omega
def lx (x y : Nat × Nat) : Prop := x.1 < y.1 ∨ (x.1 = y.1 ∧ x.2 < y.2)
def canon (n : Nat) (P : Nat → Nat → Bool) : List (Nat × Nat) := (List.range n).flatMap fun a => ((List.range n).filter (P a)).map fun b => (a, b)
theorem canon_mem {n : Nat} {P : Nat → Nat → Bool} {p : Nat × Nat} : p ∈ canon n P ↔ p.1 < n ∧ p.2 < n ∧ P p.1 p.2 = true := by
  unfold canon
  simp only [List.mem_flatMap, List.mem_map, List.mem_filter, List.mem_range]
  constructor
  · rintro ⟨a, ha, b, ⟨hb, hp⟩, rfl⟩
    exact ⟨ha, hb, hp⟩
  · rintro ⟨h1, h2, h3⟩
    exact ⟨p.1, h1, p.2, ⟨h2, h3⟩, rfl⟩
theorem canon_lx (n : Nat) (P : Nat → Nat → Bool) : (canon n P).Pairwise lx := by
  unfold canon
  rw [List.pairwise_flatMap]
  refine ⟨fun a _ => ?_, ?_⟩
  · rw [List.pairwise_map]
    exact (List.pairwise_lt_range.filter _).imp fun h => .inr ⟨rfl, h⟩
  · refine List.pairwise_lt_range.imp fun h x hx y hy => ?_
    obtain ⟨_, _, rfl⟩ := List.mem_map.mp hx
    obtain ⟨_, _, rfl⟩ := List.mem_map.mp hy
    exact .inl h
theorem canon_nodup (n : Nat) (P : Nat → Nat → Bool) : (canon n P).Nodup := (canon_lx n P).imp fun {x y} h e => by
  subst e
  rcases h with h | ⟨_, h⟩ <;> omega
theorem canon_pair (n : Nat) (P : Nat → Nat → Bool) : ((canon n P).map pr).Pairwise (fun x y => dle x y = true) := by
  rw [List.pairwise_map]
  exact (canon_lx n P).imp fun {x y} h => (dle_pr x.1 x.2 y.1 y.2).mpr (h.imp id fun z => ⟨z.1, by omega⟩)
theorem prs_alike (p q : Nat × Nat) : PySem.W.alike (pr p) (pr q) = true := by simp [PySem.W.alike, PySem.W.alikeAll]
theorem sorted_ties {n : Nat} {P : Nat → Nat → Bool} {ar : List (Nat × Nat)} (hn : ar.Nodup) (hm : ∀ p, p ∈ ar ↔ p ∈ canon n P) : sortD (ar.map pr) = (canon n P).map pr := by
  have hp : ar.Perm (canon n P) := (List.perm_ext_iff_of_nodup hn (canon_nodup n P)).mpr hm
  refine perm_sorted ((sortD_perm _).trans (hp.map pr)) (sortD_pair _) (canon_pair n P) fun x hx y hy h1 h2 => ?_
  obtain ⟨p, _, rfl⟩ := List.mem_map.mp ((sortD_perm _).mem_iff.mp hx)
  obtain ⟨q, _, rfl⟩ := List.mem_map.mp ((sortD_perm _).mem_iff.mp hy)
  exact le_antisymm (itr_pr p) (itr_pr q) (prs_alike p q) h1 h2
theorem sortOk_prs {ar : List (Nat × Nat)} (h : ar.length ≤ 5000) : sortOk (ar.map pr) = true := by
  refine sortOk_of (by rw [List.length_map, sizeLine_eq]; omega) (fun d hd e he => ?_) (fun d hd => ?_) (fun d hd => ?_) fun d hd => ?_
  · obtain ⟨p, _, rfl⟩ := List.mem_map.mp hd
    obtain ⟨q, _, rfl⟩ := List.mem_map.mp he
    exact prs_alike p q
  · obtain ⟨p, _, rfl⟩ := List.mem_map.mp hd
    rfl
  · obtain ⟨p, _, rfl⟩ := List.mem_map.mp hd
    exact itr_pr p
  · obtain ⟨p, _, rfl⟩ := List.mem_map.mp hd
    have := pr_depth p
    omega
/-- a web of ties -/
abbrev tw (n : Nat) (P : Nat → Nat → Bool) : PyData := .tuple [Nm n, .tuple (List.replicate n (.int 0)), .tuple ((canon n P).map pr)]
theorem any_eqv {d : PyData} {ds : List PyData} (hd : itr d = true) (hs : ∀ x ∈ ds, itr x = true) : (ds.any fun y => PyData.eqv y d) = true ↔ d ∈ ds := by
  rw [List.any_eq_true]
  exact ⟨fun ⟨x, hx, e⟩ => ((eqv_itr x d (hs x hx) hd).mp e) ▸ hx, fun h => ⟨d, h, (eqv_itr d d hd hd).mpr rfl⟩⟩
theorem fIn_itr {b q : Bool} {d c : PyData} {ds : List PyData} (hc : itemsOf c = some ds) (hd : itr d = true) (hdd : d.depth ≤ 64) (hs : ∀ x ∈ ds, itr x = true) (hq : d ∈ ds ↔ q = true) : fIn b d c = some (.bool (xor b q)) := by
  unfold fIn
  rw [hc]
  simp only [shp_itr hd hdd, itrA_lay ds (itrA_iff.mpr hs), Bool.and_self, if_true]
  have : (ds.any fun y => PyData.eqv y d) = q := by
    rw [Bool.eq_iff_iff, any_eqv hd hs]; exact hq
  rw [this]
theorem fIn_tw {b : Bool} {n : Nat} {P : Nat → Nat → Bool} {x y : Nat} (hx : x < n) (hy : y < n) : fIn b (pr (x, y)) (.tuple ((canon n P).map pr)) = some (.bool (xor b (P x y))) := by
  refine fIn_itr rfl (itr_pr _) (by have := pr_depth (x, y); omega) (fun d hd => ?_) ?_
  · obtain ⟨p, _, rfl⟩ := List.mem_map.mp hd
    exact itr_pr p
  · rw [List.mem_map]
    constructor
    · rintro ⟨p, hp, e⟩
      have := pr_inj e
      subst this
      exact (canon_mem.mp hp).2.2
    · intro h
      exact ⟨(x, y), canon_mem.mpr ⟨hx, hy, h⟩, rfl⟩
theorem fIn_row {b : Bool} {x : Nat} {row : List Nat} : fIn b (Nm x) (Rw row) = some (.bool (xor b (row.contains x))) := by
  refine fIn_itr rfl rfl (by simp [PyData.depth]) (fun d hd => ?_) ?_
  · obtain ⟨p, _, rfl⟩ := List.mem_map.mp hd
    rfl
  · rw [List.mem_map, List.contains_iff_mem]
    exact ⟨fun ⟨p, hp, e⟩ => (Nm_inj e) ▸ hp, fun h => ⟨x, h, rfl⟩⟩
end Ev
/-! P2: small evaluations of tests and walks (plain). -/
namespace Ev
open PySem PySem.Spec L2
theorem inD_row {x : Nat} {row : List Nat} : fInD false (Nm x) (Rw row) = some (.bool (row.contains x)) := by
  have := fIn_row (b := false) (x := x) (row := row)
  rw [Bool.false_xor] at this
  exact this
theorem notInD_row {x : Nat} {row : List Nat} : fInD true (Nm x) (Rw row) = some (.bool (!row.contains x)) := by
  have := fIn_row (b := true) (x := x) (row := row)
  rw [Bool.true_xor] at this
  exact this
theorem inD_tw {n : Nat} {P : Nat → Nat → Bool} {x y : Nat} (hx : x < n) (hy : y < n) : fInD false (pr (x, y)) (.tuple ((canon n P).map pr)) = some (.bool (P x y)) := by
  have := fIn_tw (b := false) (P := P) hx hy
  rw [Bool.false_xor] at this
  exact this
theorem feq_bool (a b : Bool) : fEq (.bool a) (.bool b) = some (.bool (a == b)) := by cases a <;> cases b <;> rfl
theorem fne_bool' (a b : Bool) : fNe (.bool a) (.bool b) = some (.bool (!(a == b))) := by cases a <;> cases b <;> rfl
theorem fne_int (i j : Int) : fNe (.int i) (.int j) = some (.bool (!(i == j))) := by
  simp [fNe, shp, SeqAt.shaped, PyData.canLay0, PyData.depth, PyData.eqv]
theorem bof' {F : Fn} {s s1 : S} {c : CE} {b : Bool} (h : c F s = some (.d (.bool b), s1)) : bOf c F s = some (b, s1) := by
  unfold bOf
  rw [h]
theorem btru {F : Fn} {s s1 : S} {c : CE} {b : Bool} (h : c F s = some (.d (.bool b), s1)) : bTru (.e c) F s = some (b, s1) := by
  unfold bTru Opd.ev
  simp only [h]
  rfl
theorem bnot {F : Fn} {s s1 : S} {c : CB} {b : Bool} (h : c F s = some (b, s1)) : bNot c F s = some (!b, s1) := by
  unfold bNot
  rw [h]
theorem band {F : Fn} {s : S} {c d : CB} {b b' : Bool} (h : c F s = some (b, s)) (h2 : b = true → d F s = some (b', s)) : bAnd c d F s = some (b && b', s) := by
  unfold bAnd
  rw [h]
  cases b with
  | true => exact h2 rfl
  | false => rfl
theorem bor {F : Fn} {s : S} {c d : CB} {b b' : Bool} (h : c F s = some (b, s)) (h2 : b = false → d F s = some (b', s)) : bOr c d F s = some (b || b', s) := by
  unfold bOr
  rw [h]
  cases b with
  | false => exact h2 rfl
  | true => rfl
theorem vat {i : Nat} {F : Fn} {s : S} {x : PyData} (h : s.env[i]? = some (some (.d x))) : cVar false i F s = some (.d x, s) := by
  unfold cVar
  rw [h]
  rfl
theorem vsrc {i : Nat} {F : Fn} {s : S} (h : s.env[i]? = some (some .src)) : cVar false i F s = some (.src, s) := by
  unfold cVar
  rw [h]
theorem pcall {F : Fn} {s : S} {nm : String} {cs : List CE} {xs : List Vx} {x : Vx} (h : evArgs cs F s = some (xs, s)) (h2 : F.call nm xs s.src = some (x, s.src)) : cCall nm cs F s = some (x, s) := ccall h h2
theorem ints0 (n : Nat) : Ev.intsFrom 0 n = (List.range n).map Nm := by
  unfold Ev.intsFrom
  exact List.map_congr_left fun i _ => by show PyData.int (0 + (i : Int)) = _; rw [Int.zero_add]
theorem ints1 (i n : Nat) : Ev.intsFrom (i : Int) n = (List.range n).map fun k => Nm (i + k) := by
  unfold Ev.intsFrom
  exact List.map_congr_left fun k _ => rfl
theorem atI_nat {l : List PyData} {i : Nat} {d : PyData} (h : l[i]? = some d) : L2.atI l (i : Int) = some d := by
  have hi := (List.getElem?_eq_some_iff.mp h).1
  unfold L2.atI L2.ixN
  rw [if_pos (by omega), if_pos (by omega)]
  exact h
theorem fadd_list {xs ys : List PyData} (h : xs.length + ys.length ≤ 16777216) : fAdd (.list xs) (.list ys) = some (.list (xs ++ ys)) := by
  show (if _ then _ else _) = _
  rw [if_pos (by rw [sizeLine_eq]; exact h)]
/-! a walk that ends at the first find -/
section
variable {as : PyData → S → Option S} {b : CS} {F : Fn} {ic : IC}
def flOf (o : Option Vx) : Fl := match o with
  | some x => .rt x
  | none => .nx
theorem for_find (R : S → Prop) (f : PyData → Option Vx) : ∀ (ds : List PyData) (s : S), R s →
    (∀ d ∈ ds, ∀ s, R s → ∃ s1 s2, as d s = some s1 ∧ b F s1 = some (flOf (f d), s2) ∧ R s2) → ∃ s', forL as b F ds s = some (flOf (ds.findSome? f), s') ∧ R s'
  | [], s, h, _ => ⟨s, rfl, h⟩
  | d :: ds, s, h, st => by
    obtain ⟨s1, s2, h1, h2, h3⟩ := st d List.mem_cons_self s h
    rw [List.findSome?_cons]
    cases hf : f d with
    | some x =>
      refine ⟨s2, ?_, h3⟩
      show (match as d s with | some s1 => _ | none => _) = _
      rw [h1]
      simp only [h2, hf]
      rfl
    | none =>
      obtain ⟨s', g1, g2⟩ := for_find R f ds s2 h3 fun d' hd s hr => st d' (List.mem_cons_of_mem _ hd) s hr
      refine ⟨s', ?_, g2⟩
      show (match as d s with | some s1 => _ | none => _) = _
      rw [h1]
      simp only [h2, hf]
      exact g1
theorem sfor_find {ds : List PyData} {s s0 : S} (hic : ic F s = some (ds, s0, [])) (R : S → Prop) (h0 : R s0) (f : PyData → Option Vx)
    (st : ∀ d ∈ ds, ∀ s, R s → ∃ s1 s2, as d s = some s1 ∧ b F s1 = some (flOf (f d), s2) ∧ R s2) : ∃ s', sFor as ic b F s = some (flOf (ds.findSome? f), s') ∧ R s' := by
  obtain ⟨s', g1, g2⟩ := for_find R f ds s0 h0 st
  refine ⟨s', ?_, g2⟩
  unfold sFor
  rw [hic]
  exact g1
end
theorem e_fl {a b : CS} {F : Fn} {s s1 : S} {o : Option Vx} {r : Option (Fl × S)} (h : a F s = some (flOf o, s1)) (h2 : o = none → b F s1 = r) (h3 : ∀ x, o = some x → r = some (.rt x, s1)) : sSeq a b F s = r := by
  cases o with
  | none => exact e_seq h (h2 rfl)
  | some x => rw [h3 x rfl]; exact e_ret h
theorem ic_rng1 {c : CE} {F : Fn} {s s1 : S} {n : Nat} (h : c F s = some (.d (Nm n), s1)) (hn : n ≤ 1000000) : icRng1 (.e c) F s = some ((List.range n).map Nm, s1, []) := by
  unfold icRng1
  simp only [evOps, Opd.ev, h]
  rw [if_pos (by unfold rgOk; simp only [Bool.and_eq_true, decide_eq_true_eq]; omega), Int.toNat_natCast, ints0]
  rfl
theorem ic_rng2 {c d : CE} {F : Fn} {s s1 s2 : S} {m n : Nat} (h : c F s = some (.d (Nm m), s1)) (h2 : d F s1 = some (.d (Nm n), s2)) (hm : m ≤ 1000000) (hn : n ≤ 1000000) : icRng2 (.e c) (.e d) F s = some ((List.range (n - m)).map (fun k => Nm (m + k)), s2, []) := by
  unfold icRng2
  simp only [evOps, Opd.ev, h, h2]
  rw [if_pos (by unfold rgOk; simp only [Bool.and_eq_true, decide_eq_true_eq]; omega), show ((n : Int) - (m : Int)).toNat = n - m by omega, ints1]
  rfl
theorem ic_any {c : CE} {F : Fn} {s s1 : S} {ds : List PyData} (h : c F s = some (.d (.list ds), s1)) : icAny (.e c) F s = some (ds, s1, []) := by
  unfold icAny
  simp only [evOps, Opd.ev, h]
  rfl
theorem dGet_some {kvs : List (PyData × PyData)} {k : PyData} : (dGet kvs k).isSome = kvs.any fun p => keq p.1 k := by
  unfold dGet
  rw [Option.isSome_map]
  exact List.isSome_find?.trans rfl |>.trans rfl
theorem inD_dict {b : Bool} {n : Nat} {P : Nat → Nat → Bool} {x y : Nat} {kvs : List (PyData × PyData)} (hx : x < n) (hy : y < n) (hk : kvs.map (·.1) = (canon n P).map pr) : fInD b (pr (x, y)) (.dict kvs) = some (.bool (xor b (P x y))) := by
  have kn : ∀ p, isKN (pr p) = true := fun p => isKN_of (itr_pr p) (Nat.le_trans (pr_depth p) (by decide))
  have hall : ∀ p ∈ kvs, ∃ q, p.1 = pr q := fun p hp => by
    have : p.1 ∈ kvs.map (·.1) := List.mem_map.mpr ⟨p, hp, rfl⟩
    rw [hk] at this
    obtain ⟨q, _, e⟩ := List.mem_map.mp this
    exact ⟨q, e.symm⟩
  have hd : dKey kvs (pr (x, y)) = true := by
    unfold dKey
    rw [kn, show (kvs.all fun p => isKN p.1) = true from List.all_eq_true.mpr fun p hp => by obtain ⟨q, e⟩ := hall p hp; rw [e]; exact kn q]
    simp
  have hg : (dGet kvs (pr (x, y))).isSome = P x y := by
    rw [dGet_some, Bool.eq_iff_iff, List.any_eq_true]
    constructor
    · rintro ⟨p, hp, e⟩
      have : p.1 ∈ kvs.map (·.1) := List.mem_map.mpr ⟨p, hp, rfl⟩
      rw [hk] at this
      obtain ⟨q, hq, e1⟩ := List.mem_map.mp this
      rw [← e1] at e
      have e2 := pr_inj ((keq_itr (itr_pr q) (itr_pr _)).mp e)
      subst e2
      exact (canon_mem.mp hq).2.2
    · intro h
      have : pr (x, y) ∈ kvs.map (·.1) := by
        rw [hk]
        exact List.mem_map.mpr ⟨(x, y), canon_mem.mpr ⟨hx, hy, h⟩, rfl⟩
      obtain ⟨p, hp, e⟩ := List.mem_map.mp this
      exact ⟨p, hp, by rw [e]; exact (keq_itr (itr_pr _) (itr_pr _)).mpr rfl⟩
  show (if dKey kvs (pr (x, y)) then some (PyData.bool (xor b (dGet kvs (pr (x, y))).isSome)) else none) = _
  rw [if_pos hd, hg]
theorem Nm_c {row : List Nat} : PyData.canLayAll0 (row.map Nm) = true := itrA_lay _ (itrA_iff.mpr fun d hd => by obtain ⟨p, _, rfl⟩ := List.mem_map.mp hd; rfl)
theorem shp_ints (row : List Nat) : shp (.list (row.map Nm)) = true := by
  show (PyData.canLay0 (.list (row.map Nm)) && decide ((PyData.list (row.map Nm)).depth ≤ 64)) = true
  have h1 : PyData.canLay0 (.list (row.map Nm)) = true := by
    have := Nm_c (row := row)
    unfold PyData.canLay0
    exact this
  have h2 : PyData.depthAll (row.map Nm) ≤ 0 := depthAll_le fun d hd => by obtain ⟨p, _, rfl⟩ := List.mem_map.mp hd; simp [PyData.depth]
  rw [h1, Bool.true_and, decide_eq_true_eq]
  simp only [PyData.depth]
  omega
theorem fne_nil (row : List Nat) : fNe (.list (row.map Nm)) (.list []) = some (.bool (!row.isEmpty)) := by
  unfold fNe
  rw [shp_ints row, show shp (.list []) = true from shp_ints [], Bool.and_self, if_pos rfl]
  cases row with
  | nil => rfl
  | cons x r => rfl
theorem feq_nil (row : List Nat) : fEq (.list (row.map Nm)) (.list []) = some (.bool (row.isEmpty)) := by
  unfold fEq
  rw [shp_ints row, show shp (.list []) = true from shp_ints [], Bool.and_self, if_pos rfl]
  cases row with
  | nil => rfl
  | cons x r => rfl
end Ev
/-! P3: ties and arrows; dicts with numbers for keys (plain). -/
namespace Ev
open PySem PySem.Spec L2
def sw (p : Nat × Nat) : Nat × Nat := (p.2, p.1)
structure TieOk (n : Nat) (P : Nat → Nat → Bool) (ties : List (Nat × Nat)) : Prop where
  nd : ties.Nodup
  lt : ∀ p ∈ ties, p.1 < p.2 ∧ p.2 < n
  iff : ∀ a b, a < n → b < n → (P a b = true ↔ (a, b) ∈ ties ∨ (b, a) ∈ ties)
theorem TieOk.nodup {n : Nat} {P : Nat → Nat → Bool} {ties : List (Nat × Nat)} (h : TieOk n P ties) : (ties ++ ties.map sw).Nodup := by
  rw [List.nodup_append]
  refine ⟨h.nd, ?_, fun a ha b hb e => ?_⟩
  · exact List.Pairwise.map sw (fun a b hab e => hab (by cases a; cases b; simp only [sw, Prod.mk.injEq] at e ⊢; exact ⟨e.2, e.1⟩)) h.nd
  · subst e
    obtain ⟨c, hc, rfl⟩ := List.mem_map.mp hb
    have h1 := h.lt _ ha
    have h2 := h.lt _ hc
    simp only [sw] at h1
    omega
theorem TieOk.mem {n : Nat} {P : Nat → Nat → Bool} {ties : List (Nat × Nat)} (h : TieOk n P ties) (p : Nat × Nat) : p ∈ ties ++ ties.map sw ↔ p ∈ canon n P := by
  rw [List.mem_append, List.mem_map, canon_mem]
  constructor
  · rintro (hp | ⟨q, hq, rfl⟩)
    · have := h.lt p hp
      exact ⟨by omega, by omega, (h.iff _ _ (by omega) (by omega)).mpr (.inl hp)⟩
    · have := h.lt q hq
      exact ⟨by simp only [sw]; omega, by simp only [sw]; omega, (h.iff _ _ (by simp only [sw]; omega) (by simp only [sw]; omega)).mpr (.inr hq)⟩
  · rintro ⟨h1, h2, h3⟩
    rcases (h.iff _ _ h1 h2).mp h3 with h | h
    · exact .inl h
    · exact .inr ⟨_, h, rfl⟩
theorem both_perm : ∀ ties : List (Nat × Nat), (ties.flatMap fun p => [p, sw p]).Perm (ties ++ ties.map sw)
  | [] => .refl _
  | p :: l => by
    rw [List.flatMap_cons, List.map_cons, List.cons_append, List.cons_append]
    refine ((both_perm l).cons (sw p)).cons p |>.trans ?_
    exact (List.perm_middle.symm).cons p
theorem TieOk.both {n : Nat} {P : Nat → Nat → Bool} {ties : List (Nat × Nat)} (h : TieOk n P ties) : sortD ((ties.flatMap fun p => [p, sw p]).map pr) = (canon n P).map pr :=
  sorted_ties ((both_perm ties).nodup_iff.mpr h.nodup) fun p => (both_perm ties).mem_iff.trans (h.mem p)
theorem TieOk.two {n : Nat} {P : Nat → Nat → Bool} {ties : List (Nat × Nat)} (h : TieOk n P ties) : sortD ((ties ++ ties.map sw).map pr) = (canon n P).map pr := sorted_ties h.nodup h.mem
section
variable {as : PyData → S → Option S} {own : List Nat} {ck cv : CE} {F : Fn} {ic : IC}
theorem dc_keys1 (E : List (Option Vx)) (src : Option Src) (f : PyData → PyData) (y : PyData) : ∀ (ds : List PyData) (acc : List (PyData × PyData)),
    (∀ d ∈ ds, ∃ s1 E1 E', as d ⟨E, src⟩ = some s1 ∧ ck F s1 = some (.d (f d), ⟨E1, src⟩) ∧ cv F ⟨E1, src⟩ = some (.d y, ⟨E', src⟩) ∧ wipeE E' own = E ∧ itr (f d) = true ∧ isK1 (f d) = true) →
    (∀ p ∈ acc, itr p.1 = true ∧ isK1 p.1 = true) → acc.length + ds.length ≤ sizeLine →
    ∀ E0, wipeE E0 own = E → ∃ kvs E2, dcL as own bYes ck cv F ds acc ⟨E0, src⟩ = some (kvs, ⟨E2, src⟩) ∧ wipeE E2 own = E ∧ kvs.map (·.1) = (ds.map f).foldl addU (acc.map (·.1))
  | [], acc, _, _, _, E0, he => ⟨acc, E0, rfl, he, rfl⟩
  | d :: ds, acc, st, ha, hz, E0, he => by
    obtain ⟨s1, E1, E', h1, h2, h3, h4, h5, h6⟩ := st d List.mem_cons_self
    rw [List.length_cons] at hz
    have hk : dKey acc (f d) = true := by
      unfold dKey
      rw [h6, show (acc.all fun p => isK1 p.1) = true from List.all_eq_true.mpr fun p hp => (ha p hp).2]
      simp
    obtain ⟨kvs, E2, g1, g2, g3⟩ := dc_keys1 E src f y ds (dPut acc (f d) y) (fun d' hd => st d' (List.mem_cons_of_mem _ hd)) (fun p hp => by
      rcases dPut_mem hp with h | ⟨_, h | ⟨q, hq, e⟩⟩
      · exact ha p h
      · rw [h]; exact ⟨h5, h6⟩
      · rw [← e]; exact ha q hq) (by have := dPut_len (kvs := acc) (k := f d) (v := y); omega) E' h4
    refine ⟨kvs, E2, ?_, g2, by rw [g3, dPut_keys h5 fun p hp => (ha p hp).1]; rfl⟩
    show (match as d (wipeS own ⟨E0, src⟩) with | some s1 => _ | none => _) = _
    rw [show wipeS own ⟨E0, src⟩ = ⟨E, src⟩ by unfold wipeS; rw [he], h1]
    show (match ck F s1 with | some (.d k, s3) => _ | _ => none) = _
    rw [h2]
    show (match cv F ⟨E1, src⟩ with | some (.d y, s4) => _ | _ => none) = _
    rw [h3]
    show (if dKey acc (f d) && decide (acc.length < sizeLine) then _ else none) = _
    rw [hk, decide_eq_true (by omega), Bool.and_self, if_pos rfl]
    exact g1
theorem cdc_keys1 {ds : List PyData} {E1 : List (Option Vx)} {src : Option Src} {s : S} (hic : ic F s = some (ds, ⟨E1, src⟩, [])) (hl : ds.length ≤ sizeLine) (f : PyData → PyData) (y : PyData)
    (st : ∀ d ∈ ds, ∃ s1 E2 E', as d ⟨wipeE E1 own, src⟩ = some s1 ∧ ck F s1 = some (.d (f d), ⟨E2, src⟩) ∧ cv F ⟨E2, src⟩ = some (.d y, ⟨E', src⟩) ∧ wipeE E' own = wipeE E1 own ∧ itr (f d) = true ∧ isK1 (f d) = true) :
    ∃ kvs, cDc own as ic bYes ck cv F s = some (.d (.dict kvs), ⟨E1, src⟩) ∧ kvs.map (·.1) = dd (ds.map f) := by
  obtain ⟨kvs, E2, g1, g2, g3⟩ := dc_keys1 (as := as) (own := own) (ck := ck) (cv := cv) (F := F) (wipeE E1 own) src f y ds [] st (fun p hp => nomatch hp) (by simpa using hl) E1 rfl
  refine ⟨kvs, ?_, g3⟩
  unfold cDc
  rw [hic]
  simp only [hl, if_true, g1]
  show some (Vx.d (.dict _), back [] (unwipeS own ⟨E1, src⟩ (wipeS own ⟨E2, src⟩))) = _
  unfold unwipeS wipeS back
  simp only [List.foldr_nil, g2, unwipe_wipe]
end
theorem lcL_cons {as : PyData → S → Option S} {own : List Nat} {t : CB} {c : CE} {F : Fn} {d y : PyData} {ds ys : List PyData} {s s1 s2 s3 s4 : S} (h1 : as d (wipeS own s) = some s1) (h2 : t F s1 = some (true, s2)) (h3 : c F s2 = some (.d y, s3)) (h4 : lcL as own t c F ds s3 = some (ys, s4)) : lcL as own t c F (d :: ds) s = some (y :: ys, s4) := by
  unfold lcL
  simp only [h1, h2, h3, h4]
theorem clc_of {as : PyData → S → Option S} {own : List Nat} {t : CB} {c : CE} {F : Fn} {ic : IC} {ds ys : List PyData} {s s1 s2 : S} (hic : ic F s = some (ds, s1, [])) (hl : ds.length ≤ sizeLine) (g : lcL as own t c F ds s1 = some (ys, s2)) : cLc own as ic t c F s = some (.d (.list ys), unwipeS own s1 (wipeS own s2)) := by
  unfold cLc
  rw [hic]
  simp only [hl, if_true, g]
  rfl
theorem inD_ints {b q : Bool} {x : Nat} {l : List Nat} {kvs : List (PyData × PyData)} (hk : ∀ d, d ∈ kvs.map (·.1) ↔ d ∈ l.map Nm) (hq : x ∈ l ↔ q = true) : fInD b (Nm x) (.dict kvs) = some (.bool (xor b q)) := by
  have hall : ∀ p ∈ kvs, ∃ i, p.1 = Nm i := fun p hp => by
    obtain ⟨i, _, e⟩ := List.mem_map.mp ((hk p.1).mp (List.mem_map.mpr ⟨p, hp, rfl⟩))
    exact ⟨i, e.symm⟩
  have hd : dKey kvs (Nm x) = true := by
    unfold dKey
    rw [show isK1 (Nm x) = true from rfl, show (kvs.all fun p => isK1 p.1) = true from List.all_eq_true.mpr fun p hp => by obtain ⟨i, e⟩ := hall p hp; rw [e]; rfl]
    rfl
  have hg : (dGet kvs (Nm x)).isSome = q := by
    rw [dGet_some, Bool.eq_iff_iff, List.any_eq_true, ← hq]
    constructor
    · rintro ⟨p, hp, e⟩
      obtain ⟨i, hi, e1⟩ := List.mem_map.mp ((hk p.1).mp (List.mem_map.mpr ⟨p, hp, rfl⟩))
      rw [← e1] at e
      rw [← Nm_inj ((keq_itr (d := Nm i) (e := Nm x) rfl rfl).mp e)]
      exact hi
    · intro h
      obtain ⟨p, hp, e⟩ := List.mem_map.mp ((hk (Nm x)).mpr (List.mem_map.mpr ⟨x, h, rfl⟩))
      exact ⟨p, hp, by rw [e]; exact (keq_itr (d := Nm x) (e := Nm x) rfl rfl).mpr rfl⟩
  show (if dKey kvs (Nm x) then some (PyData.bool (xor b (dGet kvs (Nm x)).isSome)) else none) = _
  rw [if_pos hd, hg]
end Ev
namespace L11
open PySem PySem.Spec L2 Ev PyProof.Rows
def topS (i : Nat) : Stmt := PySem.Challenge.pw_pairstoldapart_k11_whole_eyes_and_types.main.body.getD i (.Pass ⟨0, 0, 0, 0⟩)
abbrev s_row_eye : Stmt := topS 1
theorem sc_row_eye : FnScope [("web" : Str), ("row" : Str), ("colors" : Str), ("arrows" : Str), ("same" : Str), ("led" : Str), ("i" : Str), ("x" : Str), ("j" : Str), ("y" : Str)] [("web" : Str), ("row" : Str)] (defScope s_row_eye) := ⟨rfl, rfl, rfl, by decide +kernel, rfl, by decide +kernel, by decide +kernel⟩
def m_row_eye : Nat → Bool := fun i => i == 4 || i == 5
def b_row_eye : CS :=
    (sSeq (sPar [2, 3] [(cBin fIxD (.e (cVar false 0)) (.e (cC (.int 1)))), (cBin fIxD (.e (cVar false 0)) (.e (cC (.int 2))))])
    (sSeq (sPar [4, 5] [(cDisp false []), (cDisp false [])])
    (sSeq (sFor (aTup 2 (aCons (aName 6) (aCons (aName 7) aNil))) (icEnum (.e (cVar false 1))) (sFor (aTup 2 (aCons (aName 8) (aCons (aName 9) aNil))) (icEnum (.e (cVar false 1))) (sSeq (sIf (bAnd (bOf (cBin fLt (.e (cVar false 6)) (.e (cVar false 8)))) (bOf (cBin fEq (.e (cVar false 7)) (.e (cVar false 9))))) (sExpr (cAppend 4 (cDisp true [(cVar false 6), (cVar false 8)]))) sPass)
    (sIf (bOf (cBin (fInD false) (.e (cDisp true [(cVar false 7), (cVar false 9)])) (.e (cVar false 3)))) (sExpr (cAppend 5 (cDisp true [(cVar false 6), (cVar false 8)]))) sPass))))
    (sRet (cDisp true [(cNat fTuple [(.e (cLc [7] (aName 7) (icAny (.e (cVar false 1))) bYes (cBin fIxD (.e (cVar false 2)) (.e (cVar false 7)))))]), (cNat fTuple [(.pk 4)]), (cNat fTuple [(.pk 5)])])))))
abbrev s_each_once : Stmt := topS 2
theorem sc_each_once : FnScope [("types" : Str), ("known" : Str), ("one" : Str), ("text" : Str)] [("types" : Str)] (defScope s_each_once) := ⟨rfl, rfl, rfl, by decide +kernel, rfl, by decide +kernel, by decide +kernel⟩
def m_each_once : Nat → Bool := fun i => false
def b_each_once : CS :=
    (sSeq (sPar [1] [(cDc [2] (aName 2) (icAny (.e (cVar false 0))) bYes (cNat fRepr [(.e (cVar false 2))]) (cVar false 2))])
    (sRet (cNat fTuple [(.e (cLc [3] (aName 3) (icAny (.e (cNat fSortedD [(.e (cVar false 1))]))) bYes (cBin fIxD (.e (cVar false 1)) (.e (cVar false 3)))))])))
abbrev s_rank_type : Stmt := topS 3
theorem sc_rank_type : FnScope [("web" : Str), ("row" : Str), ("r" : Str), ("x" : Str)] [("web" : Str), ("row" : Str), ("r" : Str)] (defScope s_rank_type) := ⟨rfl, rfl, rfl, by decide +kernel, rfl, by decide +kernel, by decide +kernel⟩
def m_rank_type : Nat → Bool := fun i => false
def b_rank_type : CS :=
    (sSeq (sIf (bOf (cBin fEq (.e (cVar false 2)) (.e (cC (.int 0))))) (sRet (cDisp true [(cCall "row_eye" [(cVar false 0), (cVar false 1)]), (cDisp true [])])) sPass)
    (sRet (cDisp true [(cCall "row_eye" [(cVar false 0), (cVar false 1)]), (cCall "each_once" [(cLc [3] (aName 3) (icRng1 (.e (cBin fIxD (.e (cVar false 0)) (.e (cC (.int 0)))))) bYes (cCall "rank_type" [(cVar false 0), (cStar true [(true, (.e (cVar false 1))), (false, .e (cVar false 3))]), (cBin fSub (.e (cVar false 2)) (.e (cC (.int 1))))]))])])))
abbrev s_depth_of : Stmt := topS 4
theorem sc_depth_of : FnScope [("told" : Str), ("many" : Str)] [("told" : Str)] (defScope s_depth_of) := ⟨rfl, rfl, rfl, by decide +kernel, rfl, by decide +kernel, by decide +kernel⟩
def m_depth_of : Nat → Bool := fun i => false
def b_depth_of : CS :=
    (sSeq (sPar [1] [(cC (.int 0))])
    (sSeq (sWhile (bOf (cBin fNe (.e (cBin fIxD (.e (cVar false 0)) (.e (cC (.int 1))))) (.e (cDisp true [])))) (sPar [1, 0] [(cBin fAdd (.e (cVar false 1)) (.e (cC (.int 1)))), (cBin fIxD (.e (cBin fIxD (.e (cVar false 0)) (.e (cC (.int 1))))) (.e (cC (.int 0))))]))
    (sRet (cVar false 1))))
abbrev s_lowered_to : Stmt := topS 5
theorem sc_lowered_to : FnScope [("told" : Str), ("r" : Str), ("late" : Str)] [("told" : Str), ("r" : Str)] (defScope s_lowered_to) := ⟨rfl, rfl, rfl, by decide +kernel, rfl, by decide +kernel, by decide +kernel⟩
def m_lowered_to : Nat → Bool := fun i => false
def b_lowered_to : CS :=
    (sSeq (sIf (bOf (cBin fEq (.e (cVar false 1)) (.e (cC (.int 0))))) (sRet (cDisp true [(cBin fIxD (.e (cVar false 0)) (.e (cC (.int 0)))), (cDisp true [])])) sPass)
    (sRet (cDisp true [(cBin fIxD (.e (cVar false 0)) (.e (cC (.int 0)))), (cCall "each_once" [(cLc [2] (aName 2) (icAny (.e (cBin fIxD (.e (cVar false 0)) (.e (cC (.int 1)))))) bYes (cCall "lowered_to" [(cVar false 2), (cBin fSub (.e (cVar false 1)) (.e (cC (.int 1))))]))])])))
abbrev s_lowered_type : Stmt := topS 6
theorem sc_lowered_type : FnScope [("told" : Str)] [("told" : Str)] (defScope s_lowered_type) := ⟨rfl, rfl, rfl, by decide +kernel, rfl, by decide +kernel, by decide +kernel⟩
def m_lowered_type : Nat → Bool := fun i => false
def b_lowered_type : CS :=
    (sRet (cCall "lowered_to" [(cVar false 0), (cBin fSub (.e (cCall "depth_of" [(cVar false 0)])) (.e (cC (.int 1))))]))
abbrev s_are_kept : Stmt := topS 7
theorem sc_are_kept : FnScope [("one" : Str), ("a" : Str), ("other" : Str), ("b" : Str), ("r" : Str)] [("one" : Str), ("a" : Str), ("other" : Str), ("b" : Str), ("r" : Str)] (defScope s_are_kept) := ⟨rfl, rfl, rfl, by decide +kernel, rfl, by decide +kernel, by decide +kernel⟩
def m_are_kept : Nat → Bool := fun i => false
def b_are_kept : CS :=
    (sRet (cBin fEq (.e (cNat fRepr [(.e (cCall "rank_type" [(cVar false 0), (cVar false 1), (cVar false 4)]))])) (.e (cNat fRepr [(.e (cCall "rank_type" [(cVar false 2), (cVar false 3), (cVar false 4)]))]))))
abbrev s__law_source : Stmt := topS 9
theorem sc__law_source : FnScope [("script" : Str), ("stirred" : Str), ("cell" : Str), ("cells" : Str)] [("script" : Str)] (defScope s__law_source) := ⟨rfl, rfl, rfl, by decide +kernel, rfl, by decide +kernel, by decide +kernel⟩
def m__law_source : Nat → Bool := fun i => false
def b__law_source : CS :=
    (sSeq (sPar [1] [(cC (.int 11))])
    (sSeq (sFor (aName 2) (icAny (.e (cVar false 0))) (sPar [1] [(cBin fMod (.e (cNat fInt [(.e (cBin fAdd (.e (cBin fAdd (.e (cBin fMul (.e (cVar false 1)) (.e (cC (.int 69069))))) (.e (cBin fMul (.e (cVar false 2)) (.e (cC (.int 31))))))) (.e (cC (.int 5)))))])) (.e (cC (.int 2147483629))))]))
    (sSeq (sPar [3] [(cLc [2] (aName 2) (icAny (.e (cVar false 0))) bYes (cNat fAbs [(.e (cVar false 2))]))])
    (sRet (cSrc (cUn fRev (.e (cVar false 3))) (cC (.int 1)) (cVar false 1) (cC (.int 0)))))))
abbrev s__law_pick : Stmt := topS 10
theorem sc__law_pick : FnScope [("source" : Str), ("most" : Str), ("cells" : Str), ("others" : Str), ("lap" : Str), ("stirred" : Str)] [("source" : Str), ("most" : Str)] (defScope s__law_pick) := ⟨rfl, rfl, rfl, by decide +kernel, rfl, by decide +kernel, by decide +kernel⟩
def m__law_pick : Nat → Bool := fun i => false
def b__law_pick : CS :=
    (sSeq (sIf (bOf (cBin fLt (.e (cVar false 1)) (.e (cC (.int 2))))) (sRet (cC (.int 0))) sPass)
    (sSeq (sPar [2] [(cCells 0)])
    (sSeq (sWhile (bAnd (bOf (cBin fLt (.e (cSF .left 0)) (.e (cC (.int 2))))) (bOf (cBin fGt (.e (cLenS (cVar false 2))) (.e (cC (.int 0)))))) (sSF .left 0 (cPopS (cVar false 2))))
    (sSeq (sPar [3] [(cSF .left 0)])
    (sSeq (sIf (bOf (cBin fGt (.e (cVar false 3)) (.e (cC (.int 1))))) (sSeq (sSF .left 0 (cBin fDiv (.e (cVar false 3)) (.e (cVar false 1))))
    (sRet (cBin fMod (.e (cNat fInt [(.e (cVar false 3))])) (.e (cVar false 1))))) sPass)
    (sSeq (sSF .turn 0 (cBin fAdd (.e (cSF .turn 0)) (.e (cC (.int 1)))))
    (sSeq (sPar [4] [(cSF .turn 0)])
    (sSeq (sPar [5] [(cBin fMod (.e (cNat fInt [(.e (cBin fAdd (.e (cSF .mixed 0)) (.e (cBin fMul (.e (cVar false 4)) (.e (cC (.int 104729)))))))])) (.e (cC (.int 998244353))))])
    (sSeq (sPar [5] [(cBin fMod (.e (cNat fInt [(.e (cBin fAdd (.e (cBin fMul (.e (cVar false 5)) (.e (cVar false 5)))) (.e (cBin fMul (.e (cVar false 4)) (.e (cC (.int 17)))))))])) (.e (cC (.int 2147483647))))])
    (sRet (cBin fMod (.e (cNat fInt [(.e (cBin fDiv (.e (cVar false 5)) (.e (cC (.int 16)))))])) (.e (cVar false 1)))))))))))))
abbrev s__law_of : Stmt := topS 11
theorem sc__law_of : FnScope [("source" : Str), ("some" : Str)] [("source" : Str), ("some" : Str)] (defScope s__law_of) := ⟨rfl, rfl, rfl, by decide +kernel, rfl, by decide +kernel, by decide +kernel⟩
def m__law_of : Nat → Bool := fun i => false
def b__law_of : CS :=
    (sRet (cBin fIxD (.e (cVar false 1)) (.e (cCall "_law_pick" [(cVar false 0), (cNat fLenD [(.e (cVar false 1))])]))))
abbrev s__law_mixed : Stmt := topS 12
theorem sc__law_mixed : FnScope [("source" : Str), ("things" : Str), ("others" : Str), ("lap" : Str)] [("source" : Str), ("things" : Str)] (defScope s__law_mixed) := ⟨rfl, rfl, rfl, by decide +kernel, rfl, by decide +kernel, by decide +kernel⟩
def m__law_mixed : Nat → Bool := fun i => i == 2
def b__law_mixed : CS :=
    (sSeq (sPar [2] [(cNat fListD [(.e (cVar false 1))])])
    (sRet (cLc [3] (aName 3) (icRng1 (.e (cNat fLenD [(.pk 2)]))) bYes (cPopAt 2 (cCall "_law_pick" [(cVar false 0), (cNat fLenD [(.pk 2)])])))))
abbrev s__law_told_web : Stmt := topS 13
theorem sc__law_told_web : FnScope [("n" : Str), ("colors" : Str), ("arrows" : Str), ("pair" : Str)] [("n" : Str), ("colors" : Str), ("arrows" : Str)] (defScope s__law_told_web) := ⟨rfl, rfl, rfl, by decide +kernel, rfl, by decide +kernel, by decide +kernel⟩
def m__law_told_web : Nat → Bool := fun i => false
def b__law_told_web : CS :=
    (sRet (cDisp true [(cVar false 0), (cNat fTuple [(.e (cVar false 1))]), (cNat fTuple [(.e (cNat fSortedD [(.e (cNat fDict [(.e (cLc [3] (aName 3) (icAny (.e (cVar false 2))) bYes (cDisp true [(cVar false 3), (cC (.int 0))])))]))]))])]))
abbrev s__law_web : Stmt := topS 14
theorem sc__law_web : FnScope [("source" : Str), ("most" : Str), ("n" : Str), ("way" : Str), ("high" : Str), ("share" : Str), ("arrows" : Str), ("a" : Str), ("b" : Str)] [("source" : Str), ("most" : Str)] (defScope s__law_web) := ⟨rfl, rfl, rfl, by decide +kernel, rfl, by decide +kernel, by decide +kernel⟩
def m__law_web : Nat → Bool := fun i => false
def b__law_web : CS :=
    (sSeq (sPar [2, 3] [(cBin fAdd (.e (cC (.int 1))) (.e (cCall "_law_pick" [(cVar false 0), (cVar false 1)]))), (cCall "_law_pick" [(cVar false 0), (cC (.int 5))])])
    (sSeq (sPar [4, 5, 6] [(cCall "_law_of" [(cVar false 0), (cDisp false [(cC (.int 1)), (cC (.int 1)), (cC (.int 2))])]), (cCall "_law_pick" [(cVar false 0), (cC (.int 5))]), (cDisp false [])])
    (sSeq (sFor (aName 7) (icRng1 (.e (cVar false 2))) (sPar [6] [(cBin fAdd (.e (cVar false 6)) (.e (cLc [8] (aName 8) (icRng1 (.e (cVar false 2))) (bAnd (bOf (cBin fNe (.e (cVar false 7)) (.e (cVar false 8)))) (bOf (cBin fLt (.e (cCall "_law_pick" [(cVar false 0), (cC (.int 4))])) (.e (cVar false 5))))) (cDisp true [(cVar false 7), (cVar false 8)]))))]))
    (sSeq (sIf (bOf (cBin fEq (.e (cVar false 3)) (.e (cC (.int 1))))) (sPar [6] [(cBin fAdd (.e (cVar false 6)) (.e (cLc [7, 8] (aTup 2 (aCons (aName 7) (aCons (aName 8) aNil))) (icAny (.e (cVar false 6))) bYes (cDisp true [(cVar false 8), (cVar false 7)]))))]) sPass)
    (sSeq (sIf (bOf (cBin fEq (.e (cVar false 3)) (.e (cC (.int 2))))) (sPar [6] [(cLc [7] (aName 7) (icRng1 (.e (cVar false 2))) (bOf (cBin fGt (.e (cVar false 2)) (.e (cC (.int 1))))) (cDisp true [(cVar false 7), (cBin fMod (.e (cNat fInt [(.e (cBin fAdd (.e (cVar false 7)) (.e (cC (.int 1)))))])) (.e (cVar false 2)))]))]) sPass)
    (sSeq (sIf (bOf (cBin fEq (.e (cVar false 3)) (.e (cC (.int 3))))) (sPar [6] [(cLc [7] (aName 7) (icRng1 (.e (cBin fSub (.e (cVar false 2)) (.e (cC (.int 1)))))) bYes (cDisp true [(cVar false 7), (cBin fAdd (.e (cVar false 7)) (.e (cC (.int 1))))]))]) sPass)
    (sRet (cCall "_law_told_web" [(cVar false 2), (cLc [7] (aName 7) (icRng1 (.e (cVar false 2))) bYes (cCall "_law_pick" [(cVar false 0), (cVar false 4)])), (cVar false 6)]))))))))
abbrev s__law_called : Stmt := topS 15
theorem sc__law_called : FnScope [("source" : Str), ("web" : Str), ("names" : Str), ("colors" : Str), ("a" : Str), ("color" : Str), ("b" : Str)] [("source" : Str), ("web" : Str)] (defScope s__law_called) := ⟨rfl, rfl, rfl, by decide +kernel, rfl, by decide +kernel, by decide +kernel⟩
def m__law_called : Nat → Bool := fun i => i == 3
def b__law_called : CS :=
    (sSeq (sPar [2, 3] [(cCall "_law_mixed" [(cVar false 0), (cLRng (.e (cBin fIxD (.e (cVar false 1)) (.e (cC (.int 0))))))]), (cBin fMul (.e (cDisp false [(cC (.int 0))])) (.e (cBin fIxD (.e (cVar false 1)) (.e (cC (.int 0))))))])
    (sSeq (sFor (aTup 2 (aCons (aName 4) (aCons (aName 5) aNil))) (icEnum (.e (cBin fIxD (.e (cVar false 1)) (.e (cC (.int 1)))))) (sSetS 3 (cVar false 5) (cBin fIxD (.e (cVar false 2)) (.e (cVar false 4)))))
    (sRet (cCall "_law_told_web" [(cBin fIxD (.e (cVar false 1)) (.e (cC (.int 0)))), (cSh 3), (cLc [4, 6] (aTup 2 (aCons (aName 4) (aCons (aName 6) aNil))) (icAny (.e (cBin fIxD (.e (cVar false 1)) (.e (cC (.int 2)))))) bYes (cDisp true [(cBin fIxD (.e (cVar false 2)) (.e (cVar false 4))), (cBin fIxD (.e (cVar false 2)) (.e (cVar false 6)))]))]))))
abbrev s__law_other : Stmt := topS 16
theorem sc__law_other : FnScope [("source" : Str), ("web" : Str), ("most" : Str), ("way" : Str), ("n" : Str), ("colors" : Str), ("arrows" : Str), ("a" : Str), ("b" : Str), ("some" : Str), ("k" : Str), ("pair" : Str)] [("source" : Str), ("web" : Str), ("most" : Str)] (defScope s__law_other) := ⟨rfl, rfl, rfl, by decide +kernel, rfl, by decide +kernel, by decide +kernel⟩
def m__law_other : Nat → Bool := fun i => false
def b__law_other : CS :=
    (sSeq (sPar [3] [(cCall "_law_pick" [(cVar false 0), (cC (.int 6))])])
    (sSeq (sAsg (aUnp 3 (aCons (aName 4) (aCons (aName 5) (aCons (aName 6) aNil)))) (cCall "_law_called" [(cVar false 0), (cVar false 1)]))
    (sSeq (sIf (bOf (cBin fEq (.e (cVar false 3)) (.e (cC (.int 0))))) (sRet (cDisp true [(cVar false 4), (cVar false 5), (cVar false 6)])) sPass)
    (sSeq (sIf (bAnd (bOf (cBin (fInD false) (.e (cVar false 3)) (.e (cDisp true [(cC (.int 1)), (cC (.int 2))])))) (bOf (cBin fGt (.e (cVar false 4)) (.e (cC (.int 1)))))) (sSeq (sAsg (aUnp 2 (aCons (aName 7) (aCons (aName 8) aNil))) (cCut (.e (cCall "_law_mixed" [(cVar false 0), (cLRng (.e (cVar false 4)))])) none (some (.e (cC (.int 2))))))
    (sSeq (sPar [9] [(cLc [11] (aName 11) (icAny (.e (cVar false 6))) (bOf (cBin fNe (.e (cVar false 11)) (.e (cDisp true [(cVar false 7), (cVar false 8)])))) (cVar false 11))])
    (sRet (cCall "_law_told_web" [(cVar false 4), (cVar false 5), (cIf (bOf (cBin (fInD false) (.e (cDisp true [(cVar false 7), (cVar false 8)])) (.e (cVar false 6)))) (cVar false 9) (cBin fAdd (.e (cVar false 9)) (.e (cDisp false [(cDisp true [(cVar false 7), (cVar false 8)])]))))])))) sPass)
    (sSeq (sIf (bOf (cBin fEq (.e (cVar false 3)) (.e (cC (.int 3))))) (sSeq (sPar [10] [(cCall "_law_pick" [(cVar false 0), (cVar false 4)])])
    (sRet (cDisp true [(cVar false 4), (cBin fAdd (.e (cBin fAdd (.e (cCut (.e (cVar false 5)) none (some (.e (cVar false 10))))) (.e (cDisp true [(cCall "_law_pick" [(cVar false 0), (cC (.int 2))])])))) (.e (cCut (.e (cVar false 5)) (some (.e (cBin fAdd (.e (cVar false 10)) (.e (cC (.int 1)))))) none))), (cVar false 6)]))) sPass)
    (sSeq (sIf (bAnd (bOf (cBin fEq (.e (cVar false 3)) (.e (cC (.int 4))))) (bOf (cBin fLt (.e (cVar false 4)) (.e (cVar false 2))))) (sRet (cDisp true [(cBin fAdd (.e (cVar false 4)) (.e (cC (.int 1)))), (cBin fAdd (.e (cVar false 5)) (.e (cCut (.e (cVar false 5)) none (some (.e (cC (.int 1))))))), (cVar false 6)])) sPass)
    (sRet (cCall "_law_web" [(cVar false 0), (cVar false 2)]))))))))
abbrev s__law_is_same : Stmt := topS 17
theorem sc__law_is_same : FnScope [("one" : Str), ("a" : Str), ("other" : Str), ("b" : Str), ("i" : Str), ("j" : Str)] [("one" : Str), ("a" : Str), ("other" : Str), ("b" : Str)] (defScope s__law_is_same) := ⟨rfl, rfl, rfl, by decide +kernel, rfl, by decide +kernel, by decide +kernel⟩
def m__law_is_same : Nat → Bool := fun i => false
def b__law_is_same : CS :=
    (sSeq (sFor (aName 4) (icRng1 (.e (cNat fLenD [(.e (cVar false 1))]))) (sSeq (sIf (bOf (cBin fNe (.e (cBin fIxD (.e (cBin fIxD (.e (cVar false 0)) (.e (cC (.int 1))))) (.e (cBin fIxD (.e (cVar false 1)) (.e (cVar false 4)))))) (.e (cBin fIxD (.e (cBin fIxD (.e (cVar false 2)) (.e (cC (.int 1))))) (.e (cBin fIxD (.e (cVar false 3)) (.e (cVar false 4)))))))) (sRet (cC (.bool false))) sPass)
    (sFor (aName 5) (icRng1 (.e (cNat fLenD [(.e (cVar false 1))]))) (sIf (bOr (bOf (cBin fNe (.e (cBin fEq (.e (cBin fIxD (.e (cVar false 1)) (.e (cVar false 4)))) (.e (cBin fIxD (.e (cVar false 1)) (.e (cVar false 5)))))) (.e (cBin fEq (.e (cBin fIxD (.e (cVar false 3)) (.e (cVar false 4)))) (.e (cBin fIxD (.e (cVar false 3)) (.e (cVar false 5)))))))) (bOf (cBin fNe (.e (cBin (fInD false) (.e (cDisp true [(cBin fIxD (.e (cVar false 1)) (.e (cVar false 4))), (cBin fIxD (.e (cVar false 1)) (.e (cVar false 5)))])) (.e (cBin fIxD (.e (cVar false 0)) (.e (cC (.int 2))))))) (.e (cBin (fInD false) (.e (cDisp true [(cBin fIxD (.e (cVar false 3)) (.e (cVar false 4))), (cBin fIxD (.e (cVar false 3)) (.e (cVar false 5)))])) (.e (cBin fIxD (.e (cVar false 2)) (.e (cC (.int 2)))))))))) (sRet (cC (.bool false))) sPass))))
    (sRet (cC (.bool true))))
abbrev s__law_is_kept : Stmt := topS 18
theorem sc__law_is_kept : FnScope [("one" : Str), ("a" : Str), ("other" : Str), ("b" : Str), ("r" : Str), ("table" : Str), ("x" : Str), ("y" : Str), ("row" : Str)] [("one" : Str), ("a" : Str), ("other" : Str), ("b" : Str), ("r" : Str)] (defScope s__law_is_kept) := ⟨rfl, rfl, rfl, by decide +kernel, rfl, by decide +kernel, by decide +kernel⟩
def m__law_is_kept : Nat → Bool := fun i => i == 5
def b__law_is_kept : CS :=
    (sSeq (sIf (bNot (bTru (.e (cCall "_law_is_same" [(cVar false 0), (cVar false 1), (cVar false 2), (cVar false 3)])))) (sRet (cC (.bool false))) sPass)
    (sSeq (sIf (bOf (cBin fEq (.e (cVar false 4)) (.e (cC (.int 0))))) (sRet (cC (.bool true))) sPass)
    (sSeq (sPar [5] [(cDisp false [])])
    (sSeq (sFor (aName 6) (icRng1 (.e (cBin fIxD (.e (cVar false 0)) (.e (cC (.int 0)))))) (sExpr (cAppend 5 (cLc [7] (aName 7) (icRng1 (.e (cBin fIxD (.e (cVar false 2)) (.e (cC (.int 0)))))) bYes (cCall "_law_is_kept" [(cVar false 0), (cBin fAdd (.e (cVar false 1)) (.e (cDisp true [(cVar false 6)]))), (cVar false 2), (cBin fAdd (.e (cVar false 3)) (.e (cDisp true [(cVar false 7)]))), (cBin fSub (.e (cVar false 4)) (.e (cC (.int 1))))])))))
    (sSeq (sIf (bOf (cBin fNe (.e (cLc [8] (aName 8) (icAny (.pk 5)) (bOf (cBin (fInD true) (.e (cC (.bool true))) (.e (cVar false 8)))) (cVar false 8))) (.e (cDisp false [])))) (sRet (cC (.bool false))) sPass)
    (sRet (cBin fEq (.e (cLc [7] (aName 7) (icRng1 (.e (cBin fIxD (.e (cVar false 2)) (.e (cC (.int 0)))))) (bOf (cBin (fInD true) (.e (cC (.bool true))) (.e (cLc [8] (aName 8) (icAny (.pk 5)) bYes (cBin fIxD (.e (cVar false 8)) (.e (cVar false 7))))))) (cVar false 7))) (.e (cDisp false [])))))))))
abbrev s__law_row : Stmt := topS 19
theorem sc__law_row : FnScope [("source" : Str), ("web" : Str), ("many" : Str), ("place" : Str)] [("source" : Str), ("web" : Str), ("many" : Str)] (defScope s__law_row) := ⟨rfl, rfl, rfl, by decide +kernel, rfl, by decide +kernel, by decide +kernel⟩
def m__law_row : Nat → Bool := fun i => false
def b__law_row : CS :=
    (sRet (cNat fTuple [(.e (cLc [3] (aName 3) (icRng1 (.e (cVar false 2))) bYes (cCall "_law_pick" [(cVar false 0), (cBin fIxD (.e (cVar false 1)) (.e (cC (.int 0))))])))]))
abbrev s__law_eye : Stmt := topS 20
theorem sc__law_eye : FnScope [("web" : Str), ("row" : Str), ("places" : Str), ("same" : Str), ("led" : Str), ("i" : Str), ("j" : Str), ("x" : Str)] [("web" : Str), ("row" : Str)] (defScope s__law_eye) := ⟨rfl, rfl, rfl, by decide +kernel, rfl, by decide +kernel, by decide +kernel⟩
def m__law_eye : Nat → Bool := fun i => false
def b__law_eye : CS :=
    (sSeq (sPar [2] [(cLRng (.e (cNat fLenD [(.e (cVar false 1))])))])
    (sSeq (sPar [3, 4] [(cDisp false []), (cDisp false [])])
    (sSeq (sFor (aName 5) (icAny (.e (cVar false 2))) (sSeq (sPar [3] [(cBin fAdd (.e (cVar false 3)) (.e (cLc [6] (aName 6) (icAny (.e (cVar false 2))) (bAnd (bOf (cBin fLt (.e (cVar false 5)) (.e (cVar false 6)))) (bOf (cBin fEq (.e (cBin fIxD (.e (cVar false 1)) (.e (cVar false 5)))) (.e (cBin fIxD (.e (cVar false 1)) (.e (cVar false 6))))))) (cDisp true [(cVar false 5), (cVar false 6)]))))])
    (sPar [4] [(cBin fAdd (.e (cVar false 4)) (.e (cLc [6] (aName 6) (icAny (.e (cVar false 2))) (bOf (cBin (fInD false) (.e (cDisp true [(cBin fIxD (.e (cVar false 1)) (.e (cVar false 5))), (cBin fIxD (.e (cVar false 1)) (.e (cVar false 6)))])) (.e (cBin fIxD (.e (cVar false 0)) (.e (cC (.int 2))))))) (cDisp true [(cVar false 5), (cVar false 6)]))))])))
    (sRet (cDisp true [(cNat fTuple [(.e (cLc [7] (aName 7) (icAny (.e (cVar false 1))) bYes (cBin fIxD (.e (cBin fIxD (.e (cVar false 0)) (.e (cC (.int 1))))) (.e (cVar false 7)))))]), (cNat fTuple [(.e (cVar false 3))]), (cNat fTuple [(.e (cVar false 4))])])))))
abbrev s__law_once : Stmt := topS 21
theorem sc__law_once : FnScope [("types" : Str), ("known" : Str), ("one" : Str), ("text" : Str)] [("types" : Str)] (defScope s__law_once) := ⟨rfl, rfl, rfl, by decide +kernel, rfl, by decide +kernel, by decide +kernel⟩
def m__law_once : Nat → Bool := fun i => false
def b__law_once : CS :=
    (sSeq (sPar [1] [(cNat fDict [(.e (cLc [2] (aName 2) (icAny (.e (cVar false 0))) bYes (cDisp true [(cNat fRepr [(.e (cVar false 2))]), (cVar false 2)])))])])
    (sRet (cNat fTuple [(.e (cLc [3] (aName 3) (icAny (.e (cNat fSortedD [(.e (cVar false 1))]))) bYes (cBin fIxD (.e (cVar false 1)) (.e (cVar false 3)))))])))
abbrev s__law_type : Stmt := topS 22
theorem sc__law_type : FnScope [("web" : Str), ("row" : Str), ("r" : Str), ("x" : Str)] [("web" : Str), ("row" : Str), ("r" : Str)] (defScope s__law_type) := ⟨rfl, rfl, rfl, by decide +kernel, rfl, by decide +kernel, by decide +kernel⟩
def m__law_type : Nat → Bool := fun i => false
def b__law_type : CS :=
    (sSeq (sIf (bOf (cBin fEq (.e (cVar false 2)) (.e (cC (.int 0))))) (sRet (cDisp true [(cCall "_law_eye" [(cVar false 0), (cVar false 1)]), (cDisp true [])])) sPass)
    (sRet (cDisp true [(cCall "_law_eye" [(cVar false 0), (cVar false 1)]), (cCall "_law_once" [(cLc [3] (aName 3) (icRng1 (.e (cBin fIxD (.e (cVar false 0)) (.e (cC (.int 0)))))) bYes (cCall "_law_type" [(cVar false 0), (cBin fAdd (.e (cVar false 1)) (.e (cDisp true [(cVar false 3)]))), (cBin fSub (.e (cVar false 2)) (.e (cC (.int 1))))]))])])))
abbrev s_law : Stmt := topS 23
theorem sc_law : FnScope [("script" : Str), ("source" : Str), ("lap" : Str), ("one" : Str), ("other" : Str), ("kept" : Str), ("look" : Str), ("k" : Str), ("a" : Str), ("b" : Str), ("r" : Str), ("told" : Str), ("due" : Str), ("places" : Str), ("late" : Str), ("place" : Str), ("row" : Str), ("i" : Str)] [("script" : Str)] (defScope s_law) := ⟨rfl, rfl, rfl, by decide +kernel, rfl, by decide +kernel, by decide +kernel⟩
def m_law : Nat → Bool := fun i => false
def b_law : CS :=
    (sSeq (sPar [1] [(cCall "_law_source" [(cVar false 0)])])
    (sSeq (sFor (aName 2) (icRng1 (.e (cC (.int 3)))) (sSeq (sPar [3] [(cCall "_law_web" [(cVar false 1), (cBin fIxD (.e (cDisp false [(cC (.int 3)), (cC (.int 4)), (cC (.int 5))])) (.e (cVar false 2)))])])
    (sSeq (sPar [4] [(cCall "_law_other" [(cVar false 1), (cVar false 3), (cBin fIxD (.e (cDisp false [(cC (.int 3)), (cC (.int 4)), (cC (.int 5))])) (.e (cVar false 2)))])])
    (sSeq (sPar [5] [(cNat fRepr [(.e (cDisp false [(cVar false 3), (cVar false 4)]))])])
    (sSeq (sFor (aName 6) (icRng1 (.e (cC (.int 3)))) (sSeq (sPar [7] [(cCall "_law_pick" [(cVar false 1), (cC (.int 3))])])
    (sSeq (sPar [8, 9, 10] [(cCall "_law_row" [(cVar false 1), (cVar false 3), (cVar false 7)]), (cCall "_law_row" [(cVar false 1), (cVar false 4), (cVar false 7)]), (cCall "_law_pick" [(cVar false 1), (cIf (bOf (cBin fGt (.e (cVar false 7)) (.e (cC (.int 1))))) (cC (.int 3)) (cBin fSub (.e (cC (.int 4))) (.e (cVar false 7))))])])
    (sSeq (sIf (bAnd (bOf (cBin fGt (.e (cBin fIxD (.e (cVar false 3)) (.e (cC (.int 0))))) (.e (cC (.int 4))))) (bOf (cBin fGt (.e (cVar false 10)) (.e (cC (.int 2)))))) (sPar [10] [(cC (.int 2))]) sPass)
    (sSeq (sIf (bOf (cBin fNe (.e (cNat fRepr [(.e (cDisp false [(cCall "row_eye" [(cVar false 3), (cVar false 8)]), (cCall "row_eye" [(cVar false 4), (cVar false 9)])]))])) (.e (cNat fRepr [(.e (cDisp false [(cCall "_law_eye" [(cVar false 3), (cVar false 8)]), (cCall "_law_eye" [(cVar false 4), (cVar false 9)])]))])))) (sRet (cC (.bool false))) sPass)
    (sSeq (sPar [11] [(cCall "rank_type" [(cVar false 3), (cVar false 8), (cVar false 10)])])
    (sSeq (sIf (bOf (cBin fNe (.e (cNat fRepr [(.e (cDisp false [(cVar false 11), (cCall "rank_type" [(cVar false 4), (cVar false 9), (cVar false 10)])]))])) (.e (cNat fRepr [(.e (cDisp false [(cCall "_law_type" [(cVar false 3), (cVar false 8), (cVar false 10)]), (cCall "_law_type" [(cVar false 4), (cVar false 9), (cVar false 10)])]))])))) (sRet (cC (.bool false))) sPass)
    (sSeq (sIf (bAnd (bOf (cBin fGt (.e (cVar false 10)) (.e (cC (.int 0))))) (bOf (cBin fNe (.e (cNat fRepr [(.e (cCall "lowered_type" [(cVar false 11)]))])) (.e (cNat fRepr [(.e (cCall "_law_type" [(cVar false 3), (cVar false 8), (cBin fSub (.e (cVar false 10)) (.e (cC (.int 1))))]))]))))) (sRet (cC (.bool false))) sPass)
    (sSeq (sPar [12] [(cCall "_law_is_kept" [(cVar false 3), (cVar false 8), (cVar false 4), (cVar false 9), (cVar false 10)])])
    (sSeq (sIf (bOf (cBin fNe (.e (cNat fRepr [(.e (cCall "are_kept" [(cVar false 3), (cVar false 8), (cVar false 4), (cVar false 9), (cVar false 10)]))])) (.e (cNat fRepr [(.e (cVar false 12))])))) (sRet (cC (.bool false))) sPass)
    (sSeq (sIf (bOr (bOf (cBin fNe (.e (cBin fEq (.e (cNat fRepr [(.e (cVar false 11))])) (.e (cNat fRepr [(.e (cCall "rank_type" [(cVar false 4), (cVar false 9), (cVar false 10)]))])))) (.e (cVar false 12)))) (bOf (cBin fNe (.e (cCall "are_kept" [(cVar false 4), (cVar false 9), (cVar false 3), (cVar false 8), (cVar false 10)])) (.e (cVar false 12))))) (sRet (cC (.bool false))) sPass)
    (sSeq (sPar [13] [(cLc [15] (aName 15) (icRng1 (.e (cIf (bOf (cBin fGt (.e (cVar false 7)) (.e (cC (.int 0))))) (cCall "_law_pick" [(cVar false 1), (cC (.int 3))]) (cC (.int 0))))) bYes (cCall "_law_pick" [(cVar false 1), (cVar false 7)]))])
    (sSeq (sPar [14] [(cLc [16] (aName 16) (icAny (.e (cDisp true [(cVar false 8), (cVar false 9)]))) bYes (cNat fTuple [(.e (cLc [17] (aName 17) (icAny (.e (cVar false 13))) bYes (cBin fIxD (.e (cVar false 16)) (.e (cVar false 17)))))]))])
    (sSeq (sIf (bAnd (bTru (.e (cVar false 12))) (bNot (bTru (.e (cCall "are_kept" [(cVar false 3), (cBin fIxD (.e (cVar false 14)) (.e (cC (.int 0)))), (cVar false 4), (cBin fIxD (.e (cVar false 14)) (.e (cC (.int 1)))), (cVar false 10)]))))) (sRet (cC (.bool false))) sPass)
    (sIf (bAnd (bTru (.e (cVar false 12))) (bAnd (bOf (cBin fGt (.e (cVar false 10)) (.e (cC (.int 0))))) (bNot (bTru (.e (cCall "are_kept" [(cVar false 3), (cVar false 8), (cVar false 4), (cVar false 9), (cBin fSub (.e (cVar false 10)) (.e (cC (.int 1))))])))))) (sRet (cC (.bool false))) sPass)))))))))))))))
    (sIf (bOf (cBin fNe (.e (cNat fRepr [(.e (cDisp false [(cVar false 3), (cVar false 4)]))])) (.e (cVar false 5)))) (sRet (cC (.bool false))) sPass))))))
    (sRet (cBin fEq (.e (cCall "row_eye" [(cDisp true [(cC (.int 2)), (cDisp true [(cC (.int 5)), (cC (.int 5))]), (cDisp true [(cDisp true [(cC (.int 0)), (cC (.int 1))])])]), (cDisp true [(cC (.int 0)), (cC (.int 0)), (cC (.int 1))])])) (.e (cDisp true [(cDisp true [(cC (.int 5)), (cC (.int 5)), (cC (.int 5))]), (cDisp true [(cDisp true [(cC (.int 0)), (cC (.int 1))])]), (cDisp true [(cDisp true [(cC (.int 0)), (cC (.int 2))]), (cDisp true [(cC (.int 1)), (cC (.int 2))])])]))))))
def T : String → Option FnDef
  | "row_eye" => some ⟨2, 10, b_row_eye⟩
  | "each_once" => some ⟨1, 4, b_each_once⟩
  | "rank_type" => some ⟨3, 4, b_rank_type⟩
  | "depth_of" => some ⟨1, 2, b_depth_of⟩
  | "lowered_to" => some ⟨2, 3, b_lowered_to⟩
  | "lowered_type" => some ⟨1, 1, b_lowered_type⟩
  | "are_kept" => some ⟨5, 5, b_are_kept⟩
  | "_law_source" => some ⟨1, 4, b__law_source⟩
  | "_law_pick" => some ⟨2, 6, b__law_pick⟩
  | "_law_of" => some ⟨2, 2, b__law_of⟩
  | "_law_mixed" => some ⟨2, 4, b__law_mixed⟩
  | "_law_told_web" => some ⟨3, 4, b__law_told_web⟩
  | "_law_web" => some ⟨2, 9, b__law_web⟩
  | "_law_called" => some ⟨2, 7, b__law_called⟩
  | "_law_other" => some ⟨3, 12, b__law_other⟩
  | "_law_is_same" => some ⟨4, 6, b__law_is_same⟩
  | "_law_is_kept" => some ⟨5, 9, b__law_is_kept⟩
  | "_law_row" => some ⟨3, 4, b__law_row⟩
  | "_law_eye" => some ⟨2, 8, b__law_eye⟩
  | "_law_once" => some ⟨1, 4, b__law_once⟩
  | "_law_type" => some ⟨3, 4, b__law_type⟩
  | "law" => some ⟨1, 18, b_law⟩
  | _ => none
structure Bs (mg : Str → Option Value) : Prop where
  abs : mg ("abs" : Str) = none
  dict : mg ("dict" : Str) = none
  enumerate : mg ("enumerate" : Str) = none
  int : mg ("int" : Str) = none
  len : mg ("len" : Str) = none
  list : mg ("list" : Str) = none
  range : mg ("range" : Str) = none
  repr : mg ("repr" : Str) = none
  sorted : mg ("sorted" : Str) = none
  tuple : mg ("tuple" : Str) = none
structure Cs (P : Program) (w : World) (K : PySem.W.Frag) (mg : Str → Option Value) (base : Heap) (F : Fn) (k : Nat) : Prop where
  row_eye : Callee P w K mg base F k "row_eye" ("row_eye" : Str) 2
  each_once : Callee P w K mg base F k "each_once" ("each_once" : Str) 1
  rank_type : Callee P w K mg base F k "rank_type" ("rank_type" : Str) 3
  depth_of : Callee P w K mg base F k "depth_of" ("depth_of" : Str) 1
  lowered_to : Callee P w K mg base F k "lowered_to" ("lowered_to" : Str) 2
  lowered_type : Callee P w K mg base F k "lowered_type" ("lowered_type" : Str) 1
  are_kept : Callee P w K mg base F k "are_kept" ("are_kept" : Str) 5
  _law_source : Callee P w K mg base F k "_law_source" ("_law_source" : Str) 1
  _law_pick : Callee P w K mg base F k "_law_pick" ("_law_pick" : Str) 2
  _law_of : Callee P w K mg base F k "_law_of" ("_law_of" : Str) 2
  _law_mixed : Callee P w K mg base F k "_law_mixed" ("_law_mixed" : Str) 2
  _law_told_web : Callee P w K mg base F k "_law_told_web" ("_law_told_web" : Str) 3
  _law_web : Callee P w K mg base F k "_law_web" ("_law_web" : Str) 2
  _law_called : Callee P w K mg base F k "_law_called" ("_law_called" : Str) 2
  _law_other : Callee P w K mg base F k "_law_other" ("_law_other" : Str) 3
  _law_is_same : Callee P w K mg base F k "_law_is_same" ("_law_is_same" : Str) 4
  _law_is_kept : Callee P w K mg base F k "_law_is_kept" ("_law_is_kept" : Str) 5
  _law_row : Callee P w K mg base F k "_law_row" ("_law_row" : Str) 3
  _law_eye : Callee P w K mg base F k "_law_eye" ("_law_eye" : Str) 2
  _law_once : Callee P w K mg base F k "_law_once" ("_law_once" : Str) 1
  _law_type : Callee P w K mg base F k "_law_type" ("_law_type" : Str) 3
  law : Callee P w K mg base F k "law" ("law" : Str) 1
section
variable {P : Program} {w : World} {K : PySem.W.Frag} {mg : Str → Option Value} {base : Heap} {F : Fn} {k : Nat}
theorem pb_row_eye {f : Addr} (C : Cs P w K mg base F k) (B : Bs mg) (cdv : Value) (A : Around) (outer : List Env) (s : Shared) (H : Hp) (hr : Room k (A.deeper (envOfC "row_eye" (defScope s_row_eye) s.heap.objs.size f cdv))) (hgd : (A.deeper (envOfC "row_eye" (defScope s_row_eye) s.heap.objs.size f cdv)).guards = some []) :
    PSs (cxG P w K mg base [("web" : Str), ("row" : Str), ("colors" : Str), ("arrows" : Str), ("same" : Str), ("led" : Str), ("i" : Str), ("x" : Str), ("j" : Str), ("y" : Str)] "row_eye" (defScope s_row_eye) f cdv A outer s H) (defBody s_row_eye) (TSt ⟨K, w, P⟩ F m_row_eye b_row_eye) := by
  have nd := sc_row_eye.nd
  have h70 : (cxG P w K mg base [("web" : Str), ("row" : Str), ("colors" : Str), ("arrows" : Str), ("same" : Str), ("led" : Str), ("i" : Str), ("x" : Str), ("j" : Str), ("y" : Str)] "row_eye" (defScope s_row_eye) f cdv A outer s H).A.units + 70 < cLine := by have := hr.un; show (A.deeper _).units + 70 < cLine; omega
  have h65 : (cxG P w K mg base [("web" : Str), ("row" : Str), ("colors" : Str), ("arrows" : Str), ("same" : Str), ("led" : Str), ("i" : Str), ("x" : Str), ("j" : Str), ("y" : Str)] "row_eye" (defScope s_row_eye) f cdv A outer s H).A.units + 65 < cLine := by omega
  have h64 : (cxG P w K mg base [("web" : Str), ("row" : Str), ("colors" : Str), ("arrows" : Str), ("same" : Str), ("led" : Str), ("i" : Str), ("x" : Str), ("j" : Str), ("y" : Str)] "row_eye" (defScope s_row_eye) f cdv A outer s H).A.units + 64 < cLine := by omega
  have h21 : (cxG P w K mg base [("web" : Str), ("row" : Str), ("colors" : Str), ("arrows" : Str), ("same" : Str), ("led" : Str), ("i" : Str), ("x" : Str), ("j" : Str), ("y" : Str)] "row_eye" (defScope s_row_eye) f cdv A outer s H).A.units + 20 < cLine := by omega
  have h2 : (cxG P w K mg base [("web" : Str), ("row" : Str), ("colors" : Str), ("arrows" : Str), ("same" : Str), ("led" : Str), ("i" : Str), ("x" : Str), ("j" : Str), ("y" : Str)] "row_eye" (defScope s_row_eye) f cdv A outer s H).A.units + 1 < cLine := by omega
  exact (tss_cons (ss_parO (is := [2, 3]) rfl nd (.cons (i := 2) rfl (locC (by kernel_rfl)) (by first | exact .inl rfl | exact .inr rfl) rfl (.cons (i := 3) rfl (locL (by kernel_rfl)) (by first | exact .inl rfl | exact .inr rfl) rfl Nms.nil)) (aps_cons (sx_ixP (id_ixD h21) (op_e (sx_var (i := 0) (m := false) rfl (visL (by kernel_rfl)) rfl)) (op_e sx_int) (fun _ _ => rfl)) (aps_cons (sx_ixP (id_ixD h21) (op_e (sx_var (i := 0) (m := false) rfl (visL (by kernel_rfl)) rfl)) (op_e sx_int) (fun _ _ => rfl)) aps_nil (nm rfl)) (nm rfl)) (by rw [sizeLine_eq]; decide))
    (tss_cons (ss_par2 (i := 4) (j := 5) rfl nd rfl rfl (by decide) rfl rfl (sx_lst as_nil) (sx_lst as_nil) (fun _ => rfl) (fun _ => rfl))
    (tss_cons (ss_for PassesOwn.never rfl (it_enum (glI (by kernel_rfl)) B.enumerate (op_e (sx_var (i := 1) (m := false) rfl (visL (by kernel_rfl)) rfl))) (tg_tup rfl (tg_cons (tg_name (i := 6) nd rfl (locL (by kernel_rfl)) rfl) (tg_cons (tg_name (i := 7) nd rfl (locL (by kernel_rfl)) rfl) tg_nil))) (tss_one (ss_for PassesOwn.never rfl (it_enum (glI (by kernel_rfl)) B.enumerate (op_e (sx_var (i := 1) (m := false) rfl (visL (by kernel_rfl)) rfl))) (tg_tup rfl (tg_cons (tg_name (i := 8) nd rfl (locL (by kernel_rfl)) rfl) (tg_cons (tg_name (i := 9) nd rfl (locL (by kernel_rfl)) rfl) tg_nil))) (tss_cons (ss_if (PW.pt (tb_and (tb_cmp od_lt (op_e (sx_var (i := 6) (m := false) rfl (visL (by kernel_rfl)) rfl)) (op_e (sx_var (i := 8) (m := false) rfl (visL (by kernel_rfl)) rfl)) rfl) (tb_and1 (tb_cmp (od_eq h64) (op_e (sx_var (i := 7) (m := false) rfl (visL (by kernel_rfl)) rfl)) (op_e (sx_var (i := 9) (m := false) rfl (visL (by kernel_rfl)) rfl)) rfl)))) (tss_one (ss_expr (sx_append (i := 4) rfl (visL (by kernel_rfl)) rfl (sx_tup (as_cons (sx_var (i := 6) (m := false) rfl (visL (by kernel_rfl)) rfl) (as_cons (sx_var (i := 8) (m := false) rfl (visL (by kernel_rfl)) rfl) as_nil)))))) tss_nil)
    (tss_one (ss_if (tb_cmp (od_inD h65) (op_e (sx_tup (as_cons (sx_var (i := 7) (m := false) rfl (visL (by kernel_rfl)) rfl) (as_cons (sx_var (i := 9) (m := false) rfl (visL (by kernel_rfl)) rfl) as_nil)))) (op_e (sx_var (i := 3) (m := false) rfl (visL (by kernel_rfl)) rfl)) rfl) (tss_one (ss_expr (sx_append (i := 5) rfl (visL (by kernel_rfl)) rfl (sx_tup (as_cons (sx_var (i := 6) (m := false) rfl (visL (by kernel_rfl)) rfl) (as_cons (sx_var (i := 8) (m := false) rfl (visL (by kernel_rfl)) rfl) as_nil)))))) tss_nil))))))
    (tss_one (ss_ret (sx_tup (as_cons (sx_callT cd_tuple (glI (by kernel_rfl)) B.tuple rfl (ops_cons (op_e (sx_lcV rfl rfl nd (it_any (op_e (sx_var (i := 1) (m := false) rfl (visL (by kernel_rfl)) rfl))) (blkOk_by (own := [((Str.ofString "x"), 7)]) (by kernel_rfl)) (by decide) (by decide) (fun _ _ _ _ _ => (tg_name (i := 7) nd rfl (locL (by kernel_rfl)) rfl)) (fun _ _ _ _ _ => tb_yes) (fun _ _ _ _ _ => (sx_ixP (id_ixD h21) (op_e (sx_var (i := 2) (m := false) rfl (visC (by kernel_rfl)) rfl)) (op_e (sx_var (i := 7) (m := false) rfl (visL (by kernel_rfl)) rfl)) (fun _ _ => rfl))))) ops_nil)) (as_cons (sx_callT cd_tuple (glI (by kernel_rfl)) B.tuple rfl (ops_cons (op_pk (i := 4) rfl (visL (by kernel_rfl)) rfl) ops_nil)) (as_cons (sx_callT cd_tuple (glI (by kernel_rfl)) B.tuple rfl (ops_cons (op_pk (i := 5) rfl (visL (by kernel_rfl)) rfl) ops_nil)) as_nil)))))))))
theorem pb_each_once {f : Addr} (C : Cs P w K mg base F k) (B : Bs mg) (cdv : Value) (A : Around) (outer : List Env) (s : Shared) (H : Hp) (hr : Room k (A.deeper (envOfC "each_once" (defScope s_each_once) s.heap.objs.size f cdv))) (hgd : (A.deeper (envOfC "each_once" (defScope s_each_once) s.heap.objs.size f cdv)).guards = some []) :
    PSs (cxG P w K mg base [("types" : Str), ("known" : Str), ("one" : Str), ("text" : Str)] "each_once" (defScope s_each_once) f cdv A outer s H) (defBody s_each_once) (TSt ⟨K, w, P⟩ F m_each_once b_each_once) := by
  have nd := sc_each_once.nd
  have h70 : (cxG P w K mg base [("types" : Str), ("known" : Str), ("one" : Str), ("text" : Str)] "each_once" (defScope s_each_once) f cdv A outer s H).A.units + 70 < cLine := by have := hr.un; show (A.deeper _).units + 70 < cLine; omega
  have h65 : (cxG P w K mg base [("types" : Str), ("known" : Str), ("one" : Str), ("text" : Str)] "each_once" (defScope s_each_once) f cdv A outer s H).A.units + 65 < cLine := by omega
  have h64 : (cxG P w K mg base [("types" : Str), ("known" : Str), ("one" : Str), ("text" : Str)] "each_once" (defScope s_each_once) f cdv A outer s H).A.units + 64 < cLine := by omega
  have h21 : (cxG P w K mg base [("types" : Str), ("known" : Str), ("one" : Str), ("text" : Str)] "each_once" (defScope s_each_once) f cdv A outer s H).A.units + 20 < cLine := by omega
  have h2 : (cxG P w K mg base [("types" : Str), ("known" : Str), ("one" : Str), ("text" : Str)] "each_once" (defScope s_each_once) f cdv A outer s H).A.units + 1 < cLine := by omega
  exact (tss_cons (ss_set (i := 1) nd rfl (locC (by kernel_rfl)) (sx_dcV rfl rfl h21 nd (it_any (op_e (sx_var (i := 0) (m := false) rfl (visL (by kernel_rfl)) rfl))) (blkOk_by (own := [((Str.ofString "one"), 2)]) (by kernel_rfl)) (by decide) (by decide) (fun _ _ _ _ _ => (tg_name (i := 2) nd rfl (locL (by kernel_rfl)) rfl)) (fun _ _ _ _ _ => tb_yes) (fun _ _ _ _ _ => (sx_callB (cd_repr h70 hgd) (glI (by kernel_rfl)) B.repr rfl (ops_cons (op_e (sx_var (i := 2) (m := false) rfl (visL (by kernel_rfl)) rfl)) ops_nil))) (fun _ _ _ _ _ => (sx_var (i := 2) (m := false) rfl (visL (by kernel_rfl)) rfl))) (nm rfl))
    (tss_one (ss_ret (sx_callT cd_tuple (glI (by kernel_rfl)) B.tuple rfl (ops_cons (op_e (sx_lcV rfl rfl nd (it_any (op_e (sx_callB (cd_sortedD rfl h70) (glI (by kernel_rfl)) B.sorted rfl (ops_cons (op_e (sx_var (i := 1) (m := false) rfl (visC (by kernel_rfl)) rfl)) ops_nil)))) (blkOk_by (own := [((Str.ofString "text"), 3)]) (by kernel_rfl)) (by decide) (by decide) (fun _ _ _ _ _ => (tg_name (i := 3) nd rfl (locL (by kernel_rfl)) rfl)) (fun _ _ _ _ _ => tb_yes) (fun _ _ _ _ _ => (sx_ixP (id_ixD h21) (op_e (sx_var (i := 1) (m := false) rfl (visC (by kernel_rfl)) rfl)) (op_e (sx_var (i := 3) (m := false) rfl (visL (by kernel_rfl)) rfl)) (fun _ _ => rfl))))) ops_nil)))))
theorem pb_rank_type {f : Addr} (C : Cs P w K mg base F k) (B : Bs mg) (cdv : Value) (A : Around) (outer : List Env) (s : Shared) (H : Hp) (hr : Room k (A.deeper (envOfC "rank_type" (defScope s_rank_type) s.heap.objs.size f cdv))) (hgd : (A.deeper (envOfC "rank_type" (defScope s_rank_type) s.heap.objs.size f cdv)).guards = some []) :
    PSs (cxG P w K mg base [("web" : Str), ("row" : Str), ("r" : Str), ("x" : Str)] "rank_type" (defScope s_rank_type) f cdv A outer s H) (defBody s_rank_type) (TSt ⟨K, w, P⟩ F m_rank_type b_rank_type) := by
  have nd := sc_rank_type.nd
  have h70 : (cxG P w K mg base [("web" : Str), ("row" : Str), ("r" : Str), ("x" : Str)] "rank_type" (defScope s_rank_type) f cdv A outer s H).A.units + 70 < cLine := by have := hr.un; show (A.deeper _).units + 70 < cLine; omega
  have h65 : (cxG P w K mg base [("web" : Str), ("row" : Str), ("r" : Str), ("x" : Str)] "rank_type" (defScope s_rank_type) f cdv A outer s H).A.units + 65 < cLine := by omega
  have h64 : (cxG P w K mg base [("web" : Str), ("row" : Str), ("r" : Str), ("x" : Str)] "rank_type" (defScope s_rank_type) f cdv A outer s H).A.units + 64 < cLine := by omega
  have h21 : (cxG P w K mg base [("web" : Str), ("row" : Str), ("r" : Str), ("x" : Str)] "rank_type" (defScope s_rank_type) f cdv A outer s H).A.units + 20 < cLine := by omega
  have h2 : (cxG P w K mg base [("web" : Str), ("row" : Str), ("r" : Str), ("x" : Str)] "rank_type" (defScope s_rank_type) f cdv A outer s H).A.units + 1 < cLine := by omega
  exact (tss_cons (ss_if (tb_cmp (od_eq h64) (op_e (sx_var (i := 2) (m := false) rfl (visC (by kernel_rfl)) rfl)) (op_e sx_int) rfl) (tss_one (ss_ret (sx_tup (as_cons (sx_call C.row_eye hr hgd (glI (by kernel_rfl)) (as_cons (sx_var (i := 0) (m := false) rfl (visC (by kernel_rfl)) rfl) (as_cons (sx_var (i := 1) (m := false) rfl (visC (by kernel_rfl)) rfl) as_nil)) rfl) (as_cons (sx_tup as_nil) as_nil))))) tss_nil)
    (tss_one (ss_ret (sx_tup (as_cons (sx_call C.row_eye hr hgd (glI (by kernel_rfl)) (as_cons (sx_var (i := 0) (m := false) rfl (visC (by kernel_rfl)) rfl) (as_cons (sx_var (i := 1) (m := false) rfl (visC (by kernel_rfl)) rfl) as_nil)) rfl) (as_cons (sx_call C.each_once hr hgd (glI (by kernel_rfl)) (as_cons (sx_lcV rfl rfl nd (it_rng1 (glI (by kernel_rfl)) B.range (op_e (sx_ixP (id_ixD h21) (op_e (sx_var (i := 0) (m := false) rfl (visC (by kernel_rfl)) rfl)) (op_e sx_int) (fun _ _ => rfl)))) (blkOk_by (own := [((Str.ofString "x"), 3)]) (by kernel_rfl)) (by decide) (by decide) (fun _ _ _ _ _ => (tg_name (i := 3) nd rfl (locL (by kernel_rfl)) rfl)) (fun _ _ _ _ _ => tb_yes) (fun _ _ _ _ _ => (sx_call C.rank_type hr hgd (glI (by kernel_rfl)) (as_cons (sx_var (i := 0) (m := false) rfl (visC (by kernel_rfl)) rfl) (as_cons (sx_tupS (st_star (op_e (sx_var (i := 1) (m := false) rfl (visC (by kernel_rfl)) rfl)) (st_one (sx_var (i := 3) (m := false) rfl (visL (by kernel_rfl)) rfl) st_nil))) (as_cons (sx_bin od_sub (op_e (sx_var (i := 2) (m := false) rfl (visC (by kernel_rfl)) rfl)) (op_e sx_int)) as_nil))) rfl))) as_nil) rfl) as_nil))))))
theorem pb_depth_of {f : Addr} (C : Cs P w K mg base F k) (B : Bs mg) (cdv : Value) (A : Around) (outer : List Env) (s : Shared) (H : Hp) (hr : Room k (A.deeper (envOfC "depth_of" (defScope s_depth_of) s.heap.objs.size f cdv))) (hgd : (A.deeper (envOfC "depth_of" (defScope s_depth_of) s.heap.objs.size f cdv)).guards = some []) :
    PSs (cxG P w K mg base [("told" : Str), ("many" : Str)] "depth_of" (defScope s_depth_of) f cdv A outer s H) (defBody s_depth_of) (TSt ⟨K, w, P⟩ F m_depth_of b_depth_of) := by
  have nd := sc_depth_of.nd
  have h70 : (cxG P w K mg base [("told" : Str), ("many" : Str)] "depth_of" (defScope s_depth_of) f cdv A outer s H).A.units + 70 < cLine := by have := hr.un; show (A.deeper _).units + 70 < cLine; omega
  have h65 : (cxG P w K mg base [("told" : Str), ("many" : Str)] "depth_of" (defScope s_depth_of) f cdv A outer s H).A.units + 65 < cLine := by omega
  have h64 : (cxG P w K mg base [("told" : Str), ("many" : Str)] "depth_of" (defScope s_depth_of) f cdv A outer s H).A.units + 64 < cLine := by omega
  have h21 : (cxG P w K mg base [("told" : Str), ("many" : Str)] "depth_of" (defScope s_depth_of) f cdv A outer s H).A.units + 20 < cLine := by omega
  have h2 : (cxG P w K mg base [("told" : Str), ("many" : Str)] "depth_of" (defScope s_depth_of) f cdv A outer s H).A.units + 1 < cLine := by omega
  exact (tss_cons (ss_set (i := 1) nd rfl (locL (by kernel_rfl)) sx_int (nm rfl))
    (tss_cons (ss_while PassesOwn.never (tb_cmp (od_ne h64) (op_e (sx_ixP (id_ixD h21) (op_e (sx_var (i := 0) (m := false) rfl (visL (by kernel_rfl)) rfl)) (op_e sx_int) (fun _ _ => rfl))) (op_e (sx_tup as_nil)) rfl) (tss_one (ss_par2 (i := 1) (j := 0) rfl nd rfl rfl (by decide) rfl rfl (sx_bin od_add (op_e (sx_var (i := 1) (m := false) rfl (visL (by kernel_rfl)) rfl)) (op_e sx_int)) (sx_ixP (id_ixD h21) (op_e (sx_ixP (id_ixD h21) (op_e (sx_var (i := 0) (m := false) rfl (visL (by kernel_rfl)) rfl)) (op_e sx_int) (fun _ _ => rfl))) (op_e sx_int) (fun _ _ => rfl)) (nm rfl) (nm rfl))))
    (tss_one (ss_ret (sx_var (i := 1) (m := false) rfl (visL (by kernel_rfl)) rfl)))))
theorem pb_lowered_to {f : Addr} (C : Cs P w K mg base F k) (B : Bs mg) (cdv : Value) (A : Around) (outer : List Env) (s : Shared) (H : Hp) (hr : Room k (A.deeper (envOfC "lowered_to" (defScope s_lowered_to) s.heap.objs.size f cdv))) (hgd : (A.deeper (envOfC "lowered_to" (defScope s_lowered_to) s.heap.objs.size f cdv)).guards = some []) :
    PSs (cxG P w K mg base [("told" : Str), ("r" : Str), ("late" : Str)] "lowered_to" (defScope s_lowered_to) f cdv A outer s H) (defBody s_lowered_to) (TSt ⟨K, w, P⟩ F m_lowered_to b_lowered_to) := by
  have nd := sc_lowered_to.nd
  have h70 : (cxG P w K mg base [("told" : Str), ("r" : Str), ("late" : Str)] "lowered_to" (defScope s_lowered_to) f cdv A outer s H).A.units + 70 < cLine := by have := hr.un; show (A.deeper _).units + 70 < cLine; omega
  have h65 : (cxG P w K mg base [("told" : Str), ("r" : Str), ("late" : Str)] "lowered_to" (defScope s_lowered_to) f cdv A outer s H).A.units + 65 < cLine := by omega
  have h64 : (cxG P w K mg base [("told" : Str), ("r" : Str), ("late" : Str)] "lowered_to" (defScope s_lowered_to) f cdv A outer s H).A.units + 64 < cLine := by omega
  have h21 : (cxG P w K mg base [("told" : Str), ("r" : Str), ("late" : Str)] "lowered_to" (defScope s_lowered_to) f cdv A outer s H).A.units + 20 < cLine := by omega
  have h2 : (cxG P w K mg base [("told" : Str), ("r" : Str), ("late" : Str)] "lowered_to" (defScope s_lowered_to) f cdv A outer s H).A.units + 1 < cLine := by omega
  exact (tss_cons (ss_if (tb_cmp (od_eq h64) (op_e (sx_var (i := 1) (m := false) rfl (visC (by kernel_rfl)) rfl)) (op_e sx_int) rfl) (tss_one (ss_ret (sx_tup (as_cons (sx_ixP (id_ixD h21) (op_e (sx_var (i := 0) (m := false) rfl (visL (by kernel_rfl)) rfl)) (op_e sx_int) (fun _ _ => rfl)) (as_cons (sx_tup as_nil) as_nil))))) tss_nil)
    (tss_one (ss_ret (sx_tup (as_cons (sx_ixP (id_ixD h21) (op_e (sx_var (i := 0) (m := false) rfl (visL (by kernel_rfl)) rfl)) (op_e sx_int) (fun _ _ => rfl)) (as_cons (sx_call C.each_once hr hgd (glI (by kernel_rfl)) (as_cons (sx_lcV rfl rfl nd (it_any (op_e (sx_ixP (id_ixD h21) (op_e (sx_var (i := 0) (m := false) rfl (visL (by kernel_rfl)) rfl)) (op_e sx_int) (fun _ _ => rfl)))) (blkOk_by (own := [((Str.ofString "late"), 2)]) (by kernel_rfl)) (by decide) (by decide) (fun _ _ _ _ _ => (tg_name (i := 2) nd rfl (locL (by kernel_rfl)) rfl)) (fun _ _ _ _ _ => tb_yes) (fun _ _ _ _ _ => (sx_call C.lowered_to hr hgd (glI (by kernel_rfl)) (as_cons (sx_var (i := 2) (m := false) rfl (visL (by kernel_rfl)) rfl) (as_cons (sx_bin od_sub (op_e (sx_var (i := 1) (m := false) rfl (visC (by kernel_rfl)) rfl)) (op_e sx_int)) as_nil)) rfl))) as_nil) rfl) as_nil))))))
theorem pb_lowered_type {f : Addr} (C : Cs P w K mg base F k) (B : Bs mg) (cdv : Value) (A : Around) (outer : List Env) (s : Shared) (H : Hp) (hr : Room k (A.deeper (envOfC "lowered_type" (defScope s_lowered_type) s.heap.objs.size f cdv))) (hgd : (A.deeper (envOfC "lowered_type" (defScope s_lowered_type) s.heap.objs.size f cdv)).guards = some []) :
    PSs (cxG P w K mg base [("told" : Str)] "lowered_type" (defScope s_lowered_type) f cdv A outer s H) (defBody s_lowered_type) (TSt ⟨K, w, P⟩ F m_lowered_type b_lowered_type) := by
  have nd := sc_lowered_type.nd
  have h70 : (cxG P w K mg base [("told" : Str)] "lowered_type" (defScope s_lowered_type) f cdv A outer s H).A.units + 70 < cLine := by have := hr.un; show (A.deeper _).units + 70 < cLine; omega
  have h65 : (cxG P w K mg base [("told" : Str)] "lowered_type" (defScope s_lowered_type) f cdv A outer s H).A.units + 65 < cLine := by omega
  have h64 : (cxG P w K mg base [("told" : Str)] "lowered_type" (defScope s_lowered_type) f cdv A outer s H).A.units + 64 < cLine := by omega
  have h21 : (cxG P w K mg base [("told" : Str)] "lowered_type" (defScope s_lowered_type) f cdv A outer s H).A.units + 20 < cLine := by omega
  have h2 : (cxG P w K mg base [("told" : Str)] "lowered_type" (defScope s_lowered_type) f cdv A outer s H).A.units + 1 < cLine := by omega
  exact (tss_one (ss_ret (sx_call C.lowered_to hr hgd (glI (by kernel_rfl)) (as_cons (sx_var (i := 0) (m := false) rfl (visL (by kernel_rfl)) rfl) (as_cons (sx_bin od_sub (op_e (sx_call C.depth_of hr hgd (glI (by kernel_rfl)) (as_cons (sx_var (i := 0) (m := false) rfl (visL (by kernel_rfl)) rfl) as_nil) rfl)) (op_e sx_int)) as_nil)) rfl)))
theorem pb_are_kept {f : Addr} (C : Cs P w K mg base F k) (B : Bs mg) (cdv : Value) (A : Around) (outer : List Env) (s : Shared) (H : Hp) (hr : Room k (A.deeper (envOfC "are_kept" (defScope s_are_kept) s.heap.objs.size f cdv))) (hgd : (A.deeper (envOfC "are_kept" (defScope s_are_kept) s.heap.objs.size f cdv)).guards = some []) :
    PSs (cxG P w K mg base [("one" : Str), ("a" : Str), ("other" : Str), ("b" : Str), ("r" : Str)] "are_kept" (defScope s_are_kept) f cdv A outer s H) (defBody s_are_kept) (TSt ⟨K, w, P⟩ F m_are_kept b_are_kept) := by
  have nd := sc_are_kept.nd
  have h70 : (cxG P w K mg base [("one" : Str), ("a" : Str), ("other" : Str), ("b" : Str), ("r" : Str)] "are_kept" (defScope s_are_kept) f cdv A outer s H).A.units + 70 < cLine := by have := hr.un; show (A.deeper _).units + 70 < cLine; omega
  have h65 : (cxG P w K mg base [("one" : Str), ("a" : Str), ("other" : Str), ("b" : Str), ("r" : Str)] "are_kept" (defScope s_are_kept) f cdv A outer s H).A.units + 65 < cLine := by omega
  have h64 : (cxG P w K mg base [("one" : Str), ("a" : Str), ("other" : Str), ("b" : Str), ("r" : Str)] "are_kept" (defScope s_are_kept) f cdv A outer s H).A.units + 64 < cLine := by omega
  have h21 : (cxG P w K mg base [("one" : Str), ("a" : Str), ("other" : Str), ("b" : Str), ("r" : Str)] "are_kept" (defScope s_are_kept) f cdv A outer s H).A.units + 20 < cLine := by omega
  have h2 : (cxG P w K mg base [("one" : Str), ("a" : Str), ("other" : Str), ("b" : Str), ("r" : Str)] "are_kept" (defScope s_are_kept) f cdv A outer s H).A.units + 1 < cLine := by omega
  exact (tss_one (ss_ret (sx_cmp (od_eq h64) (op_e (sx_callB (cd_repr h70 hgd) (glI (by kernel_rfl)) B.repr rfl (ops_cons (op_e (sx_call C.rank_type hr hgd (glI (by kernel_rfl)) (as_cons (sx_var (i := 0) (m := false) rfl (visL (by kernel_rfl)) rfl) (as_cons (sx_var (i := 1) (m := false) rfl (visL (by kernel_rfl)) rfl) (as_cons (sx_var (i := 4) (m := false) rfl (visL (by kernel_rfl)) rfl) as_nil))) rfl)) ops_nil))) (op_e (sx_callB (cd_repr h70 hgd) (glI (by kernel_rfl)) B.repr rfl (ops_cons (op_e (sx_call C.rank_type hr hgd (glI (by kernel_rfl)) (as_cons (sx_var (i := 2) (m := false) rfl (visL (by kernel_rfl)) rfl) (as_cons (sx_var (i := 3) (m := false) rfl (visL (by kernel_rfl)) rfl) (as_cons (sx_var (i := 4) (m := false) rfl (visL (by kernel_rfl)) rfl) as_nil))) rfl)) ops_nil))) rfl)))
theorem pb__law_source {f : Addr} (C : Cs P w K mg base F k) (B : Bs mg) (cdv : Value) (A : Around) (outer : List Env) (s : Shared) (H : Hp) (hr : Room k (A.deeper (envOfC "_law_source" (defScope s__law_source) s.heap.objs.size f cdv))) (hgd : (A.deeper (envOfC "_law_source" (defScope s__law_source) s.heap.objs.size f cdv)).guards = some []) :
    PSs (cxG P w K mg base [("script" : Str), ("stirred" : Str), ("cell" : Str), ("cells" : Str)] "_law_source" (defScope s__law_source) f cdv A outer s H) (defBody s__law_source) (TSt ⟨K, w, P⟩ F m__law_source b__law_source) := by
  have nd := sc__law_source.nd
  have h70 : (cxG P w K mg base [("script" : Str), ("stirred" : Str), ("cell" : Str), ("cells" : Str)] "_law_source" (defScope s__law_source) f cdv A outer s H).A.units + 70 < cLine := by have := hr.un; show (A.deeper _).units + 70 < cLine; omega
  have h65 : (cxG P w K mg base [("script" : Str), ("stirred" : Str), ("cell" : Str), ("cells" : Str)] "_law_source" (defScope s__law_source) f cdv A outer s H).A.units + 65 < cLine := by omega
  have h64 : (cxG P w K mg base [("script" : Str), ("stirred" : Str), ("cell" : Str), ("cells" : Str)] "_law_source" (defScope s__law_source) f cdv A outer s H).A.units + 64 < cLine := by omega
  have h21 : (cxG P w K mg base [("script" : Str), ("stirred" : Str), ("cell" : Str), ("cells" : Str)] "_law_source" (defScope s__law_source) f cdv A outer s H).A.units + 20 < cLine := by omega
  have h2 : (cxG P w K mg base [("script" : Str), ("stirred" : Str), ("cell" : Str), ("cells" : Str)] "_law_source" (defScope s__law_source) f cdv A outer s H).A.units + 1 < cLine := by omega
  exact (tss_cons (ss_set (i := 1) nd rfl (locL (by kernel_rfl)) sx_int (nm rfl))
    (tss_cons (ss_for PassesOwn.never rfl (it_any (op_e (sx_var (i := 0) (m := false) rfl (visL (by kernel_rfl)) rfl))) (tg_name (i := 2) nd rfl (locL (by kernel_rfl)) rfl) (tss_one (ss_set (i := 1) nd rfl (locL (by kernel_rfl)) (sx_bin od_mod (op_e (sx_callT cd_int (glI (by kernel_rfl)) B.int rfl (ops_cons (op_e (sx_bin od_add (op_e (sx_bin od_add (op_e (sx_bin od_mul (op_e (sx_var (i := 1) (m := false) rfl (visL (by kernel_rfl)) rfl)) (op_e sx_int))) (op_e (sx_bin od_mul (op_e (sx_var (i := 2) (m := false) rfl (visL (by kernel_rfl)) rfl)) (op_e sx_int))))) (op_e sx_int))) ops_nil))) (op_e sx_int)) (nm rfl))))
    (tss_cons (ss_setLcV (i := 3) rfl rfl nd rfl (by kernel_rfl) (it_any (op_e (sx_var (i := 0) (m := false) rfl (visL (by kernel_rfl)) rfl))) (blkOk_by (own := [((Str.ofString "cell"), 2)]) (by kernel_rfl)) (by decide) (by decide) (fun _ _ _ _ _ => (tg_name (i := 2) nd rfl (locL (by kernel_rfl)) rfl)) (fun _ _ _ _ _ => tb_yes) (fun _ _ _ _ _ => (sx_callB cd_abs (glI (by kernel_rfl)) B.abs rfl (ops_cons (op_e (sx_var (i := 2) (m := false) rfl (visL (by kernel_rfl)) rfl)) ops_nil))) (sw_true rfl (by kernel_rfl) rfl (by kernel_rfl)))
    (tss_one (ss_ret (sx_src (sx_rev (op_e (sx_var (i := 3) (m := false) rfl (visL (by kernel_rfl)) rfl))) sx_int (sx_var (i := 1) (m := false) rfl (visL (by kernel_rfl)) rfl) sx_int))))))
theorem pb__law_pick {f : Addr} (C : Cs P w K mg base F k) (B : Bs mg) (cdv : Value) (A : Around) (outer : List Env) (s : Shared) (H : Hp) (hr : Room k (A.deeper (envOfC "_law_pick" (defScope s__law_pick) s.heap.objs.size f cdv))) (hgd : (A.deeper (envOfC "_law_pick" (defScope s__law_pick) s.heap.objs.size f cdv)).guards = some []) :
    PSs (cxG P w K mg base [("source" : Str), ("most" : Str), ("cells" : Str), ("others" : Str), ("lap" : Str), ("stirred" : Str)] "_law_pick" (defScope s__law_pick) f cdv A outer s H) (defBody s__law_pick) (TSt ⟨K, w, P⟩ F m__law_pick b__law_pick) := by
  have nd := sc__law_pick.nd
  have h70 : (cxG P w K mg base [("source" : Str), ("most" : Str), ("cells" : Str), ("others" : Str), ("lap" : Str), ("stirred" : Str)] "_law_pick" (defScope s__law_pick) f cdv A outer s H).A.units + 70 < cLine := by have := hr.un; show (A.deeper _).units + 70 < cLine; omega
  have h65 : (cxG P w K mg base [("source" : Str), ("most" : Str), ("cells" : Str), ("others" : Str), ("lap" : Str), ("stirred" : Str)] "_law_pick" (defScope s__law_pick) f cdv A outer s H).A.units + 65 < cLine := by omega
  have h64 : (cxG P w K mg base [("source" : Str), ("most" : Str), ("cells" : Str), ("others" : Str), ("lap" : Str), ("stirred" : Str)] "_law_pick" (defScope s__law_pick) f cdv A outer s H).A.units + 64 < cLine := by omega
  have h21 : (cxG P w K mg base [("source" : Str), ("most" : Str), ("cells" : Str), ("others" : Str), ("lap" : Str), ("stirred" : Str)] "_law_pick" (defScope s__law_pick) f cdv A outer s H).A.units + 20 < cLine := by omega
  have h2 : (cxG P w K mg base [("source" : Str), ("most" : Str), ("cells" : Str), ("others" : Str), ("lap" : Str), ("stirred" : Str)] "_law_pick" (defScope s__law_pick) f cdv A outer s H).A.units + 1 < cLine := by omega
  exact (tss_cons (ss_if (tb_cmp od_lt (op_e (sx_var (i := 1) (m := false) rfl (visL (by kernel_rfl)) rfl)) (op_e sx_int) rfl) (tss_one (ss_ret sx_int)) tss_nil)
    (tss_cons (ss_set (i := 2) nd rfl (locL (by kernel_rfl)) (sx_cells (i := 0) h2 rfl (visL (by kernel_rfl))) (nm rfl))
    (tss_cons (ss_while PassesOwn.never (PW.pt (tb_and (tb_cmp od_lt (op_e (sx_SF .left (i := 0) h2 rfl (visL (by kernel_rfl)))) (op_e sx_int) rfl) (tb_and1 (tb_cmp od_gt (op_e (sx_lenS (glI (by kernel_rfl)) B.len (sx_var (i := 2) (m := false) rfl (visL (by kernel_rfl)) rfl))) (op_e sx_int) rfl)))) (tss_one (ss_SF .left (i := 0) h2 rfl (visL (by kernel_rfl)) (sx_popS (sx_var (i := 2) (m := false) rfl (visL (by kernel_rfl)) rfl)))))
    (tss_cons (ss_set (i := 3) nd rfl (locL (by kernel_rfl)) (sx_SF .left (i := 0) h2 rfl (visL (by kernel_rfl))) (nm rfl))
    (tss_cons (ss_if (tb_cmp od_gt (op_e (sx_var (i := 3) (m := false) rfl (visL (by kernel_rfl)) rfl)) (op_e sx_int) rfl) (tss_cons (ss_SF .left (i := 0) h2 rfl (visL (by kernel_rfl)) (sx_bin od_div (op_e (sx_var (i := 3) (m := false) rfl (visL (by kernel_rfl)) rfl)) (op_e (sx_var (i := 1) (m := false) rfl (visL (by kernel_rfl)) rfl))))
    (tss_one (ss_ret (sx_bin od_mod (op_e (sx_callT cd_int (glI (by kernel_rfl)) B.int rfl (ops_cons (op_e (sx_var (i := 3) (m := false) rfl (visL (by kernel_rfl)) rfl)) ops_nil))) (op_e (sx_var (i := 1) (m := false) rfl (visL (by kernel_rfl)) rfl)))))) tss_nil)
    (tss_cons (ss_SF .turn (i := 0) h2 rfl (visL (by kernel_rfl)) (sx_bin od_add (op_e (sx_SF .turn (i := 0) h2 rfl (visL (by kernel_rfl)))) (op_e sx_int)))
    (tss_cons (ss_set (i := 4) nd rfl (locL (by kernel_rfl)) (sx_SF .turn (i := 0) h2 rfl (visL (by kernel_rfl))) (nm rfl))
    (tss_cons (ss_set (i := 5) nd rfl (locL (by kernel_rfl)) (sx_bin od_mod (op_e (sx_callT cd_int (glI (by kernel_rfl)) B.int rfl (ops_cons (op_e (sx_bin od_add (op_e (sx_SF .mixed (i := 0) h2 rfl (visL (by kernel_rfl)))) (op_e (sx_bin od_mul (op_e (sx_var (i := 4) (m := false) rfl (visL (by kernel_rfl)) rfl)) (op_e sx_int))))) ops_nil))) (op_e sx_int)) (nm rfl))
    (tss_cons (ss_set (i := 5) nd rfl (locL (by kernel_rfl)) (sx_bin od_mod (op_e (sx_callT cd_int (glI (by kernel_rfl)) B.int rfl (ops_cons (op_e (sx_bin od_add (op_e (sx_bin od_mul (op_e (sx_var (i := 5) (m := false) rfl (visL (by kernel_rfl)) rfl)) (op_e (sx_var (i := 5) (m := false) rfl (visL (by kernel_rfl)) rfl)))) (op_e (sx_bin od_mul (op_e (sx_var (i := 4) (m := false) rfl (visL (by kernel_rfl)) rfl)) (op_e sx_int))))) ops_nil))) (op_e sx_int)) (nm rfl))
    (tss_one (ss_ret (sx_bin od_mod (op_e (sx_callT cd_int (glI (by kernel_rfl)) B.int rfl (ops_cons (op_e (sx_bin od_div (op_e (sx_var (i := 5) (m := false) rfl (visL (by kernel_rfl)) rfl)) (op_e sx_int))) ops_nil))) (op_e (sx_var (i := 1) (m := false) rfl (visL (by kernel_rfl)) rfl))))))))))))))
theorem pb__law_of {f : Addr} (C : Cs P w K mg base F k) (B : Bs mg) (cdv : Value) (A : Around) (outer : List Env) (s : Shared) (H : Hp) (hr : Room k (A.deeper (envOfC "_law_of" (defScope s__law_of) s.heap.objs.size f cdv))) (hgd : (A.deeper (envOfC "_law_of" (defScope s__law_of) s.heap.objs.size f cdv)).guards = some []) :
    PSs (cxG P w K mg base [("source" : Str), ("some" : Str)] "_law_of" (defScope s__law_of) f cdv A outer s H) (defBody s__law_of) (TSt ⟨K, w, P⟩ F m__law_of b__law_of) := by
  have nd := sc__law_of.nd
  have h70 : (cxG P w K mg base [("source" : Str), ("some" : Str)] "_law_of" (defScope s__law_of) f cdv A outer s H).A.units + 70 < cLine := by have := hr.un; show (A.deeper _).units + 70 < cLine; omega
  have h65 : (cxG P w K mg base [("source" : Str), ("some" : Str)] "_law_of" (defScope s__law_of) f cdv A outer s H).A.units + 65 < cLine := by omega
  have h64 : (cxG P w K mg base [("source" : Str), ("some" : Str)] "_law_of" (defScope s__law_of) f cdv A outer s H).A.units + 64 < cLine := by omega
  have h21 : (cxG P w K mg base [("source" : Str), ("some" : Str)] "_law_of" (defScope s__law_of) f cdv A outer s H).A.units + 20 < cLine := by omega
  have h2 : (cxG P w K mg base [("source" : Str), ("some" : Str)] "_law_of" (defScope s__law_of) f cdv A outer s H).A.units + 1 < cLine := by omega
  exact (tss_one (ss_ret (sx_ixP (id_ixD h21) (op_e (sx_var (i := 1) (m := false) rfl (visL (by kernel_rfl)) rfl)) (op_e (sx_call C._law_pick hr hgd (glI (by kernel_rfl)) (as_cons (sx_var (i := 0) (m := false) rfl (visL (by kernel_rfl)) rfl) (as_cons (sx_callB cd_lenD (glI (by kernel_rfl)) B.len rfl (ops_cons (op_e (sx_var (i := 1) (m := false) rfl (visL (by kernel_rfl)) rfl)) ops_nil)) as_nil)) rfl)) (fun _ _ => rfl))))
theorem pb__law_mixed {f : Addr} (C : Cs P w K mg base F k) (B : Bs mg) (cdv : Value) (A : Around) (outer : List Env) (s : Shared) (H : Hp) (hr : Room k (A.deeper (envOfC "_law_mixed" (defScope s__law_mixed) s.heap.objs.size f cdv))) (hgd : (A.deeper (envOfC "_law_mixed" (defScope s__law_mixed) s.heap.objs.size f cdv)).guards = some []) :
    PSs (cxG P w K mg base [("source" : Str), ("things" : Str), ("others" : Str), ("lap" : Str)] "_law_mixed" (defScope s__law_mixed) f cdv A outer s H) (defBody s__law_mixed) (TSt ⟨K, w, P⟩ F m__law_mixed b__law_mixed) := by
  have nd := sc__law_mixed.nd
  have h70 : (cxG P w K mg base [("source" : Str), ("things" : Str), ("others" : Str), ("lap" : Str)] "_law_mixed" (defScope s__law_mixed) f cdv A outer s H).A.units + 70 < cLine := by have := hr.un; show (A.deeper _).units + 70 < cLine; omega
  have h65 : (cxG P w K mg base [("source" : Str), ("things" : Str), ("others" : Str), ("lap" : Str)] "_law_mixed" (defScope s__law_mixed) f cdv A outer s H).A.units + 65 < cLine := by omega
  have h64 : (cxG P w K mg base [("source" : Str), ("things" : Str), ("others" : Str), ("lap" : Str)] "_law_mixed" (defScope s__law_mixed) f cdv A outer s H).A.units + 64 < cLine := by omega
  have h21 : (cxG P w K mg base [("source" : Str), ("things" : Str), ("others" : Str), ("lap" : Str)] "_law_mixed" (defScope s__law_mixed) f cdv A outer s H).A.units + 20 < cLine := by omega
  have h2 : (cxG P w K mg base [("source" : Str), ("things" : Str), ("others" : Str), ("lap" : Str)] "_law_mixed" (defScope s__law_mixed) f cdv A outer s H).A.units + 1 < cLine := by omega
  exact (tss_cons (ss_set (i := 2) nd rfl (locC (by kernel_rfl)) (sx_callT (cd_listD rfl) (glI (by kernel_rfl)) B.list rfl (ops_cons (op_e (sx_var (i := 1) (m := false) rfl (visL (by kernel_rfl)) rfl)) ops_nil)) (fun _ => rfl))
    (tss_one (ss_ret (sx_lcV rfl rfl nd (it_rng1 (glI (by kernel_rfl)) B.range (op_e (sx_callB cd_lenD (glI (by kernel_rfl)) B.len rfl (ops_cons (op_pk (i := 2) rfl (visC (by kernel_rfl)) rfl) ops_nil)))) (blkOk_by (own := [((Str.ofString "lap"), 3)]) (by kernel_rfl)) (by decide) (by decide) (fun _ _ _ _ _ => (tg_name (i := 3) nd rfl (locL (by kernel_rfl)) rfl)) (fun _ _ _ _ _ => tb_yes) (fun _ _ _ _ _ => (sx_popAt (i := 2) rfl (visC (by kernel_rfl)) rfl (sx_call C._law_pick hr hgd (glI (by kernel_rfl)) (as_cons (sx_var (i := 0) (m := false) rfl (visC (by kernel_rfl)) rfl) (as_cons (sx_callB cd_lenD (glI (by kernel_rfl)) B.len rfl (ops_cons (op_pk (i := 2) rfl (visC (by kernel_rfl)) rfl) ops_nil)) as_nil)) rfl)))))))
theorem pb__law_told_web {f : Addr} (C : Cs P w K mg base F k) (B : Bs mg) (cdv : Value) (A : Around) (outer : List Env) (s : Shared) (H : Hp) (hr : Room k (A.deeper (envOfC "_law_told_web" (defScope s__law_told_web) s.heap.objs.size f cdv))) (hgd : (A.deeper (envOfC "_law_told_web" (defScope s__law_told_web) s.heap.objs.size f cdv)).guards = some []) :
    PSs (cxG P w K mg base [("n" : Str), ("colors" : Str), ("arrows" : Str), ("pair" : Str)] "_law_told_web" (defScope s__law_told_web) f cdv A outer s H) (defBody s__law_told_web) (TSt ⟨K, w, P⟩ F m__law_told_web b__law_told_web) := by
  have nd := sc__law_told_web.nd
  have h70 : (cxG P w K mg base [("n" : Str), ("colors" : Str), ("arrows" : Str), ("pair" : Str)] "_law_told_web" (defScope s__law_told_web) f cdv A outer s H).A.units + 70 < cLine := by have := hr.un; show (A.deeper _).units + 70 < cLine; omega
  have h65 : (cxG P w K mg base [("n" : Str), ("colors" : Str), ("arrows" : Str), ("pair" : Str)] "_law_told_web" (defScope s__law_told_web) f cdv A outer s H).A.units + 65 < cLine := by omega
  have h64 : (cxG P w K mg base [("n" : Str), ("colors" : Str), ("arrows" : Str), ("pair" : Str)] "_law_told_web" (defScope s__law_told_web) f cdv A outer s H).A.units + 64 < cLine := by omega
  have h21 : (cxG P w K mg base [("n" : Str), ("colors" : Str), ("arrows" : Str), ("pair" : Str)] "_law_told_web" (defScope s__law_told_web) f cdv A outer s H).A.units + 20 < cLine := by omega
  have h2 : (cxG P w K mg base [("n" : Str), ("colors" : Str), ("arrows" : Str), ("pair" : Str)] "_law_told_web" (defScope s__law_told_web) f cdv A outer s H).A.units + 1 < cLine := by omega
  exact (tss_one (ss_ret (sx_tup (as_cons (sx_var (i := 0) (m := false) rfl (visL (by kernel_rfl)) rfl) (as_cons (sx_callT cd_tuple (glI (by kernel_rfl)) B.tuple rfl (ops_cons (op_e (sx_var (i := 1) (m := false) rfl (visL (by kernel_rfl)) rfl)) ops_nil)) (as_cons (sx_callT cd_tuple (glI (by kernel_rfl)) B.tuple rfl (ops_cons (op_e (sx_callB (cd_sortedD rfl h70) (glI (by kernel_rfl)) B.sorted rfl (ops_cons (op_e (sx_callT (cd_dict rfl h70) (glI (by kernel_rfl)) B.dict rfl (ops_cons (op_e (sx_lcV rfl rfl nd (it_any (op_e (sx_var (i := 2) (m := false) rfl (visL (by kernel_rfl)) rfl))) (blkOk_by (own := [((Str.ofString "pair"), 3)]) (by kernel_rfl)) (by decide) (by decide) (fun _ _ _ _ _ => (tg_name (i := 3) nd rfl (locL (by kernel_rfl)) rfl)) (fun _ _ _ _ _ => tb_yes) (fun _ _ _ _ _ => (sx_tup (as_cons (sx_var (i := 3) (m := false) rfl (visL (by kernel_rfl)) rfl) (as_cons sx_int as_nil)))))) ops_nil))) ops_nil))) ops_nil)) as_nil))))))
theorem pb__law_web {f : Addr} (C : Cs P w K mg base F k) (B : Bs mg) (cdv : Value) (A : Around) (outer : List Env) (s : Shared) (H : Hp) (hr : Room k (A.deeper (envOfC "_law_web" (defScope s__law_web) s.heap.objs.size f cdv))) (hgd : (A.deeper (envOfC "_law_web" (defScope s__law_web) s.heap.objs.size f cdv)).guards = some []) :
    PSs (cxG P w K mg base [("source" : Str), ("most" : Str), ("n" : Str), ("way" : Str), ("high" : Str), ("share" : Str), ("arrows" : Str), ("a" : Str), ("b" : Str)] "_law_web" (defScope s__law_web) f cdv A outer s H) (defBody s__law_web) (TSt ⟨K, w, P⟩ F m__law_web b__law_web) := by
  have nd := sc__law_web.nd
  have h70 : (cxG P w K mg base [("source" : Str), ("most" : Str), ("n" : Str), ("way" : Str), ("high" : Str), ("share" : Str), ("arrows" : Str), ("a" : Str), ("b" : Str)] "_law_web" (defScope s__law_web) f cdv A outer s H).A.units + 70 < cLine := by have := hr.un; show (A.deeper _).units + 70 < cLine; omega
  have h65 : (cxG P w K mg base [("source" : Str), ("most" : Str), ("n" : Str), ("way" : Str), ("high" : Str), ("share" : Str), ("arrows" : Str), ("a" : Str), ("b" : Str)] "_law_web" (defScope s__law_web) f cdv A outer s H).A.units + 65 < cLine := by omega
  have h64 : (cxG P w K mg base [("source" : Str), ("most" : Str), ("n" : Str), ("way" : Str), ("high" : Str), ("share" : Str), ("arrows" : Str), ("a" : Str), ("b" : Str)] "_law_web" (defScope s__law_web) f cdv A outer s H).A.units + 64 < cLine := by omega
  have h21 : (cxG P w K mg base [("source" : Str), ("most" : Str), ("n" : Str), ("way" : Str), ("high" : Str), ("share" : Str), ("arrows" : Str), ("a" : Str), ("b" : Str)] "_law_web" (defScope s__law_web) f cdv A outer s H).A.units + 20 < cLine := by omega
  have h2 : (cxG P w K mg base [("source" : Str), ("most" : Str), ("n" : Str), ("way" : Str), ("high" : Str), ("share" : Str), ("arrows" : Str), ("a" : Str), ("b" : Str)] "_law_web" (defScope s__law_web) f cdv A outer s H).A.units + 1 < cLine := by omega
  exact (tss_cons (ss_parO (is := [2, 3]) rfl nd (.cons (i := 2) rfl (locC (by kernel_rfl)) (by first | exact .inl rfl | exact .inr rfl) rfl (.cons (i := 3) rfl (locL (by kernel_rfl)) (by first | exact .inl rfl | exact .inr rfl) rfl Nms.nil)) (aps_cons (sx_bin od_add (op_e sx_int) (op_e (sx_call C._law_pick hr hgd (glI (by kernel_rfl)) (as_cons (sx_var (i := 0) (m := false) rfl (visC (by kernel_rfl)) rfl) (as_cons (sx_var (i := 1) (m := false) rfl (visL (by kernel_rfl)) rfl) as_nil)) rfl))) (aps_cons (sx_call C._law_pick hr hgd (glI (by kernel_rfl)) (as_cons (sx_var (i := 0) (m := false) rfl (visC (by kernel_rfl)) rfl) (as_cons sx_int as_nil)) rfl) aps_nil (nm rfl)) (nm rfl)) (by rw [sizeLine_eq]; decide))
    (tss_cons (ss_parO (is := [4, 5, 6]) rfl nd (.cons (i := 4) rfl (locC (by kernel_rfl)) (by first | exact .inl rfl | exact .inr rfl) rfl (.cons (i := 5) rfl (locC (by kernel_rfl)) (by first | exact .inl rfl | exact .inr rfl) rfl (.cons (i := 6) rfl (locL (by kernel_rfl)) (by first | exact .inl rfl | exact .inr rfl) rfl Nms.nil))) (aps_cons (sx_call C._law_of hr hgd (glI (by kernel_rfl)) (as_cons (sx_var (i := 0) (m := false) rfl (visC (by kernel_rfl)) rfl) (as_cons (sx_lst (as_cons sx_int (as_cons sx_int (as_cons sx_int as_nil)))) as_nil)) rfl) (aps_cons (sx_call C._law_pick hr hgd (glI (by kernel_rfl)) (as_cons (sx_var (i := 0) (m := false) rfl (visC (by kernel_rfl)) rfl) (as_cons sx_int as_nil)) rfl) (aps_cons (sx_lst as_nil) aps_nil (nm rfl)) (nm rfl)) (nm rfl)) (by rw [sizeLine_eq]; decide))
    (tss_cons (ss_for PassesOwn.never rfl (it_rng1 (glI (by kernel_rfl)) B.range (op_e (sx_var (i := 2) (m := false) rfl (visC (by kernel_rfl)) rfl))) (tg_name (i := 7) nd rfl (locC (by kernel_rfl)) rfl) (tss_one (ss_set (i := 6) nd rfl (locL (by kernel_rfl)) (sx_bin od_add (op_e (sx_var (i := 6) (m := false) rfl (visL (by kernel_rfl)) rfl)) (op_e (sx_lcV rfl rfl nd (it_rng1 (glI (by kernel_rfl)) B.range (op_e (sx_var (i := 2) (m := false) rfl (visC (by kernel_rfl)) rfl))) (blkOk_by (own := [((Str.ofString "b"), 8)]) (by kernel_rfl)) (by decide) (by decide) (fun _ _ _ _ _ => (tg_name (i := 8) nd rfl (locL (by kernel_rfl)) rfl)) (fun _ _ _ _ _ => (tb_if (PW.pt (tb_and (tb_cmp (od_ne h64) (op_e (sx_var (i := 7) (m := false) rfl (visC (by kernel_rfl)) rfl)) (op_e (sx_var (i := 8) (m := false) rfl (visL (by kernel_rfl)) rfl)) rfl) (tb_and1 (tb_cmp od_lt (op_e (sx_call C._law_pick hr hgd (glI (by kernel_rfl)) (as_cons (sx_var (i := 0) (m := false) rfl (visC (by kernel_rfl)) rfl) (as_cons sx_int as_nil)) rfl)) (op_e (sx_var (i := 5) (m := false) rfl (visC (by kernel_rfl)) rfl)) rfl)))))) (fun _ _ _ _ _ => (sx_tup (as_cons (sx_var (i := 7) (m := false) rfl (visC (by kernel_rfl)) rfl) (as_cons (sx_var (i := 8) (m := false) rfl (visL (by kernel_rfl)) rfl) as_nil))))))) (nm rfl))))
    (tss_cons (ss_if (tb_cmp (od_eq h64) (op_e (sx_var (i := 3) (m := false) rfl (visL (by kernel_rfl)) rfl)) (op_e sx_int) rfl) (tss_one (ss_set (i := 6) nd rfl (locL (by kernel_rfl)) (sx_bin od_add (op_e (sx_var (i := 6) (m := false) rfl (visL (by kernel_rfl)) rfl)) (op_e (sx_lcV rfl rfl nd (it_any (op_e (sx_var (i := 6) (m := false) rfl (visL (by kernel_rfl)) rfl))) (blkOk_by (own := [((Str.ofString "a"), 7), ((Str.ofString "b"), 8)]) (by kernel_rfl)) (by decide) (by decide) (fun _ _ _ _ _ => (tg_tup rfl (tg_cons (tg_name (i := 7) nd rfl (locL (by kernel_rfl)) rfl) (tg_cons (tg_name (i := 8) nd rfl (locL (by kernel_rfl)) rfl) tg_nil)))) (fun _ _ _ _ _ => tb_yes) (fun _ _ _ _ _ => (sx_tup (as_cons (sx_var (i := 8) (m := false) rfl (visL (by kernel_rfl)) rfl) (as_cons (sx_var (i := 7) (m := false) rfl (visL (by kernel_rfl)) rfl) as_nil))))))) (nm rfl))) tss_nil)
    (tss_cons (ss_if (tb_cmp (od_eq h64) (op_e (sx_var (i := 3) (m := false) rfl (visL (by kernel_rfl)) rfl)) (op_e sx_int) rfl) (tss_one (ss_setLcV (i := 6) rfl rfl nd rfl (by kernel_rfl) (it_rng1 (glI (by kernel_rfl)) B.range (op_e (sx_var (i := 2) (m := false) rfl (visC (by kernel_rfl)) rfl))) (blkOk_by (own := [((Str.ofString "a"), 7)]) (by kernel_rfl)) (by decide) (by decide) (fun _ _ _ _ _ => (tg_name (i := 7) nd rfl (locL (by kernel_rfl)) rfl)) (fun _ _ _ _ _ => (tb_if (tb_cmp od_gt (op_e (sx_var (i := 2) (m := false) rfl (visC (by kernel_rfl)) rfl)) (op_e sx_int) rfl))) (fun _ _ _ _ _ => (sx_tup (as_cons (sx_var (i := 7) (m := false) rfl (visL (by kernel_rfl)) rfl) (as_cons (sx_bin od_mod (op_e (sx_callT cd_int (glI (by kernel_rfl)) B.int rfl (ops_cons (op_e (sx_bin od_add (op_e (sx_var (i := 7) (m := false) rfl (visL (by kernel_rfl)) rfl)) (op_e sx_int))) ops_nil))) (op_e (sx_var (i := 2) (m := false) rfl (visC (by kernel_rfl)) rfl))) as_nil)))) (sw_true rfl (by kernel_rfl) rfl (by kernel_rfl)))) tss_nil)
    (tss_cons (ss_if (tb_cmp (od_eq h64) (op_e (sx_var (i := 3) (m := false) rfl (visL (by kernel_rfl)) rfl)) (op_e sx_int) rfl) (tss_one (ss_setLcV (i := 6) rfl rfl nd rfl (by kernel_rfl) (it_rng1 (glI (by kernel_rfl)) B.range (op_e (sx_bin od_sub (op_e (sx_var (i := 2) (m := false) rfl (visC (by kernel_rfl)) rfl)) (op_e sx_int)))) (blkOk_by (own := [((Str.ofString "a"), 7)]) (by kernel_rfl)) (by decide) (by decide) (fun _ _ _ _ _ => (tg_name (i := 7) nd rfl (locL (by kernel_rfl)) rfl)) (fun _ _ _ _ _ => tb_yes) (fun _ _ _ _ _ => (sx_tup (as_cons (sx_var (i := 7) (m := false) rfl (visL (by kernel_rfl)) rfl) (as_cons (sx_bin od_add (op_e (sx_var (i := 7) (m := false) rfl (visL (by kernel_rfl)) rfl)) (op_e sx_int)) as_nil)))) (sw_true rfl (by kernel_rfl) rfl (by kernel_rfl)))) tss_nil)
    (tss_one (ss_ret (sx_call C._law_told_web hr hgd (glI (by kernel_rfl)) (as_cons (sx_var (i := 2) (m := false) rfl (visC (by kernel_rfl)) rfl) (as_cons (sx_lcV rfl rfl nd (it_rng1 (glI (by kernel_rfl)) B.range (op_e (sx_var (i := 2) (m := false) rfl (visC (by kernel_rfl)) rfl))) (blkOk_by (own := [((Str.ofString "a"), 7)]) (by kernel_rfl)) (by decide) (by decide) (fun _ _ _ _ _ => (tg_name (i := 7) nd rfl (locL (by kernel_rfl)) rfl)) (fun _ _ _ _ _ => tb_yes) (fun _ _ _ _ _ => (sx_call C._law_pick hr hgd (glI (by kernel_rfl)) (as_cons (sx_var (i := 0) (m := false) rfl (visC (by kernel_rfl)) rfl) (as_cons (sx_var (i := 4) (m := false) rfl (visC (by kernel_rfl)) rfl) as_nil)) rfl))) (as_cons (sx_var (i := 6) (m := false) rfl (visL (by kernel_rfl)) rfl) as_nil))) rfl)))))))))
theorem pb__law_called {f : Addr} (C : Cs P w K mg base F k) (B : Bs mg) (cdv : Value) (A : Around) (outer : List Env) (s : Shared) (H : Hp) (hr : Room k (A.deeper (envOfC "_law_called" (defScope s__law_called) s.heap.objs.size f cdv))) (hgd : (A.deeper (envOfC "_law_called" (defScope s__law_called) s.heap.objs.size f cdv)).guards = some []) :
    PSs (cxG P w K mg base [("source" : Str), ("web" : Str), ("names" : Str), ("colors" : Str), ("a" : Str), ("color" : Str), ("b" : Str)] "_law_called" (defScope s__law_called) f cdv A outer s H) (defBody s__law_called) (TSt ⟨K, w, P⟩ F m__law_called b__law_called) := by
  have nd := sc__law_called.nd
  have h70 : (cxG P w K mg base [("source" : Str), ("web" : Str), ("names" : Str), ("colors" : Str), ("a" : Str), ("color" : Str), ("b" : Str)] "_law_called" (defScope s__law_called) f cdv A outer s H).A.units + 70 < cLine := by have := hr.un; show (A.deeper _).units + 70 < cLine; omega
  have h65 : (cxG P w K mg base [("source" : Str), ("web" : Str), ("names" : Str), ("colors" : Str), ("a" : Str), ("color" : Str), ("b" : Str)] "_law_called" (defScope s__law_called) f cdv A outer s H).A.units + 65 < cLine := by omega
  have h64 : (cxG P w K mg base [("source" : Str), ("web" : Str), ("names" : Str), ("colors" : Str), ("a" : Str), ("color" : Str), ("b" : Str)] "_law_called" (defScope s__law_called) f cdv A outer s H).A.units + 64 < cLine := by omega
  have h21 : (cxG P w K mg base [("source" : Str), ("web" : Str), ("names" : Str), ("colors" : Str), ("a" : Str), ("color" : Str), ("b" : Str)] "_law_called" (defScope s__law_called) f cdv A outer s H).A.units + 20 < cLine := by omega
  have h2 : (cxG P w K mg base [("source" : Str), ("web" : Str), ("names" : Str), ("colors" : Str), ("a" : Str), ("color" : Str), ("b" : Str)] "_law_called" (defScope s__law_called) f cdv A outer s H).A.units + 1 < cLine := by omega
  exact (tss_cons (ss_parO (is := [2, 3]) rfl nd (.cons (i := 2) rfl (locC (by kernel_rfl)) (by first | exact .inl rfl | exact .inr rfl) rfl (.cons (i := 3) rfl (locL (by kernel_rfl)) (by first | exact .inl rfl | exact .inr rfl) rfl Nms.nil)) (aps_cons (sx_call C._law_mixed hr hgd (glI (by kernel_rfl)) (as_cons (sx_var (i := 0) (m := false) rfl (visL (by kernel_rfl)) rfl) (as_cons (sx_lrng rfl (glI (by kernel_rfl)) B.list (glI (by kernel_rfl)) B.range (op_e (sx_ixP (id_ixD h21) (op_e (sx_var (i := 1) (m := false) rfl (visL (by kernel_rfl)) rfl)) (op_e sx_int) (fun _ _ => rfl)))) as_nil)) rfl) (aps_cons (sx_bin od_mul (op_e (sx_lst (as_cons sx_int as_nil))) (op_e (sx_ixP (id_ixD h21) (op_e (sx_var (i := 1) (m := false) rfl (visL (by kernel_rfl)) rfl)) (op_e sx_int) (fun _ _ => rfl)))) aps_nil (fun _ => rfl)) (nm rfl)) (by rw [sizeLine_eq]; decide))
    (tss_cons (ss_for PassesOwn.never rfl (it_enum (glI (by kernel_rfl)) B.enumerate (op_e (sx_ixP (id_ixD h21) (op_e (sx_var (i := 1) (m := false) rfl (visL (by kernel_rfl)) rfl)) (op_e sx_int) (fun _ _ => rfl)))) (tg_tup rfl (tg_cons (tg_name (i := 4) nd rfl (locL (by kernel_rfl)) rfl) (tg_cons (tg_name (i := 5) nd rfl (locL (by kernel_rfl)) rfl) tg_nil))) (tss_one (ss_setS (i := 3) h21 rfl (visL (by kernel_rfl)) rfl (sx_var (i := 5) (m := false) rfl (visL (by kernel_rfl)) rfl) (sx_ixP (id_ixD h21) (op_e (sx_var (i := 2) (m := false) rfl (visC (by kernel_rfl)) rfl)) (op_e (sx_var (i := 4) (m := false) rfl (visL (by kernel_rfl)) rfl)) (fun _ _ => rfl)))))
    (tss_one (ss_ret (sx_call C._law_told_web hr hgd (glI (by kernel_rfl)) (as_cons (sx_ixP (id_ixD h21) (op_e (sx_var (i := 1) (m := false) rfl (visL (by kernel_rfl)) rfl)) (op_e sx_int) (fun _ _ => rfl)) (as_cons (sx_sh (i := 3) rfl (visL (by kernel_rfl))) (as_cons (sx_lcV rfl rfl nd (it_any (op_e (sx_ixP (id_ixD h21) (op_e (sx_var (i := 1) (m := false) rfl (visL (by kernel_rfl)) rfl)) (op_e sx_int) (fun _ _ => rfl)))) (blkOk_by (own := [((Str.ofString "a"), 4), ((Str.ofString "b"), 6)]) (by kernel_rfl)) (by decide) (by decide) (fun _ _ _ _ _ => (tg_tup rfl (tg_cons (tg_name (i := 4) nd rfl (locL (by kernel_rfl)) rfl) (tg_cons (tg_name (i := 6) nd rfl (locL (by kernel_rfl)) rfl) tg_nil)))) (fun _ _ _ _ _ => tb_yes) (fun _ _ _ _ _ => (sx_tup (as_cons (sx_ixP (id_ixD h21) (op_e (sx_var (i := 2) (m := false) rfl (visC (by kernel_rfl)) rfl)) (op_e (sx_var (i := 4) (m := false) rfl (visL (by kernel_rfl)) rfl)) (fun _ _ => rfl)) (as_cons (sx_ixP (id_ixD h21) (op_e (sx_var (i := 2) (m := false) rfl (visC (by kernel_rfl)) rfl)) (op_e (sx_var (i := 6) (m := false) rfl (visL (by kernel_rfl)) rfl)) (fun _ _ => rfl)) as_nil))))) as_nil))) rfl)))))
theorem pb__law_other {f : Addr} (C : Cs P w K mg base F k) (B : Bs mg) (cdv : Value) (A : Around) (outer : List Env) (s : Shared) (H : Hp) (hr : Room k (A.deeper (envOfC "_law_other" (defScope s__law_other) s.heap.objs.size f cdv))) (hgd : (A.deeper (envOfC "_law_other" (defScope s__law_other) s.heap.objs.size f cdv)).guards = some []) :
    PSs (cxG P w K mg base [("source" : Str), ("web" : Str), ("most" : Str), ("way" : Str), ("n" : Str), ("colors" : Str), ("arrows" : Str), ("a" : Str), ("b" : Str), ("some" : Str), ("k" : Str), ("pair" : Str)] "_law_other" (defScope s__law_other) f cdv A outer s H) (defBody s__law_other) (TSt ⟨K, w, P⟩ F m__law_other b__law_other) := by
  have nd := sc__law_other.nd
  have h70 : (cxG P w K mg base [("source" : Str), ("web" : Str), ("most" : Str), ("way" : Str), ("n" : Str), ("colors" : Str), ("arrows" : Str), ("a" : Str), ("b" : Str), ("some" : Str), ("k" : Str), ("pair" : Str)] "_law_other" (defScope s__law_other) f cdv A outer s H).A.units + 70 < cLine := by have := hr.un; show (A.deeper _).units + 70 < cLine; omega
  have h65 : (cxG P w K mg base [("source" : Str), ("web" : Str), ("most" : Str), ("way" : Str), ("n" : Str), ("colors" : Str), ("arrows" : Str), ("a" : Str), ("b" : Str), ("some" : Str), ("k" : Str), ("pair" : Str)] "_law_other" (defScope s__law_other) f cdv A outer s H).A.units + 65 < cLine := by omega
  have h64 : (cxG P w K mg base [("source" : Str), ("web" : Str), ("most" : Str), ("way" : Str), ("n" : Str), ("colors" : Str), ("arrows" : Str), ("a" : Str), ("b" : Str), ("some" : Str), ("k" : Str), ("pair" : Str)] "_law_other" (defScope s__law_other) f cdv A outer s H).A.units + 64 < cLine := by omega
  have h21 : (cxG P w K mg base [("source" : Str), ("web" : Str), ("most" : Str), ("way" : Str), ("n" : Str), ("colors" : Str), ("arrows" : Str), ("a" : Str), ("b" : Str), ("some" : Str), ("k" : Str), ("pair" : Str)] "_law_other" (defScope s__law_other) f cdv A outer s H).A.units + 20 < cLine := by omega
  have h2 : (cxG P w K mg base [("source" : Str), ("web" : Str), ("most" : Str), ("way" : Str), ("n" : Str), ("colors" : Str), ("arrows" : Str), ("a" : Str), ("b" : Str), ("some" : Str), ("k" : Str), ("pair" : Str)] "_law_other" (defScope s__law_other) f cdv A outer s H).A.units + 1 < cLine := by omega
  exact (tss_cons (ss_set (i := 3) nd rfl (locL (by kernel_rfl)) (sx_call C._law_pick hr hgd (glI (by kernel_rfl)) (as_cons (sx_var (i := 0) (m := false) rfl (visL (by kernel_rfl)) rfl) (as_cons sx_int as_nil)) rfl) (nm rfl))
    (tss_cons (ss_asg (sx_call C._law_called hr hgd (glI (by kernel_rfl)) (as_cons (sx_var (i := 0) (m := false) rfl (visL (by kernel_rfl)) rfl) (as_cons (sx_var (i := 1) (m := false) rfl (visL (by kernel_rfl)) rfl) as_nil)) rfl) (tg_unp rfl (tg_cons (tg_name (i := 4) nd rfl (locL (by kernel_rfl)) rfl) (tg_cons (tg_name (i := 5) nd rfl (locL (by kernel_rfl)) rfl) (tg_cons (tg_name (i := 6) nd rfl (locL (by kernel_rfl)) rfl) tg_nil)))))
    (tss_cons (ss_if (tb_cmp (od_eq h64) (op_e (sx_var (i := 3) (m := false) rfl (visL (by kernel_rfl)) rfl)) (op_e sx_int) rfl) (tss_one (ss_ret (sx_tup (as_cons (sx_var (i := 4) (m := false) rfl (visL (by kernel_rfl)) rfl) (as_cons (sx_var (i := 5) (m := false) rfl (visL (by kernel_rfl)) rfl) (as_cons (sx_var (i := 6) (m := false) rfl (visL (by kernel_rfl)) rfl) as_nil)))))) tss_nil)
    (tss_cons (ss_if (PW.pt (tb_and (tb_cmp (od_inD h65) (op_e (sx_var (i := 3) (m := false) rfl (visL (by kernel_rfl)) rfl)) (op_e (sx_tup (as_cons sx_int (as_cons sx_int as_nil)))) rfl) (tb_and1 (tb_cmp od_gt (op_e (sx_var (i := 4) (m := false) rfl (visL (by kernel_rfl)) rfl)) (op_e sx_int) rfl)))) (tss_cons (ss_asg (sx_cut (op_e (sx_call C._law_mixed hr hgd (glI (by kernel_rfl)) (as_cons (sx_var (i := 0) (m := false) rfl (visL (by kernel_rfl)) rfl) (as_cons (sx_lrng rfl (glI (by kernel_rfl)) B.list (glI (by kernel_rfl)) B.range (op_e (sx_var (i := 4) (m := false) rfl (visL (by kernel_rfl)) rfl))) as_nil)) rfl)) op_none (op_some (op_e sx_int))) (tg_unp rfl (tg_cons (tg_name (i := 7) nd rfl (locC (by kernel_rfl)) rfl) (tg_cons (tg_name (i := 8) nd rfl (locC (by kernel_rfl)) rfl) tg_nil))))
    (tss_cons (ss_setLcV (i := 9) rfl rfl nd rfl (by kernel_rfl) (it_any (op_e (sx_var (i := 6) (m := false) rfl (visL (by kernel_rfl)) rfl))) (blkOk_by (own := [((Str.ofString "pair"), 11)]) (by kernel_rfl)) (by decide) (by decide) (fun _ _ _ _ _ => (tg_name (i := 11) nd rfl (locL (by kernel_rfl)) rfl)) (fun _ _ _ _ _ => (tb_if (tb_cmp (od_ne h64) (op_e (sx_var (i := 11) (m := false) rfl (visL (by kernel_rfl)) rfl)) (op_e (sx_tup (as_cons (sx_var (i := 7) (m := false) rfl (visC (by kernel_rfl)) rfl) (as_cons (sx_var (i := 8) (m := false) rfl (visC (by kernel_rfl)) rfl) as_nil)))) rfl))) (fun _ _ _ _ _ => (sx_var (i := 11) (m := false) rfl (visL (by kernel_rfl)) rfl)) (sw_true rfl (by kernel_rfl) rfl (by kernel_rfl)))
    (tss_one (ss_ret (sx_call C._law_told_web hr hgd (glI (by kernel_rfl)) (as_cons (sx_var (i := 4) (m := false) rfl (visL (by kernel_rfl)) rfl) (as_cons (sx_var (i := 5) (m := false) rfl (visL (by kernel_rfl)) rfl) (as_cons (sx_if (tb_cmp (od_inD h65) (op_e (sx_tup (as_cons (sx_var (i := 7) (m := false) rfl (visC (by kernel_rfl)) rfl) (as_cons (sx_var (i := 8) (m := false) rfl (visC (by kernel_rfl)) rfl) as_nil)))) (op_e (sx_var (i := 6) (m := false) rfl (visL (by kernel_rfl)) rfl)) rfl) (sx_var (i := 9) (m := false) rfl (visL (by kernel_rfl)) rfl) (sx_bin od_add (op_e (sx_var (i := 9) (m := false) rfl (visL (by kernel_rfl)) rfl)) (op_e (sx_lst (as_cons (sx_tup (as_cons (sx_var (i := 7) (m := false) rfl (visC (by kernel_rfl)) rfl) (as_cons (sx_var (i := 8) (m := false) rfl (visC (by kernel_rfl)) rfl) as_nil))) as_nil))))) as_nil))) rfl))))) tss_nil)
    (tss_cons (ss_if (tb_cmp (od_eq h64) (op_e (sx_var (i := 3) (m := false) rfl (visL (by kernel_rfl)) rfl)) (op_e sx_int) rfl) (tss_cons (ss_set (i := 10) nd rfl (locL (by kernel_rfl)) (sx_call C._law_pick hr hgd (glI (by kernel_rfl)) (as_cons (sx_var (i := 0) (m := false) rfl (visL (by kernel_rfl)) rfl) (as_cons (sx_var (i := 4) (m := false) rfl (visL (by kernel_rfl)) rfl) as_nil)) rfl) (nm rfl))
    (tss_one (ss_ret (sx_tup (as_cons (sx_var (i := 4) (m := false) rfl (visL (by kernel_rfl)) rfl) (as_cons (sx_bin od_add (op_e (sx_bin od_add (op_e (sx_cut (op_e (sx_var (i := 5) (m := false) rfl (visL (by kernel_rfl)) rfl)) op_none (op_some (op_e (sx_var (i := 10) (m := false) rfl (visL (by kernel_rfl)) rfl))))) (op_e (sx_tup (as_cons (sx_call C._law_pick hr hgd (glI (by kernel_rfl)) (as_cons (sx_var (i := 0) (m := false) rfl (visL (by kernel_rfl)) rfl) (as_cons sx_int as_nil)) rfl) as_nil))))) (op_e (sx_cut (op_e (sx_var (i := 5) (m := false) rfl (visL (by kernel_rfl)) rfl)) (op_some (op_e (sx_bin od_add (op_e (sx_var (i := 10) (m := false) rfl (visL (by kernel_rfl)) rfl)) (op_e sx_int)))) op_none))) (as_cons (sx_var (i := 6) (m := false) rfl (visL (by kernel_rfl)) rfl) as_nil))))))) tss_nil)
    (tss_cons (ss_if (PW.pt (tb_and (tb_cmp (od_eq h64) (op_e (sx_var (i := 3) (m := false) rfl (visL (by kernel_rfl)) rfl)) (op_e sx_int) rfl) (tb_and1 (tb_cmp od_lt (op_e (sx_var (i := 4) (m := false) rfl (visL (by kernel_rfl)) rfl)) (op_e (sx_var (i := 2) (m := false) rfl (visL (by kernel_rfl)) rfl)) rfl)))) (tss_one (ss_ret (sx_tup (as_cons (sx_bin od_add (op_e (sx_var (i := 4) (m := false) rfl (visL (by kernel_rfl)) rfl)) (op_e sx_int)) (as_cons (sx_bin od_add (op_e (sx_var (i := 5) (m := false) rfl (visL (by kernel_rfl)) rfl)) (op_e (sx_cut (op_e (sx_var (i := 5) (m := false) rfl (visL (by kernel_rfl)) rfl)) op_none (op_some (op_e sx_int))))) (as_cons (sx_var (i := 6) (m := false) rfl (visL (by kernel_rfl)) rfl) as_nil)))))) tss_nil)
    (tss_one (ss_ret (sx_call C._law_web hr hgd (glI (by kernel_rfl)) (as_cons (sx_var (i := 0) (m := false) rfl (visL (by kernel_rfl)) rfl) (as_cons (sx_var (i := 2) (m := false) rfl (visL (by kernel_rfl)) rfl) as_nil)) rfl)))))))))
theorem pb__law_is_same {f : Addr} (C : Cs P w K mg base F k) (B : Bs mg) (cdv : Value) (A : Around) (outer : List Env) (s : Shared) (H : Hp) (hr : Room k (A.deeper (envOfC "_law_is_same" (defScope s__law_is_same) s.heap.objs.size f cdv))) (hgd : (A.deeper (envOfC "_law_is_same" (defScope s__law_is_same) s.heap.objs.size f cdv)).guards = some []) :
    PSs (cxG P w K mg base [("one" : Str), ("a" : Str), ("other" : Str), ("b" : Str), ("i" : Str), ("j" : Str)] "_law_is_same" (defScope s__law_is_same) f cdv A outer s H) (defBody s__law_is_same) (TSt ⟨K, w, P⟩ F m__law_is_same b__law_is_same) := by
  have nd := sc__law_is_same.nd
  have h70 : (cxG P w K mg base [("one" : Str), ("a" : Str), ("other" : Str), ("b" : Str), ("i" : Str), ("j" : Str)] "_law_is_same" (defScope s__law_is_same) f cdv A outer s H).A.units + 70 < cLine := by have := hr.un; show (A.deeper _).units + 70 < cLine; omega
  have h65 : (cxG P w K mg base [("one" : Str), ("a" : Str), ("other" : Str), ("b" : Str), ("i" : Str), ("j" : Str)] "_law_is_same" (defScope s__law_is_same) f cdv A outer s H).A.units + 65 < cLine := by omega
  have h64 : (cxG P w K mg base [("one" : Str), ("a" : Str), ("other" : Str), ("b" : Str), ("i" : Str), ("j" : Str)] "_law_is_same" (defScope s__law_is_same) f cdv A outer s H).A.units + 64 < cLine := by omega
  have h21 : (cxG P w K mg base [("one" : Str), ("a" : Str), ("other" : Str), ("b" : Str), ("i" : Str), ("j" : Str)] "_law_is_same" (defScope s__law_is_same) f cdv A outer s H).A.units + 20 < cLine := by omega
  have h2 : (cxG P w K mg base [("one" : Str), ("a" : Str), ("other" : Str), ("b" : Str), ("i" : Str), ("j" : Str)] "_law_is_same" (defScope s__law_is_same) f cdv A outer s H).A.units + 1 < cLine := by omega
  exact (tss_cons (ss_for PassesOwn.never rfl (it_rng1 (glI (by kernel_rfl)) B.range (op_e (sx_callB cd_lenD (glI (by kernel_rfl)) B.len rfl (ops_cons (op_e (sx_var (i := 1) (m := false) rfl (visL (by kernel_rfl)) rfl)) ops_nil)))) (tg_name (i := 4) nd rfl (locL (by kernel_rfl)) rfl) (tss_cons (ss_if (tb_cmp (od_ne h64) (op_e (sx_ixP (id_ixD h21) (op_e (sx_ixP (id_ixD h21) (op_e (sx_var (i := 0) (m := false) rfl (visL (by kernel_rfl)) rfl)) (op_e sx_int) (fun _ _ => rfl))) (op_e (sx_ixP (id_ixD h21) (op_e (sx_var (i := 1) (m := false) rfl (visL (by kernel_rfl)) rfl)) (op_e (sx_var (i := 4) (m := false) rfl (visL (by kernel_rfl)) rfl)) (fun _ _ => rfl))) (fun _ _ => rfl))) (op_e (sx_ixP (id_ixD h21) (op_e (sx_ixP (id_ixD h21) (op_e (sx_var (i := 2) (m := false) rfl (visL (by kernel_rfl)) rfl)) (op_e sx_int) (fun _ _ => rfl))) (op_e (sx_ixP (id_ixD h21) (op_e (sx_var (i := 3) (m := false) rfl (visL (by kernel_rfl)) rfl)) (op_e (sx_var (i := 4) (m := false) rfl (visL (by kernel_rfl)) rfl)) (fun _ _ => rfl))) (fun _ _ => rfl))) rfl) (tss_one (ss_ret sx_bl)) tss_nil)
    (tss_one (ss_for PassesOwn.never rfl (it_rng1 (glI (by kernel_rfl)) B.range (op_e (sx_callB cd_lenD (glI (by kernel_rfl)) B.len rfl (ops_cons (op_e (sx_var (i := 1) (m := false) rfl (visL (by kernel_rfl)) rfl)) ops_nil)))) (tg_name (i := 5) nd rfl (locL (by kernel_rfl)) rfl) (tss_one (ss_if (PW.pt (tb_or (tb_cmp (od_ne h64) (op_e (sx_cmp (od_eq h64) (op_e (sx_ixP (id_ixD h21) (op_e (sx_var (i := 1) (m := false) rfl (visL (by kernel_rfl)) rfl)) (op_e (sx_var (i := 4) (m := false) rfl (visL (by kernel_rfl)) rfl)) (fun _ _ => rfl))) (op_e (sx_ixP (id_ixD h21) (op_e (sx_var (i := 1) (m := false) rfl (visL (by kernel_rfl)) rfl)) (op_e (sx_var (i := 5) (m := false) rfl (visL (by kernel_rfl)) rfl)) (fun _ _ => rfl))) rfl)) (op_e (sx_cmp (od_eq h64) (op_e (sx_ixP (id_ixD h21) (op_e (sx_var (i := 3) (m := false) rfl (visL (by kernel_rfl)) rfl)) (op_e (sx_var (i := 4) (m := false) rfl (visL (by kernel_rfl)) rfl)) (fun _ _ => rfl))) (op_e (sx_ixP (id_ixD h21) (op_e (sx_var (i := 3) (m := false) rfl (visL (by kernel_rfl)) rfl)) (op_e (sx_var (i := 5) (m := false) rfl (visL (by kernel_rfl)) rfl)) (fun _ _ => rfl))) rfl)) rfl) (tb_or1 (tb_cmp (od_ne h64) (op_e (sx_cmp (od_inD h65) (op_e (sx_tup (as_cons (sx_ixP (id_ixD h21) (op_e (sx_var (i := 1) (m := false) rfl (visL (by kernel_rfl)) rfl)) (op_e (sx_var (i := 4) (m := false) rfl (visL (by kernel_rfl)) rfl)) (fun _ _ => rfl)) (as_cons (sx_ixP (id_ixD h21) (op_e (sx_var (i := 1) (m := false) rfl (visL (by kernel_rfl)) rfl)) (op_e (sx_var (i := 5) (m := false) rfl (visL (by kernel_rfl)) rfl)) (fun _ _ => rfl)) as_nil)))) (op_e (sx_ixP (id_ixD h21) (op_e (sx_var (i := 0) (m := false) rfl (visL (by kernel_rfl)) rfl)) (op_e sx_int) (fun _ _ => rfl))) rfl)) (op_e (sx_cmp (od_inD h65) (op_e (sx_tup (as_cons (sx_ixP (id_ixD h21) (op_e (sx_var (i := 3) (m := false) rfl (visL (by kernel_rfl)) rfl)) (op_e (sx_var (i := 4) (m := false) rfl (visL (by kernel_rfl)) rfl)) (fun _ _ => rfl)) (as_cons (sx_ixP (id_ixD h21) (op_e (sx_var (i := 3) (m := false) rfl (visL (by kernel_rfl)) rfl)) (op_e (sx_var (i := 5) (m := false) rfl (visL (by kernel_rfl)) rfl)) (fun _ _ => rfl)) as_nil)))) (op_e (sx_ixP (id_ixD h21) (op_e (sx_var (i := 2) (m := false) rfl (visL (by kernel_rfl)) rfl)) (op_e sx_int) (fun _ _ => rfl))) rfl)) rfl)))) (tss_one (ss_ret sx_bl)) tss_nil))))))
    (tss_one (ss_ret sx_bl)))
theorem pb__law_is_kept {f : Addr} (C : Cs P w K mg base F k) (B : Bs mg) (cdv : Value) (A : Around) (outer : List Env) (s : Shared) (H : Hp) (hr : Room k (A.deeper (envOfC "_law_is_kept" (defScope s__law_is_kept) s.heap.objs.size f cdv))) (hgd : (A.deeper (envOfC "_law_is_kept" (defScope s__law_is_kept) s.heap.objs.size f cdv)).guards = some []) :
    PSs (cxG P w K mg base [("one" : Str), ("a" : Str), ("other" : Str), ("b" : Str), ("r" : Str), ("table" : Str), ("x" : Str), ("y" : Str), ("row" : Str)] "_law_is_kept" (defScope s__law_is_kept) f cdv A outer s H) (defBody s__law_is_kept) (TSt ⟨K, w, P⟩ F m__law_is_kept b__law_is_kept) := by
  have nd := sc__law_is_kept.nd
  have h70 : (cxG P w K mg base [("one" : Str), ("a" : Str), ("other" : Str), ("b" : Str), ("r" : Str), ("table" : Str), ("x" : Str), ("y" : Str), ("row" : Str)] "_law_is_kept" (defScope s__law_is_kept) f cdv A outer s H).A.units + 70 < cLine := by have := hr.un; show (A.deeper _).units + 70 < cLine; omega
  have h65 : (cxG P w K mg base [("one" : Str), ("a" : Str), ("other" : Str), ("b" : Str), ("r" : Str), ("table" : Str), ("x" : Str), ("y" : Str), ("row" : Str)] "_law_is_kept" (defScope s__law_is_kept) f cdv A outer s H).A.units + 65 < cLine := by omega
  have h64 : (cxG P w K mg base [("one" : Str), ("a" : Str), ("other" : Str), ("b" : Str), ("r" : Str), ("table" : Str), ("x" : Str), ("y" : Str), ("row" : Str)] "_law_is_kept" (defScope s__law_is_kept) f cdv A outer s H).A.units + 64 < cLine := by omega
  have h21 : (cxG P w K mg base [("one" : Str), ("a" : Str), ("other" : Str), ("b" : Str), ("r" : Str), ("table" : Str), ("x" : Str), ("y" : Str), ("row" : Str)] "_law_is_kept" (defScope s__law_is_kept) f cdv A outer s H).A.units + 20 < cLine := by omega
  have h2 : (cxG P w K mg base [("one" : Str), ("a" : Str), ("other" : Str), ("b" : Str), ("r" : Str), ("table" : Str), ("x" : Str), ("y" : Str), ("row" : Str)] "_law_is_kept" (defScope s__law_is_kept) f cdv A outer s H).A.units + 1 < cLine := by omega
  exact (tss_cons (ss_if (tb_not (tb_tru (op_e (sx_call C._law_is_same hr hgd (glI (by kernel_rfl)) (as_cons (sx_var (i := 0) (m := false) rfl (visC (by kernel_rfl)) rfl) (as_cons (sx_var (i := 1) (m := false) rfl (visC (by kernel_rfl)) rfl) (as_cons (sx_var (i := 2) (m := false) rfl (visC (by kernel_rfl)) rfl) (as_cons (sx_var (i := 3) (m := false) rfl (visC (by kernel_rfl)) rfl) as_nil)))) rfl)) (fun _ => rfl))) (tss_one (ss_ret sx_bl)) tss_nil)
    (tss_cons (ss_if (tb_cmp (od_eq h64) (op_e (sx_var (i := 4) (m := false) rfl (visC (by kernel_rfl)) rfl)) (op_e sx_int) rfl) (tss_one (ss_ret sx_bl)) tss_nil)
    (tss_cons (ss_set (i := 5) nd rfl (locC (by kernel_rfl)) (sx_lst as_nil) (fun _ => rfl))
    (tss_cons (ss_for PassesOwn.never rfl (it_rng1 (glI (by kernel_rfl)) B.range (op_e (sx_ixP (id_ixD h21) (op_e (sx_var (i := 0) (m := false) rfl (visC (by kernel_rfl)) rfl)) (op_e sx_int) (fun _ _ => rfl)))) (tg_name (i := 6) nd rfl (locC (by kernel_rfl)) rfl) (tss_one (ss_expr (sx_append (i := 5) rfl (visC (by kernel_rfl)) rfl (sx_lcV rfl rfl nd (it_rng1 (glI (by kernel_rfl)) B.range (op_e (sx_ixP (id_ixD h21) (op_e (sx_var (i := 2) (m := false) rfl (visC (by kernel_rfl)) rfl)) (op_e sx_int) (fun _ _ => rfl)))) (blkOk_by (own := [((Str.ofString "y"), 7)]) (by kernel_rfl)) (by decide) (by decide) (fun _ _ _ _ _ => (tg_name (i := 7) nd rfl (locL (by kernel_rfl)) rfl)) (fun _ _ _ _ _ => tb_yes) (fun _ _ _ _ _ => (sx_call C._law_is_kept hr hgd (glI (by kernel_rfl)) (as_cons (sx_var (i := 0) (m := false) rfl (visC (by kernel_rfl)) rfl) (as_cons (sx_bin od_add (op_e (sx_var (i := 1) (m := false) rfl (visC (by kernel_rfl)) rfl)) (op_e (sx_tup (as_cons (sx_var (i := 6) (m := false) rfl (visC (by kernel_rfl)) rfl) as_nil)))) (as_cons (sx_var (i := 2) (m := false) rfl (visC (by kernel_rfl)) rfl) (as_cons (sx_bin od_add (op_e (sx_var (i := 3) (m := false) rfl (visC (by kernel_rfl)) rfl)) (op_e (sx_tup (as_cons (sx_var (i := 7) (m := false) rfl (visL (by kernel_rfl)) rfl) as_nil)))) (as_cons (sx_bin od_sub (op_e (sx_var (i := 4) (m := false) rfl (visC (by kernel_rfl)) rfl)) (op_e sx_int)) as_nil))))) rfl)))))))
    (tss_cons (ss_if (tb_cmp (od_ne h64) (op_e (sx_lcV rfl rfl nd (it_any (op_pk (i := 5) rfl (visC (by kernel_rfl)) rfl)) (blkOk_by (own := [((Str.ofString "row"), 8)]) (by kernel_rfl)) (by decide) (by decide) (fun _ _ _ _ _ => (tg_name (i := 8) nd rfl (locL (by kernel_rfl)) rfl)) (fun _ _ _ _ _ => (tb_if (tb_cmp (od_notInD h65) (op_e sx_bl) (op_e (sx_var (i := 8) (m := false) rfl (visL (by kernel_rfl)) rfl)) rfl))) (fun _ _ _ _ _ => (sx_var (i := 8) (m := false) rfl (visL (by kernel_rfl)) rfl)))) (op_e (sx_lst as_nil)) rfl) (tss_one (ss_ret sx_bl)) tss_nil)
    (tss_one (ss_ret (sx_cmp (od_eq h64) (op_e (sx_lcV rfl rfl nd (it_rng1 (glI (by kernel_rfl)) B.range (op_e (sx_ixP (id_ixD h21) (op_e (sx_var (i := 2) (m := false) rfl (visC (by kernel_rfl)) rfl)) (op_e sx_int) (fun _ _ => rfl)))) (blkOk_by (own := [((Str.ofString "y"), 7)]) (by kernel_rfl)) (by decide) (by decide) (fun _ _ _ _ _ => (tg_name (i := 7) nd rfl (locC (by kernel_rfl)) rfl)) (fun _ _ _ _ _ => (tb_if (tb_cmp (od_notInD h65) (op_e sx_bl) (op_e (sx_lcV rfl rfl nd (it_any (op_pk (i := 5) rfl (visC (by kernel_rfl)) rfl)) (blkOk_by (own := [((Str.ofString "row"), 8)]) (by kernel_rfl)) (by decide) (by decide) (fun _ _ _ _ _ => (tg_name (i := 8) nd rfl (locL (by kernel_rfl)) rfl)) (fun _ _ _ _ _ => tb_yes) (fun _ _ _ _ _ => (sx_ixP (id_ixD h21) (op_e (sx_var (i := 8) (m := false) rfl (visL (by kernel_rfl)) rfl)) (op_e (sx_var (i := 7) (m := false) rfl (visC (by kernel_rfl)) rfl)) (fun _ _ => rfl))))) rfl))) (fun _ _ _ _ _ => (sx_var (i := 7) (m := false) rfl (visC (by kernel_rfl)) rfl)))) (op_e (sx_lst as_nil)) rfl))))))))
theorem pb__law_row {f : Addr} (C : Cs P w K mg base F k) (B : Bs mg) (cdv : Value) (A : Around) (outer : List Env) (s : Shared) (H : Hp) (hr : Room k (A.deeper (envOfC "_law_row" (defScope s__law_row) s.heap.objs.size f cdv))) (hgd : (A.deeper (envOfC "_law_row" (defScope s__law_row) s.heap.objs.size f cdv)).guards = some []) :
    PSs (cxG P w K mg base [("source" : Str), ("web" : Str), ("many" : Str), ("place" : Str)] "_law_row" (defScope s__law_row) f cdv A outer s H) (defBody s__law_row) (TSt ⟨K, w, P⟩ F m__law_row b__law_row) := by
  have nd := sc__law_row.nd
  have h70 : (cxG P w K mg base [("source" : Str), ("web" : Str), ("many" : Str), ("place" : Str)] "_law_row" (defScope s__law_row) f cdv A outer s H).A.units + 70 < cLine := by have := hr.un; show (A.deeper _).units + 70 < cLine; omega
  have h65 : (cxG P w K mg base [("source" : Str), ("web" : Str), ("many" : Str), ("place" : Str)] "_law_row" (defScope s__law_row) f cdv A outer s H).A.units + 65 < cLine := by omega
  have h64 : (cxG P w K mg base [("source" : Str), ("web" : Str), ("many" : Str), ("place" : Str)] "_law_row" (defScope s__law_row) f cdv A outer s H).A.units + 64 < cLine := by omega
  have h21 : (cxG P w K mg base [("source" : Str), ("web" : Str), ("many" : Str), ("place" : Str)] "_law_row" (defScope s__law_row) f cdv A outer s H).A.units + 20 < cLine := by omega
  have h2 : (cxG P w K mg base [("source" : Str), ("web" : Str), ("many" : Str), ("place" : Str)] "_law_row" (defScope s__law_row) f cdv A outer s H).A.units + 1 < cLine := by omega
  exact (tss_one (ss_ret (sx_callT cd_tuple (glI (by kernel_rfl)) B.tuple rfl (ops_cons (op_e (sx_lcV rfl rfl nd (it_rng1 (glI (by kernel_rfl)) B.range (op_e (sx_var (i := 2) (m := false) rfl (visL (by kernel_rfl)) rfl))) (blkOk_by (own := [((Str.ofString "place"), 3)]) (by kernel_rfl)) (by decide) (by decide) (fun _ _ _ _ _ => (tg_name (i := 3) nd rfl (locL (by kernel_rfl)) rfl)) (fun _ _ _ _ _ => tb_yes) (fun _ _ _ _ _ => (sx_call C._law_pick hr hgd (glI (by kernel_rfl)) (as_cons (sx_var (i := 0) (m := false) rfl (visC (by kernel_rfl)) rfl) (as_cons (sx_ixP (id_ixD h21) (op_e (sx_var (i := 1) (m := false) rfl (visC (by kernel_rfl)) rfl)) (op_e sx_int) (fun _ _ => rfl)) as_nil)) rfl)))) ops_nil))))
theorem pb__law_eye {f : Addr} (C : Cs P w K mg base F k) (B : Bs mg) (cdv : Value) (A : Around) (outer : List Env) (s : Shared) (H : Hp) (hr : Room k (A.deeper (envOfC "_law_eye" (defScope s__law_eye) s.heap.objs.size f cdv))) (hgd : (A.deeper (envOfC "_law_eye" (defScope s__law_eye) s.heap.objs.size f cdv)).guards = some []) :
    PSs (cxG P w K mg base [("web" : Str), ("row" : Str), ("places" : Str), ("same" : Str), ("led" : Str), ("i" : Str), ("j" : Str), ("x" : Str)] "_law_eye" (defScope s__law_eye) f cdv A outer s H) (defBody s__law_eye) (TSt ⟨K, w, P⟩ F m__law_eye b__law_eye) := by
  have nd := sc__law_eye.nd
  have h70 : (cxG P w K mg base [("web" : Str), ("row" : Str), ("places" : Str), ("same" : Str), ("led" : Str), ("i" : Str), ("j" : Str), ("x" : Str)] "_law_eye" (defScope s__law_eye) f cdv A outer s H).A.units + 70 < cLine := by have := hr.un; show (A.deeper _).units + 70 < cLine; omega
  have h65 : (cxG P w K mg base [("web" : Str), ("row" : Str), ("places" : Str), ("same" : Str), ("led" : Str), ("i" : Str), ("j" : Str), ("x" : Str)] "_law_eye" (defScope s__law_eye) f cdv A outer s H).A.units + 65 < cLine := by omega
  have h64 : (cxG P w K mg base [("web" : Str), ("row" : Str), ("places" : Str), ("same" : Str), ("led" : Str), ("i" : Str), ("j" : Str), ("x" : Str)] "_law_eye" (defScope s__law_eye) f cdv A outer s H).A.units + 64 < cLine := by omega
  have h21 : (cxG P w K mg base [("web" : Str), ("row" : Str), ("places" : Str), ("same" : Str), ("led" : Str), ("i" : Str), ("j" : Str), ("x" : Str)] "_law_eye" (defScope s__law_eye) f cdv A outer s H).A.units + 20 < cLine := by omega
  have h2 : (cxG P w K mg base [("web" : Str), ("row" : Str), ("places" : Str), ("same" : Str), ("led" : Str), ("i" : Str), ("j" : Str), ("x" : Str)] "_law_eye" (defScope s__law_eye) f cdv A outer s H).A.units + 1 < cLine := by omega
  exact (tss_cons (ss_set (i := 2) nd rfl (locL (by kernel_rfl)) (sx_lrng rfl (glI (by kernel_rfl)) B.list (glI (by kernel_rfl)) B.range (op_e (sx_callB cd_lenD (glI (by kernel_rfl)) B.len rfl (ops_cons (op_e (sx_var (i := 1) (m := false) rfl (visC (by kernel_rfl)) rfl)) ops_nil)))) (nm rfl))
    (tss_cons (ss_par2 (i := 3) (j := 4) rfl nd rfl rfl (by decide) rfl rfl (sx_lst as_nil) (sx_lst as_nil) (nm rfl) (nm rfl))
    (tss_cons (ss_for PassesOwn.never rfl (it_any (op_e (sx_var (i := 2) (m := false) rfl (visL (by kernel_rfl)) rfl))) (tg_name (i := 5) nd rfl (locC (by kernel_rfl)) rfl) (tss_cons (ss_set (i := 3) nd rfl (locL (by kernel_rfl)) (sx_bin od_add (op_e (sx_var (i := 3) (m := false) rfl (visL (by kernel_rfl)) rfl)) (op_e (sx_lcV rfl rfl nd (it_any (op_e (sx_var (i := 2) (m := false) rfl (visL (by kernel_rfl)) rfl))) (blkOk_by (own := [((Str.ofString "j"), 6)]) (by kernel_rfl)) (by decide) (by decide) (fun _ _ _ _ _ => (tg_name (i := 6) nd rfl (locL (by kernel_rfl)) rfl)) (fun _ _ _ _ _ => (tb_if (PW.pt (tb_and (tb_cmp od_lt (op_e (sx_var (i := 5) (m := false) rfl (visC (by kernel_rfl)) rfl)) (op_e (sx_var (i := 6) (m := false) rfl (visL (by kernel_rfl)) rfl)) rfl) (tb_and1 (tb_cmp (od_eq h64) (op_e (sx_ixP (id_ixD h21) (op_e (sx_var (i := 1) (m := false) rfl (visC (by kernel_rfl)) rfl)) (op_e (sx_var (i := 5) (m := false) rfl (visC (by kernel_rfl)) rfl)) (fun _ _ => rfl))) (op_e (sx_ixP (id_ixD h21) (op_e (sx_var (i := 1) (m := false) rfl (visC (by kernel_rfl)) rfl)) (op_e (sx_var (i := 6) (m := false) rfl (visL (by kernel_rfl)) rfl)) (fun _ _ => rfl))) rfl)))))) (fun _ _ _ _ _ => (sx_tup (as_cons (sx_var (i := 5) (m := false) rfl (visC (by kernel_rfl)) rfl) (as_cons (sx_var (i := 6) (m := false) rfl (visL (by kernel_rfl)) rfl) as_nil))))))) (nm rfl))
    (tss_one (ss_set (i := 4) nd rfl (locL (by kernel_rfl)) (sx_bin od_add (op_e (sx_var (i := 4) (m := false) rfl (visL (by kernel_rfl)) rfl)) (op_e (sx_lcV rfl rfl nd (it_any (op_e (sx_var (i := 2) (m := false) rfl (visL (by kernel_rfl)) rfl))) (blkOk_by (own := [((Str.ofString "j"), 6)]) (by kernel_rfl)) (by decide) (by decide) (fun _ _ _ _ _ => (tg_name (i := 6) nd rfl (locL (by kernel_rfl)) rfl)) (fun _ _ _ _ _ => (tb_if (tb_cmp (od_inD h65) (op_e (sx_tup (as_cons (sx_ixP (id_ixD h21) (op_e (sx_var (i := 1) (m := false) rfl (visC (by kernel_rfl)) rfl)) (op_e (sx_var (i := 5) (m := false) rfl (visC (by kernel_rfl)) rfl)) (fun _ _ => rfl)) (as_cons (sx_ixP (id_ixD h21) (op_e (sx_var (i := 1) (m := false) rfl (visC (by kernel_rfl)) rfl)) (op_e (sx_var (i := 6) (m := false) rfl (visL (by kernel_rfl)) rfl)) (fun _ _ => rfl)) as_nil)))) (op_e (sx_ixP (id_ixD h21) (op_e (sx_var (i := 0) (m := false) rfl (visC (by kernel_rfl)) rfl)) (op_e sx_int) (fun _ _ => rfl))) rfl))) (fun _ _ _ _ _ => (sx_tup (as_cons (sx_var (i := 5) (m := false) rfl (visC (by kernel_rfl)) rfl) (as_cons (sx_var (i := 6) (m := false) rfl (visL (by kernel_rfl)) rfl) as_nil))))))) (nm rfl)))))
    (tss_one (ss_ret (sx_tup (as_cons (sx_callT cd_tuple (glI (by kernel_rfl)) B.tuple rfl (ops_cons (op_e (sx_lcV rfl rfl nd (it_any (op_e (sx_var (i := 1) (m := false) rfl (visC (by kernel_rfl)) rfl))) (blkOk_by (own := [((Str.ofString "x"), 7)]) (by kernel_rfl)) (by decide) (by decide) (fun _ _ _ _ _ => (tg_name (i := 7) nd rfl (locL (by kernel_rfl)) rfl)) (fun _ _ _ _ _ => tb_yes) (fun _ _ _ _ _ => (sx_ixP (id_ixD h21) (op_e (sx_ixP (id_ixD h21) (op_e (sx_var (i := 0) (m := false) rfl (visC (by kernel_rfl)) rfl)) (op_e sx_int) (fun _ _ => rfl))) (op_e (sx_var (i := 7) (m := false) rfl (visL (by kernel_rfl)) rfl)) (fun _ _ => rfl))))) ops_nil)) (as_cons (sx_callT cd_tuple (glI (by kernel_rfl)) B.tuple rfl (ops_cons (op_e (sx_var (i := 3) (m := false) rfl (visL (by kernel_rfl)) rfl)) ops_nil)) (as_cons (sx_callT cd_tuple (glI (by kernel_rfl)) B.tuple rfl (ops_cons (op_e (sx_var (i := 4) (m := false) rfl (visL (by kernel_rfl)) rfl)) ops_nil)) as_nil)))))))))
theorem pb__law_once {f : Addr} (C : Cs P w K mg base F k) (B : Bs mg) (cdv : Value) (A : Around) (outer : List Env) (s : Shared) (H : Hp) (hr : Room k (A.deeper (envOfC "_law_once" (defScope s__law_once) s.heap.objs.size f cdv))) (hgd : (A.deeper (envOfC "_law_once" (defScope s__law_once) s.heap.objs.size f cdv)).guards = some []) :
    PSs (cxG P w K mg base [("types" : Str), ("known" : Str), ("one" : Str), ("text" : Str)] "_law_once" (defScope s__law_once) f cdv A outer s H) (defBody s__law_once) (TSt ⟨K, w, P⟩ F m__law_once b__law_once) := by
  have nd := sc__law_once.nd
  have h70 : (cxG P w K mg base [("types" : Str), ("known" : Str), ("one" : Str), ("text" : Str)] "_law_once" (defScope s__law_once) f cdv A outer s H).A.units + 70 < cLine := by have := hr.un; show (A.deeper _).units + 70 < cLine; omega
  have h65 : (cxG P w K mg base [("types" : Str), ("known" : Str), ("one" : Str), ("text" : Str)] "_law_once" (defScope s__law_once) f cdv A outer s H).A.units + 65 < cLine := by omega
  have h64 : (cxG P w K mg base [("types" : Str), ("known" : Str), ("one" : Str), ("text" : Str)] "_law_once" (defScope s__law_once) f cdv A outer s H).A.units + 64 < cLine := by omega
  have h21 : (cxG P w K mg base [("types" : Str), ("known" : Str), ("one" : Str), ("text" : Str)] "_law_once" (defScope s__law_once) f cdv A outer s H).A.units + 20 < cLine := by omega
  have h2 : (cxG P w K mg base [("types" : Str), ("known" : Str), ("one" : Str), ("text" : Str)] "_law_once" (defScope s__law_once) f cdv A outer s H).A.units + 1 < cLine := by omega
  exact (tss_cons (ss_set (i := 1) nd rfl (locC (by kernel_rfl)) (sx_callT (cd_dict rfl h70) (glI (by kernel_rfl)) B.dict rfl (ops_cons (op_e (sx_lcV rfl rfl nd (it_any (op_e (sx_var (i := 0) (m := false) rfl (visL (by kernel_rfl)) rfl))) (blkOk_by (own := [((Str.ofString "one"), 2)]) (by kernel_rfl)) (by decide) (by decide) (fun _ _ _ _ _ => (tg_name (i := 2) nd rfl (locL (by kernel_rfl)) rfl)) (fun _ _ _ _ _ => tb_yes) (fun _ _ _ _ _ => (sx_tup (as_cons (sx_callB (cd_repr h70 hgd) (glI (by kernel_rfl)) B.repr rfl (ops_cons (op_e (sx_var (i := 2) (m := false) rfl (visL (by kernel_rfl)) rfl)) ops_nil)) (as_cons (sx_var (i := 2) (m := false) rfl (visL (by kernel_rfl)) rfl) as_nil)))))) ops_nil)) (nm rfl))
    (tss_one (ss_ret (sx_callT cd_tuple (glI (by kernel_rfl)) B.tuple rfl (ops_cons (op_e (sx_lcV rfl rfl nd (it_any (op_e (sx_callB (cd_sortedD rfl h70) (glI (by kernel_rfl)) B.sorted rfl (ops_cons (op_e (sx_var (i := 1) (m := false) rfl (visC (by kernel_rfl)) rfl)) ops_nil)))) (blkOk_by (own := [((Str.ofString "text"), 3)]) (by kernel_rfl)) (by decide) (by decide) (fun _ _ _ _ _ => (tg_name (i := 3) nd rfl (locL (by kernel_rfl)) rfl)) (fun _ _ _ _ _ => tb_yes) (fun _ _ _ _ _ => (sx_ixP (id_ixD h21) (op_e (sx_var (i := 1) (m := false) rfl (visC (by kernel_rfl)) rfl)) (op_e (sx_var (i := 3) (m := false) rfl (visL (by kernel_rfl)) rfl)) (fun _ _ => rfl))))) ops_nil)))))
theorem pb__law_type {f : Addr} (C : Cs P w K mg base F k) (B : Bs mg) (cdv : Value) (A : Around) (outer : List Env) (s : Shared) (H : Hp) (hr : Room k (A.deeper (envOfC "_law_type" (defScope s__law_type) s.heap.objs.size f cdv))) (hgd : (A.deeper (envOfC "_law_type" (defScope s__law_type) s.heap.objs.size f cdv)).guards = some []) :
    PSs (cxG P w K mg base [("web" : Str), ("row" : Str), ("r" : Str), ("x" : Str)] "_law_type" (defScope s__law_type) f cdv A outer s H) (defBody s__law_type) (TSt ⟨K, w, P⟩ F m__law_type b__law_type) := by
  have nd := sc__law_type.nd
  have h70 : (cxG P w K mg base [("web" : Str), ("row" : Str), ("r" : Str), ("x" : Str)] "_law_type" (defScope s__law_type) f cdv A outer s H).A.units + 70 < cLine := by have := hr.un; show (A.deeper _).units + 70 < cLine; omega
  have h65 : (cxG P w K mg base [("web" : Str), ("row" : Str), ("r" : Str), ("x" : Str)] "_law_type" (defScope s__law_type) f cdv A outer s H).A.units + 65 < cLine := by omega
  have h64 : (cxG P w K mg base [("web" : Str), ("row" : Str), ("r" : Str), ("x" : Str)] "_law_type" (defScope s__law_type) f cdv A outer s H).A.units + 64 < cLine := by omega
  have h21 : (cxG P w K mg base [("web" : Str), ("row" : Str), ("r" : Str), ("x" : Str)] "_law_type" (defScope s__law_type) f cdv A outer s H).A.units + 20 < cLine := by omega
  have h2 : (cxG P w K mg base [("web" : Str), ("row" : Str), ("r" : Str), ("x" : Str)] "_law_type" (defScope s__law_type) f cdv A outer s H).A.units + 1 < cLine := by omega
  exact (tss_cons (ss_if (tb_cmp (od_eq h64) (op_e (sx_var (i := 2) (m := false) rfl (visC (by kernel_rfl)) rfl)) (op_e sx_int) rfl) (tss_one (ss_ret (sx_tup (as_cons (sx_call C._law_eye hr hgd (glI (by kernel_rfl)) (as_cons (sx_var (i := 0) (m := false) rfl (visC (by kernel_rfl)) rfl) (as_cons (sx_var (i := 1) (m := false) rfl (visC (by kernel_rfl)) rfl) as_nil)) rfl) (as_cons (sx_tup as_nil) as_nil))))) tss_nil)
    (tss_one (ss_ret (sx_tup (as_cons (sx_call C._law_eye hr hgd (glI (by kernel_rfl)) (as_cons (sx_var (i := 0) (m := false) rfl (visC (by kernel_rfl)) rfl) (as_cons (sx_var (i := 1) (m := false) rfl (visC (by kernel_rfl)) rfl) as_nil)) rfl) (as_cons (sx_call C._law_once hr hgd (glI (by kernel_rfl)) (as_cons (sx_lcV rfl rfl nd (it_rng1 (glI (by kernel_rfl)) B.range (op_e (sx_ixP (id_ixD h21) (op_e (sx_var (i := 0) (m := false) rfl (visC (by kernel_rfl)) rfl)) (op_e sx_int) (fun _ _ => rfl)))) (blkOk_by (own := [((Str.ofString "x"), 3)]) (by kernel_rfl)) (by decide) (by decide) (fun _ _ _ _ _ => (tg_name (i := 3) nd rfl (locL (by kernel_rfl)) rfl)) (fun _ _ _ _ _ => tb_yes) (fun _ _ _ _ _ => (sx_call C._law_type hr hgd (glI (by kernel_rfl)) (as_cons (sx_var (i := 0) (m := false) rfl (visC (by kernel_rfl)) rfl) (as_cons (sx_bin od_add (op_e (sx_var (i := 1) (m := false) rfl (visC (by kernel_rfl)) rfl)) (op_e (sx_tup (as_cons (sx_var (i := 3) (m := false) rfl (visL (by kernel_rfl)) rfl) as_nil)))) (as_cons (sx_bin od_sub (op_e (sx_var (i := 2) (m := false) rfl (visC (by kernel_rfl)) rfl)) (op_e sx_int)) as_nil))) rfl))) as_nil) rfl) as_nil))))))
theorem pb_law {f : Addr} (C : Cs P w K mg base F k) (B : Bs mg) (cdv : Value) (A : Around) (outer : List Env) (s : Shared) (H : Hp) (hr : Room k (A.deeper (envOfC "law" (defScope s_law) s.heap.objs.size f cdv))) (hgd : (A.deeper (envOfC "law" (defScope s_law) s.heap.objs.size f cdv)).guards = some []) :
    PSs (cxG P w K mg base [("script" : Str), ("source" : Str), ("lap" : Str), ("one" : Str), ("other" : Str), ("kept" : Str), ("look" : Str), ("k" : Str), ("a" : Str), ("b" : Str), ("r" : Str), ("told" : Str), ("due" : Str), ("places" : Str), ("late" : Str), ("place" : Str), ("row" : Str), ("i" : Str)] "law" (defScope s_law) f cdv A outer s H) (defBody s_law) (TSt ⟨K, w, P⟩ F m_law b_law) := by
  have nd := sc_law.nd
  have h70 : (cxG P w K mg base [("script" : Str), ("source" : Str), ("lap" : Str), ("one" : Str), ("other" : Str), ("kept" : Str), ("look" : Str), ("k" : Str), ("a" : Str), ("b" : Str), ("r" : Str), ("told" : Str), ("due" : Str), ("places" : Str), ("late" : Str), ("place" : Str), ("row" : Str), ("i" : Str)] "law" (defScope s_law) f cdv A outer s H).A.units + 70 < cLine := by have := hr.un; show (A.deeper _).units + 70 < cLine; omega
  have h65 : (cxG P w K mg base [("script" : Str), ("source" : Str), ("lap" : Str), ("one" : Str), ("other" : Str), ("kept" : Str), ("look" : Str), ("k" : Str), ("a" : Str), ("b" : Str), ("r" : Str), ("told" : Str), ("due" : Str), ("places" : Str), ("late" : Str), ("place" : Str), ("row" : Str), ("i" : Str)] "law" (defScope s_law) f cdv A outer s H).A.units + 65 < cLine := by omega
  have h64 : (cxG P w K mg base [("script" : Str), ("source" : Str), ("lap" : Str), ("one" : Str), ("other" : Str), ("kept" : Str), ("look" : Str), ("k" : Str), ("a" : Str), ("b" : Str), ("r" : Str), ("told" : Str), ("due" : Str), ("places" : Str), ("late" : Str), ("place" : Str), ("row" : Str), ("i" : Str)] "law" (defScope s_law) f cdv A outer s H).A.units + 64 < cLine := by omega
  have h21 : (cxG P w K mg base [("script" : Str), ("source" : Str), ("lap" : Str), ("one" : Str), ("other" : Str), ("kept" : Str), ("look" : Str), ("k" : Str), ("a" : Str), ("b" : Str), ("r" : Str), ("told" : Str), ("due" : Str), ("places" : Str), ("late" : Str), ("place" : Str), ("row" : Str), ("i" : Str)] "law" (defScope s_law) f cdv A outer s H).A.units + 20 < cLine := by omega
  have h2 : (cxG P w K mg base [("script" : Str), ("source" : Str), ("lap" : Str), ("one" : Str), ("other" : Str), ("kept" : Str), ("look" : Str), ("k" : Str), ("a" : Str), ("b" : Str), ("r" : Str), ("told" : Str), ("due" : Str), ("places" : Str), ("late" : Str), ("place" : Str), ("row" : Str), ("i" : Str)] "law" (defScope s_law) f cdv A outer s H).A.units + 1 < cLine := by omega
  exact (tss_cons (ss_set (i := 1) nd rfl (locC (by kernel_rfl)) (sx_call C._law_source hr hgd (glI (by kernel_rfl)) (as_cons (sx_var (i := 0) (m := false) rfl (visL (by kernel_rfl)) rfl) as_nil) rfl) (nm rfl))
    (tss_cons (ss_for PassesOwn.never rfl (it_rng1 (glI (by kernel_rfl)) B.range (op_e sx_int)) (tg_name (i := 2) nd rfl (locL (by kernel_rfl)) rfl) (tss_cons (ss_set (i := 3) nd rfl (locL (by kernel_rfl)) (sx_call C._law_web hr hgd (glI (by kernel_rfl)) (as_cons (sx_var (i := 1) (m := false) rfl (visC (by kernel_rfl)) rfl) (as_cons (sx_ixP (id_ixD h21) (op_e (sx_lst (as_cons sx_int (as_cons sx_int (as_cons sx_int as_nil))))) (op_e (sx_var (i := 2) (m := false) rfl (visL (by kernel_rfl)) rfl)) (fun _ _ => rfl)) as_nil)) rfl) (nm rfl))
    (tss_cons (ss_set (i := 4) nd rfl (locL (by kernel_rfl)) (sx_call C._law_other hr hgd (glI (by kernel_rfl)) (as_cons (sx_var (i := 1) (m := false) rfl (visC (by kernel_rfl)) rfl) (as_cons (sx_var (i := 3) (m := false) rfl (visL (by kernel_rfl)) rfl) (as_cons (sx_ixP (id_ixD h21) (op_e (sx_lst (as_cons sx_int (as_cons sx_int (as_cons sx_int as_nil))))) (op_e (sx_var (i := 2) (m := false) rfl (visL (by kernel_rfl)) rfl)) (fun _ _ => rfl)) as_nil))) rfl) (nm rfl))
    (tss_cons (ss_set (i := 5) nd rfl (locL (by kernel_rfl)) (sx_callB (cd_repr h70 hgd) (glI (by kernel_rfl)) B.repr rfl (ops_cons (op_e (sx_lst (as_cons (sx_var (i := 3) (m := false) rfl (visL (by kernel_rfl)) rfl) (as_cons (sx_var (i := 4) (m := false) rfl (visL (by kernel_rfl)) rfl) as_nil)))) ops_nil)) (nm rfl))
    (tss_cons (ss_for PassesOwn.never rfl (it_rng1 (glI (by kernel_rfl)) B.range (op_e sx_int)) (tg_name (i := 6) nd rfl (locL (by kernel_rfl)) rfl) (tss_cons (ss_set (i := 7) nd rfl (locC (by kernel_rfl)) (sx_call C._law_pick hr hgd (glI (by kernel_rfl)) (as_cons (sx_var (i := 1) (m := false) rfl (visC (by kernel_rfl)) rfl) (as_cons sx_int as_nil)) rfl) (nm rfl))
    (tss_cons (ss_par3 (i := 8) (j := 9) (l := 10) rfl nd rfl rfl rfl (by decide) (by decide) (by decide) rfl rfl rfl (sx_call C._law_row hr hgd (glI (by kernel_rfl)) (as_cons (sx_var (i := 1) (m := false) rfl (visC (by kernel_rfl)) rfl) (as_cons (sx_var (i := 3) (m := false) rfl (visL (by kernel_rfl)) rfl) (as_cons (sx_var (i := 7) (m := false) rfl (visC (by kernel_rfl)) rfl) as_nil))) rfl) (sx_call C._law_row hr hgd (glI (by kernel_rfl)) (as_cons (sx_var (i := 1) (m := false) rfl (visC (by kernel_rfl)) rfl) (as_cons (sx_var (i := 4) (m := false) rfl (visL (by kernel_rfl)) rfl) (as_cons (sx_var (i := 7) (m := false) rfl (visC (by kernel_rfl)) rfl) as_nil))) rfl) (sx_call C._law_pick hr hgd (glI (by kernel_rfl)) (as_cons (sx_var (i := 1) (m := false) rfl (visC (by kernel_rfl)) rfl) (as_cons (sx_if (tb_cmp od_gt (op_e (sx_var (i := 7) (m := false) rfl (visC (by kernel_rfl)) rfl)) (op_e sx_int) rfl) sx_int (sx_bin od_sub (op_e sx_int) (op_e (sx_var (i := 7) (m := false) rfl (visC (by kernel_rfl)) rfl)))) as_nil)) rfl) (nm rfl) (nm rfl) (nm rfl))
    (tss_cons (ss_if (PW.pt (tb_and (tb_cmp od_gt (op_e (sx_ixP (id_ixD h21) (op_e (sx_var (i := 3) (m := false) rfl (visL (by kernel_rfl)) rfl)) (op_e sx_int) (fun _ _ => rfl))) (op_e sx_int) rfl) (tb_and1 (tb_cmp od_gt (op_e (sx_var (i := 10) (m := false) rfl (visL (by kernel_rfl)) rfl)) (op_e sx_int) rfl)))) (tss_one (ss_set (i := 10) nd rfl (locL (by kernel_rfl)) sx_int (nm rfl))) tss_nil)
    (tss_cons (ss_if (tb_cmp (od_ne h64) (op_e (sx_callB (cd_repr h70 hgd) (glI (by kernel_rfl)) B.repr rfl (ops_cons (op_e (sx_lst (as_cons (sx_call C.row_eye hr hgd (glI (by kernel_rfl)) (as_cons (sx_var (i := 3) (m := false) rfl (visL (by kernel_rfl)) rfl) (as_cons (sx_var (i := 8) (m := false) rfl (visL (by kernel_rfl)) rfl) as_nil)) rfl) (as_cons (sx_call C.row_eye hr hgd (glI (by kernel_rfl)) (as_cons (sx_var (i := 4) (m := false) rfl (visL (by kernel_rfl)) rfl) (as_cons (sx_var (i := 9) (m := false) rfl (visL (by kernel_rfl)) rfl) as_nil)) rfl) as_nil)))) ops_nil))) (op_e (sx_callB (cd_repr h70 hgd) (glI (by kernel_rfl)) B.repr rfl (ops_cons (op_e (sx_lst (as_cons (sx_call C._law_eye hr hgd (glI (by kernel_rfl)) (as_cons (sx_var (i := 3) (m := false) rfl (visL (by kernel_rfl)) rfl) (as_cons (sx_var (i := 8) (m := false) rfl (visL (by kernel_rfl)) rfl) as_nil)) rfl) (as_cons (sx_call C._law_eye hr hgd (glI (by kernel_rfl)) (as_cons (sx_var (i := 4) (m := false) rfl (visL (by kernel_rfl)) rfl) (as_cons (sx_var (i := 9) (m := false) rfl (visL (by kernel_rfl)) rfl) as_nil)) rfl) as_nil)))) ops_nil))) rfl) (tss_one (ss_ret sx_bl)) tss_nil)
    (tss_cons (ss_set (i := 11) nd rfl (locL (by kernel_rfl)) (sx_call C.rank_type hr hgd (glI (by kernel_rfl)) (as_cons (sx_var (i := 3) (m := false) rfl (visL (by kernel_rfl)) rfl) (as_cons (sx_var (i := 8) (m := false) rfl (visL (by kernel_rfl)) rfl) (as_cons (sx_var (i := 10) (m := false) rfl (visL (by kernel_rfl)) rfl) as_nil))) rfl) (nm rfl))
    (tss_cons (ss_if (tb_cmp (od_ne h64) (op_e (sx_callB (cd_repr h70 hgd) (glI (by kernel_rfl)) B.repr rfl (ops_cons (op_e (sx_lst (as_cons (sx_var (i := 11) (m := false) rfl (visL (by kernel_rfl)) rfl) (as_cons (sx_call C.rank_type hr hgd (glI (by kernel_rfl)) (as_cons (sx_var (i := 4) (m := false) rfl (visL (by kernel_rfl)) rfl) (as_cons (sx_var (i := 9) (m := false) rfl (visL (by kernel_rfl)) rfl) (as_cons (sx_var (i := 10) (m := false) rfl (visL (by kernel_rfl)) rfl) as_nil))) rfl) as_nil)))) ops_nil))) (op_e (sx_callB (cd_repr h70 hgd) (glI (by kernel_rfl)) B.repr rfl (ops_cons (op_e (sx_lst (as_cons (sx_call C._law_type hr hgd (glI (by kernel_rfl)) (as_cons (sx_var (i := 3) (m := false) rfl (visL (by kernel_rfl)) rfl) (as_cons (sx_var (i := 8) (m := false) rfl (visL (by kernel_rfl)) rfl) (as_cons (sx_var (i := 10) (m := false) rfl (visL (by kernel_rfl)) rfl) as_nil))) rfl) (as_cons (sx_call C._law_type hr hgd (glI (by kernel_rfl)) (as_cons (sx_var (i := 4) (m := false) rfl (visL (by kernel_rfl)) rfl) (as_cons (sx_var (i := 9) (m := false) rfl (visL (by kernel_rfl)) rfl) (as_cons (sx_var (i := 10) (m := false) rfl (visL (by kernel_rfl)) rfl) as_nil))) rfl) as_nil)))) ops_nil))) rfl) (tss_one (ss_ret sx_bl)) tss_nil)
    (tss_cons (ss_if (PW.pt (tb_and (tb_cmp od_gt (op_e (sx_var (i := 10) (m := false) rfl (visL (by kernel_rfl)) rfl)) (op_e sx_int) rfl) (tb_and1 (tb_cmp (od_ne h64) (op_e (sx_callB (cd_repr h70 hgd) (glI (by kernel_rfl)) B.repr rfl (ops_cons (op_e (sx_call C.lowered_type hr hgd (glI (by kernel_rfl)) (as_cons (sx_var (i := 11) (m := false) rfl (visL (by kernel_rfl)) rfl) as_nil) rfl)) ops_nil))) (op_e (sx_callB (cd_repr h70 hgd) (glI (by kernel_rfl)) B.repr rfl (ops_cons (op_e (sx_call C._law_type hr hgd (glI (by kernel_rfl)) (as_cons (sx_var (i := 3) (m := false) rfl (visL (by kernel_rfl)) rfl) (as_cons (sx_var (i := 8) (m := false) rfl (visL (by kernel_rfl)) rfl) (as_cons (sx_bin od_sub (op_e (sx_var (i := 10) (m := false) rfl (visL (by kernel_rfl)) rfl)) (op_e sx_int)) as_nil))) rfl)) ops_nil))) rfl)))) (tss_one (ss_ret sx_bl)) tss_nil)
    (tss_cons (ss_set (i := 12) nd rfl (locL (by kernel_rfl)) (sx_call C._law_is_kept hr hgd (glI (by kernel_rfl)) (as_cons (sx_var (i := 3) (m := false) rfl (visL (by kernel_rfl)) rfl) (as_cons (sx_var (i := 8) (m := false) rfl (visL (by kernel_rfl)) rfl) (as_cons (sx_var (i := 4) (m := false) rfl (visL (by kernel_rfl)) rfl) (as_cons (sx_var (i := 9) (m := false) rfl (visL (by kernel_rfl)) rfl) (as_cons (sx_var (i := 10) (m := false) rfl (visL (by kernel_rfl)) rfl) as_nil))))) rfl) (nm rfl))
    (tss_cons (ss_if (tb_cmp (od_ne h64) (op_e (sx_callB (cd_repr h70 hgd) (glI (by kernel_rfl)) B.repr rfl (ops_cons (op_e (sx_call C.are_kept hr hgd (glI (by kernel_rfl)) (as_cons (sx_var (i := 3) (m := false) rfl (visL (by kernel_rfl)) rfl) (as_cons (sx_var (i := 8) (m := false) rfl (visL (by kernel_rfl)) rfl) (as_cons (sx_var (i := 4) (m := false) rfl (visL (by kernel_rfl)) rfl) (as_cons (sx_var (i := 9) (m := false) rfl (visL (by kernel_rfl)) rfl) (as_cons (sx_var (i := 10) (m := false) rfl (visL (by kernel_rfl)) rfl) as_nil))))) rfl)) ops_nil))) (op_e (sx_callB (cd_repr h70 hgd) (glI (by kernel_rfl)) B.repr rfl (ops_cons (op_e (sx_var (i := 12) (m := false) rfl (visL (by kernel_rfl)) rfl)) ops_nil))) rfl) (tss_one (ss_ret sx_bl)) tss_nil)
    (tss_cons (ss_if (PW.pt (tb_or (tb_cmp (od_ne h64) (op_e (sx_cmp (od_eq h64) (op_e (sx_callB (cd_repr h70 hgd) (glI (by kernel_rfl)) B.repr rfl (ops_cons (op_e (sx_var (i := 11) (m := false) rfl (visL (by kernel_rfl)) rfl)) ops_nil))) (op_e (sx_callB (cd_repr h70 hgd) (glI (by kernel_rfl)) B.repr rfl (ops_cons (op_e (sx_call C.rank_type hr hgd (glI (by kernel_rfl)) (as_cons (sx_var (i := 4) (m := false) rfl (visL (by kernel_rfl)) rfl) (as_cons (sx_var (i := 9) (m := false) rfl (visL (by kernel_rfl)) rfl) (as_cons (sx_var (i := 10) (m := false) rfl (visL (by kernel_rfl)) rfl) as_nil))) rfl)) ops_nil))) rfl)) (op_e (sx_var (i := 12) (m := false) rfl (visL (by kernel_rfl)) rfl)) rfl) (tb_or1 (tb_cmp (od_ne h64) (op_e (sx_call C.are_kept hr hgd (glI (by kernel_rfl)) (as_cons (sx_var (i := 4) (m := false) rfl (visL (by kernel_rfl)) rfl) (as_cons (sx_var (i := 9) (m := false) rfl (visL (by kernel_rfl)) rfl) (as_cons (sx_var (i := 3) (m := false) rfl (visL (by kernel_rfl)) rfl) (as_cons (sx_var (i := 8) (m := false) rfl (visL (by kernel_rfl)) rfl) (as_cons (sx_var (i := 10) (m := false) rfl (visL (by kernel_rfl)) rfl) as_nil))))) rfl)) (op_e (sx_var (i := 12) (m := false) rfl (visL (by kernel_rfl)) rfl)) rfl)))) (tss_one (ss_ret sx_bl)) tss_nil)
    (tss_cons (ss_set (i := 13) nd rfl (locC (by kernel_rfl)) (sx_lcV rfl rfl nd (it_rng1 (glI (by kernel_rfl)) B.range (op_e (sx_if (tb_cmp od_gt (op_e (sx_var (i := 7) (m := false) rfl (visC (by kernel_rfl)) rfl)) (op_e sx_int) rfl) (sx_call C._law_pick hr hgd (glI (by kernel_rfl)) (as_cons (sx_var (i := 1) (m := false) rfl (visC (by kernel_rfl)) rfl) (as_cons sx_int as_nil)) rfl) sx_int))) (blkOk_by (own := [((Str.ofString "place"), 15)]) (by kernel_rfl)) (by decide) (by decide) (fun _ _ _ _ _ => (tg_name (i := 15) nd rfl (locL (by kernel_rfl)) rfl)) (fun _ _ _ _ _ => tb_yes) (fun _ _ _ _ _ => (sx_call C._law_pick hr hgd (glI (by kernel_rfl)) (as_cons (sx_var (i := 1) (m := false) rfl (visC (by kernel_rfl)) rfl) (as_cons (sx_var (i := 7) (m := false) rfl (visC (by kernel_rfl)) rfl) as_nil)) rfl))) (nm rfl))
    (tss_cons (ss_setLcV (i := 14) rfl rfl nd rfl (by kernel_rfl) (it_any (op_e (sx_tup (as_cons (sx_var (i := 8) (m := false) rfl (visL (by kernel_rfl)) rfl) (as_cons (sx_var (i := 9) (m := false) rfl (visL (by kernel_rfl)) rfl) as_nil))))) (blkOk_by (own := [((Str.ofString "row"), 16)]) (by kernel_rfl)) (by decide) (by decide) (fun _ _ _ _ _ => (tg_name (i := 16) nd rfl (locC (by kernel_rfl)) rfl)) (fun _ _ _ _ _ => tb_yes) (fun _ _ _ _ _ => (sx_callT cd_tuple (glI (by kernel_rfl)) B.tuple rfl (ops_cons (op_e (sx_lcV rfl rfl nd (it_any (op_e (sx_var (i := 13) (m := false) rfl (visC (by kernel_rfl)) rfl))) (blkOk_by (own := [((Str.ofString "i"), 17)]) (by kernel_rfl)) (by decide) (by decide) (fun _ _ _ _ _ => (tg_name (i := 17) nd rfl (locL (by kernel_rfl)) rfl)) (fun _ _ _ _ _ => tb_yes) (fun _ _ _ _ _ => (sx_ixP (id_ixD h21) (op_e (sx_var (i := 16) (m := false) rfl (visC (by kernel_rfl)) rfl)) (op_e (sx_var (i := 17) (m := false) rfl (visL (by kernel_rfl)) rfl)) (fun _ _ => rfl))))) ops_nil))) (sw_true rfl (by kernel_rfl) rfl (by kernel_rfl)))
    (tss_cons (ss_if (PW.pt (tb_and (tb_tru (op_e (sx_var (i := 12) (m := false) rfl (visL (by kernel_rfl)) rfl)) (fun _ => rfl)) (tb_and1 (tb_not (tb_tru (op_e (sx_call C.are_kept hr hgd (glI (by kernel_rfl)) (as_cons (sx_var (i := 3) (m := false) rfl (visL (by kernel_rfl)) rfl) (as_cons (sx_ixP (id_ixD h21) (op_e (sx_var (i := 14) (m := false) rfl (visL (by kernel_rfl)) rfl)) (op_e sx_int) (fun _ _ => rfl)) (as_cons (sx_var (i := 4) (m := false) rfl (visL (by kernel_rfl)) rfl) (as_cons (sx_ixP (id_ixD h21) (op_e (sx_var (i := 14) (m := false) rfl (visL (by kernel_rfl)) rfl)) (op_e sx_int) (fun _ _ => rfl)) (as_cons (sx_var (i := 10) (m := false) rfl (visL (by kernel_rfl)) rfl) as_nil))))) rfl)) (fun _ => rfl)))))) (tss_one (ss_ret sx_bl)) tss_nil)
    (tss_one (ss_if (PW.pt (tb_and (tb_tru (op_e (sx_var (i := 12) (m := false) rfl (visL (by kernel_rfl)) rfl)) (fun _ => rfl)) (tb_and (tb_cmp od_gt (op_e (sx_var (i := 10) (m := false) rfl (visL (by kernel_rfl)) rfl)) (op_e sx_int) rfl) (tb_and1 (tb_not (tb_tru (op_e (sx_call C.are_kept hr hgd (glI (by kernel_rfl)) (as_cons (sx_var (i := 3) (m := false) rfl (visL (by kernel_rfl)) rfl) (as_cons (sx_var (i := 8) (m := false) rfl (visL (by kernel_rfl)) rfl) (as_cons (sx_var (i := 4) (m := false) rfl (visL (by kernel_rfl)) rfl) (as_cons (sx_var (i := 9) (m := false) rfl (visL (by kernel_rfl)) rfl) (as_cons (sx_bin od_sub (op_e (sx_var (i := 10) (m := false) rfl (visL (by kernel_rfl)) rfl)) (op_e sx_int)) as_nil))))) rfl)) (fun _ => rfl))))))) (tss_one (ss_ret sx_bl)) tss_nil))))))))))))))))
    (tss_one (ss_if (tb_cmp (od_ne h64) (op_e (sx_callB (cd_repr h70 hgd) (glI (by kernel_rfl)) B.repr rfl (ops_cons (op_e (sx_lst (as_cons (sx_var (i := 3) (m := false) rfl (visL (by kernel_rfl)) rfl) (as_cons (sx_var (i := 4) (m := false) rfl (visL (by kernel_rfl)) rfl) as_nil)))) ops_nil))) (op_e (sx_var (i := 5) (m := false) rfl (visL (by kernel_rfl)) rfl)) rfl) (tss_one (ss_ret sx_bl)) tss_nil)))))))
    (tss_one (ss_ret (sx_cmp (od_eq h64) (op_e (sx_call C.row_eye hr hgd (glI (by kernel_rfl)) (as_cons (sx_tup (as_cons sx_int (as_cons (sx_tup (as_cons sx_int (as_cons sx_int as_nil))) (as_cons (sx_tup (as_cons (sx_tup (as_cons sx_int (as_cons sx_int as_nil))) as_nil)) as_nil)))) (as_cons (sx_tup (as_cons sx_int (as_cons sx_int (as_cons sx_int as_nil)))) as_nil)) rfl)) (op_e (sx_tup (as_cons (sx_tup (as_cons sx_int (as_cons sx_int (as_cons sx_int as_nil)))) (as_cons (sx_tup (as_cons (sx_tup (as_cons sx_int (as_cons sx_int as_nil))) as_nil)) (as_cons (sx_tup (as_cons (sx_tup (as_cons sx_int (as_cons sx_int as_nil))) (as_cons (sx_tup (as_cons sx_int (as_cons sx_int as_nil))) as_nil))) as_nil))))) rfl)))))
end
structure Fs (K : PySem.W.Frag) (mg : Str → Option Value) : Prop where
  row_eye : Fa K mg "row_eye" s_row_eye [("web" : Str), ("row" : Str)]
  each_once : Fa K mg "each_once" s_each_once [("types" : Str)]
  rank_type : Fa K mg "rank_type" s_rank_type [("web" : Str), ("row" : Str), ("r" : Str)]
  depth_of : Fa K mg "depth_of" s_depth_of [("told" : Str)]
  lowered_to : Fa K mg "lowered_to" s_lowered_to [("told" : Str), ("r" : Str)]
  lowered_type : Fa K mg "lowered_type" s_lowered_type [("told" : Str)]
  are_kept : Fa K mg "are_kept" s_are_kept [("one" : Str), ("a" : Str), ("other" : Str), ("b" : Str), ("r" : Str)]
  _law_source : Fa K mg "_law_source" s__law_source [("script" : Str)]
  _law_pick : Fa K mg "_law_pick" s__law_pick [("source" : Str), ("most" : Str)]
  _law_of : Fa K mg "_law_of" s__law_of [("source" : Str), ("some" : Str)]
  _law_mixed : Fa K mg "_law_mixed" s__law_mixed [("source" : Str), ("things" : Str)]
  _law_told_web : Fa K mg "_law_told_web" s__law_told_web [("n" : Str), ("colors" : Str), ("arrows" : Str)]
  _law_web : Fa K mg "_law_web" s__law_web [("source" : Str), ("most" : Str)]
  _law_called : Fa K mg "_law_called" s__law_called [("source" : Str), ("web" : Str)]
  _law_other : Fa K mg "_law_other" s__law_other [("source" : Str), ("web" : Str), ("most" : Str)]
  _law_is_same : Fa K mg "_law_is_same" s__law_is_same [("one" : Str), ("a" : Str), ("other" : Str), ("b" : Str)]
  _law_is_kept : Fa K mg "_law_is_kept" s__law_is_kept [("one" : Str), ("a" : Str), ("other" : Str), ("b" : Str), ("r" : Str)]
  _law_row : Fa K mg "_law_row" s__law_row [("source" : Str), ("web" : Str), ("many" : Str)]
  _law_eye : Fa K mg "_law_eye" s__law_eye [("web" : Str), ("row" : Str)]
  _law_once : Fa K mg "_law_once" s__law_once [("types" : Str)]
  _law_type : Fa K mg "_law_type" s__law_type [("web" : Str), ("row" : Str), ("r" : Str)]
  law : Fa K mg "law" s_law [("script" : Str)]
theorem cs_all {P : Program} {w : World} {K : PySem.W.Frag} {mg : Str → Option Value} {base : Heap} {fuel : Nat} (A : Fs K mg) (B : Bs mg) : ∀ k, Cs P w K mg base (fnAt T fuel k) k
  | 0 => ⟨A.row_eye.zero rfl, A.each_once.zero rfl, A.rank_type.zero rfl, A.depth_of.zero rfl, A.lowered_to.zero rfl, A.lowered_type.zero rfl, A.are_kept.zero rfl, A._law_source.zero rfl, A._law_pick.zero rfl, A._law_of.zero rfl, A._law_mixed.zero rfl, A._law_told_web.zero rfl, A._law_web.zero rfl, A._law_called.zero rfl, A._law_other.zero rfl, A._law_is_same.zero rfl, A._law_is_kept.zero rfl, A._law_row.zero rfl, A._law_eye.zero rfl, A._law_once.zero rfl, A._law_type.zero rfl, A.law.zero rfl⟩
  | k + 1 => by
    have C := cs_all (P := P) (w := w) (base := base) (fuel := fuel) A B k
    exact ⟨A.row_eye.succ sc_row_eye rfl rfl rfl (by decide) (fun f cdv A outer s H hr hgd => pb_row_eye C B cdv A outer s H hr hgd) rfl,
      A.each_once.succ sc_each_once rfl rfl rfl (by decide) (fun f cdv A outer s H hr hgd => pb_each_once C B cdv A outer s H hr hgd) rfl,
      A.rank_type.succ sc_rank_type rfl rfl rfl (by decide) (fun f cdv A outer s H hr hgd => pb_rank_type C B cdv A outer s H hr hgd) rfl,
      A.depth_of.succ sc_depth_of rfl rfl rfl (by decide) (fun f cdv A outer s H hr hgd => pb_depth_of C B cdv A outer s H hr hgd) rfl,
      A.lowered_to.succ sc_lowered_to rfl rfl rfl (by decide) (fun f cdv A outer s H hr hgd => pb_lowered_to C B cdv A outer s H hr hgd) rfl,
      A.lowered_type.succ sc_lowered_type rfl rfl rfl (by decide) (fun f cdv A outer s H hr hgd => pb_lowered_type C B cdv A outer s H hr hgd) rfl,
      A.are_kept.succ sc_are_kept rfl rfl rfl (by decide) (fun f cdv A outer s H hr hgd => pb_are_kept C B cdv A outer s H hr hgd) rfl,
      A._law_source.succ sc__law_source rfl rfl rfl (by decide) (fun f cdv A outer s H hr hgd => pb__law_source C B cdv A outer s H hr hgd) rfl,
      A._law_pick.succ sc__law_pick rfl rfl rfl (by decide) (fun f cdv A outer s H hr hgd => pb__law_pick C B cdv A outer s H hr hgd) rfl,
      A._law_of.succ sc__law_of rfl rfl rfl (by decide) (fun f cdv A outer s H hr hgd => pb__law_of C B cdv A outer s H hr hgd) rfl,
      A._law_mixed.succ sc__law_mixed rfl rfl rfl (by decide) (fun f cdv A outer s H hr hgd => pb__law_mixed C B cdv A outer s H hr hgd) rfl,
      A._law_told_web.succ sc__law_told_web rfl rfl rfl (by decide) (fun f cdv A outer s H hr hgd => pb__law_told_web C B cdv A outer s H hr hgd) rfl,
      A._law_web.succ sc__law_web rfl rfl rfl (by decide) (fun f cdv A outer s H hr hgd => pb__law_web C B cdv A outer s H hr hgd) rfl,
      A._law_called.succ sc__law_called rfl rfl rfl (by decide) (fun f cdv A outer s H hr hgd => pb__law_called C B cdv A outer s H hr hgd) rfl,
      A._law_other.succ sc__law_other rfl rfl rfl (by decide) (fun f cdv A outer s H hr hgd => pb__law_other C B cdv A outer s H hr hgd) rfl,
      A._law_is_same.succ sc__law_is_same rfl rfl rfl (by decide) (fun f cdv A outer s H hr hgd => pb__law_is_same C B cdv A outer s H hr hgd) rfl,
      A._law_is_kept.succ sc__law_is_kept rfl rfl rfl (by decide) (fun f cdv A outer s H hr hgd => pb__law_is_kept C B cdv A outer s H hr hgd) rfl,
      A._law_row.succ sc__law_row rfl rfl rfl (by decide) (fun f cdv A outer s H hr hgd => pb__law_row C B cdv A outer s H hr hgd) rfl,
      A._law_eye.succ sc__law_eye rfl rfl rfl (by decide) (fun f cdv A outer s H hr hgd => pb__law_eye C B cdv A outer s H hr hgd) rfl,
      A._law_once.succ sc__law_once rfl rfl rfl (by decide) (fun f cdv A outer s H hr hgd => pb__law_once C B cdv A outer s H hr hgd) rfl,
      A._law_type.succ sc__law_type rfl rfl rfl (by decide) (fun f cdv A outer s H hr hgd => pb__law_type C B cdv A outer s H hr hgd) rfl,
      A.law.succ sc_law rfl rfl rfl (by decide) (fun f cdv A outer s H hr hgd => pb_law C B cdv A outer s H hr hgd) rfl⟩
theorem all_mk {l : PySem.W.OpenLaw} {w : World} {K : PySem.W.Frag} {h : Heap} {mg : Str → Option Value} {fa f0 f1 f2 f3 f4 f5 f6 f7 f8 f9 f10 f11 f12 f13 f14 f15 f16 f17 f18 f19 f20 f21 : Addr} (X : K.In h) (G : h.Ns mainGlobals mg) (hfa : mg "law" = some (.ref fa))
    {od0 an0 od1 an1 od2 an2 od3 an3 od4 an4 od5 an5 od6 an6 od7 an7 od8 an8 od9 an9 od10 an10 od11 an11 od12 an12 od13 an13 od14 an14 od15 an15 od16 an16 od17 an17 od18 an18 od19 an19 od20 an20 od21 an21 : Option Addr} {sl0 sl1 sl2 sl3 sl4 sl5 sl6 sl7 sl8 sl9 sl10 sl11 sl12 sl13 sl14 sl15 sl16 sl17 sl18 sl19 sl20 sl21 : Array (Option Value)} {oc0 kV0 dc0 pm0 cd0 ct0 oc1 kV1 dc1 pm1 cd1 ct1 oc2 kV2 dc2 pm2 cd2 ct2 oc3 kV3 dc3 pm3 cd3 ct3 oc4 kV4 dc4 pm4 cd4 ct4 oc5 kV5 dc5 pm5 cd5 ct5 oc6 kV6 dc6 pm6 cd6 ct6 oc7 kV7 dc7 pm7 cd7 ct7 oc8 kV8 dc8 pm8 cd8 ct8 oc9 kV9 dc9 pm9 cd9 ct9 oc10 kV10 dc10 pm10 cd10 ct10 oc11 kV11 dc11 pm11 cd11 ct11 oc12 kV12 dc12 pm12 cd12 ct12 oc13 kV13 dc13 pm13 cd13 ct13 oc14 kV14 dc14 pm14 cd14 ct14 oc15 kV15 dc15 pm15 cd15 ct15 oc16 kV16 dc16 pm16 cd16 ct16 oc17 kV17 dc17 pm17 cd17 ct17 oc18 kV18 dc18 pm18 cd18 ct18 oc19 kV19 dc19 pm19 cd19 ct19 oc20 kV20 dc20 pm20 cd20 ct20 oc21 kV21 dc21 pm21 cd21 ct21 : Value}
    (a0 : PySem.W.nsIn K mainGlobals "row_eye" = some (some (.ref f0))) (l0 : K.lookup f0 = some ⟨oc0, od0, .func (PySem.W.fnOf "row_eye" "row_eye" (defArgs s_row_eye) (defBody s_row_eye) (defScope s_row_eye) .none kV0 dc0 pm0 an0 cd0 ct0), sl0⟩) (c0 : PySem.W.codeIn K cd0 "row_eye" = true) (k0 : PySem.W.keepIn K (.ref f0) = true)
    (a1 : PySem.W.nsIn K mainGlobals "each_once" = some (some (.ref f1))) (l1 : K.lookup f1 = some ⟨oc1, od1, .func (PySem.W.fnOf "each_once" "each_once" (defArgs s_each_once) (defBody s_each_once) (defScope s_each_once) .none kV1 dc1 pm1 an1 cd1 ct1), sl1⟩) (c1 : PySem.W.codeIn K cd1 "each_once" = true) (k1 : PySem.W.keepIn K (.ref f1) = true)
    (a2 : PySem.W.nsIn K mainGlobals "rank_type" = some (some (.ref f2))) (l2 : K.lookup f2 = some ⟨oc2, od2, .func (PySem.W.fnOf "rank_type" "rank_type" (defArgs s_rank_type) (defBody s_rank_type) (defScope s_rank_type) .none kV2 dc2 pm2 an2 cd2 ct2), sl2⟩) (c2 : PySem.W.codeIn K cd2 "rank_type" = true) (k2 : PySem.W.keepIn K (.ref f2) = true)
    (a3 : PySem.W.nsIn K mainGlobals "depth_of" = some (some (.ref f3))) (l3 : K.lookup f3 = some ⟨oc3, od3, .func (PySem.W.fnOf "depth_of" "depth_of" (defArgs s_depth_of) (defBody s_depth_of) (defScope s_depth_of) .none kV3 dc3 pm3 an3 cd3 ct3), sl3⟩) (c3 : PySem.W.codeIn K cd3 "depth_of" = true) (k3 : PySem.W.keepIn K (.ref f3) = true)
    (a4 : PySem.W.nsIn K mainGlobals "lowered_to" = some (some (.ref f4))) (l4 : K.lookup f4 = some ⟨oc4, od4, .func (PySem.W.fnOf "lowered_to" "lowered_to" (defArgs s_lowered_to) (defBody s_lowered_to) (defScope s_lowered_to) .none kV4 dc4 pm4 an4 cd4 ct4), sl4⟩) (c4 : PySem.W.codeIn K cd4 "lowered_to" = true) (k4 : PySem.W.keepIn K (.ref f4) = true)
    (a5 : PySem.W.nsIn K mainGlobals "lowered_type" = some (some (.ref f5))) (l5 : K.lookup f5 = some ⟨oc5, od5, .func (PySem.W.fnOf "lowered_type" "lowered_type" (defArgs s_lowered_type) (defBody s_lowered_type) (defScope s_lowered_type) .none kV5 dc5 pm5 an5 cd5 ct5), sl5⟩) (c5 : PySem.W.codeIn K cd5 "lowered_type" = true) (k5 : PySem.W.keepIn K (.ref f5) = true)
    (a6 : PySem.W.nsIn K mainGlobals "are_kept" = some (some (.ref f6))) (l6 : K.lookup f6 = some ⟨oc6, od6, .func (PySem.W.fnOf "are_kept" "are_kept" (defArgs s_are_kept) (defBody s_are_kept) (defScope s_are_kept) .none kV6 dc6 pm6 an6 cd6 ct6), sl6⟩) (c6 : PySem.W.codeIn K cd6 "are_kept" = true) (k6 : PySem.W.keepIn K (.ref f6) = true)
    (a7 : PySem.W.nsIn K mainGlobals "_law_source" = some (some (.ref f7))) (l7 : K.lookup f7 = some ⟨oc7, od7, .func (PySem.W.fnOf "_law_source" "_law_source" (defArgs s__law_source) (defBody s__law_source) (defScope s__law_source) .none kV7 dc7 pm7 an7 cd7 ct7), sl7⟩) (c7 : PySem.W.codeIn K cd7 "_law_source" = true) (k7 : PySem.W.keepIn K (.ref f7) = true)
    (a8 : PySem.W.nsIn K mainGlobals "_law_pick" = some (some (.ref f8))) (l8 : K.lookup f8 = some ⟨oc8, od8, .func (PySem.W.fnOf "_law_pick" "_law_pick" (defArgs s__law_pick) (defBody s__law_pick) (defScope s__law_pick) .none kV8 dc8 pm8 an8 cd8 ct8), sl8⟩) (c8 : PySem.W.codeIn K cd8 "_law_pick" = true) (k8 : PySem.W.keepIn K (.ref f8) = true)
    (a9 : PySem.W.nsIn K mainGlobals "_law_of" = some (some (.ref f9))) (l9 : K.lookup f9 = some ⟨oc9, od9, .func (PySem.W.fnOf "_law_of" "_law_of" (defArgs s__law_of) (defBody s__law_of) (defScope s__law_of) .none kV9 dc9 pm9 an9 cd9 ct9), sl9⟩) (c9 : PySem.W.codeIn K cd9 "_law_of" = true) (k9 : PySem.W.keepIn K (.ref f9) = true)
    (a10 : PySem.W.nsIn K mainGlobals "_law_mixed" = some (some (.ref f10))) (l10 : K.lookup f10 = some ⟨oc10, od10, .func (PySem.W.fnOf "_law_mixed" "_law_mixed" (defArgs s__law_mixed) (defBody s__law_mixed) (defScope s__law_mixed) .none kV10 dc10 pm10 an10 cd10 ct10), sl10⟩) (c10 : PySem.W.codeIn K cd10 "_law_mixed" = true) (k10 : PySem.W.keepIn K (.ref f10) = true)
    (a11 : PySem.W.nsIn K mainGlobals "_law_told_web" = some (some (.ref f11))) (l11 : K.lookup f11 = some ⟨oc11, od11, .func (PySem.W.fnOf "_law_told_web" "_law_told_web" (defArgs s__law_told_web) (defBody s__law_told_web) (defScope s__law_told_web) .none kV11 dc11 pm11 an11 cd11 ct11), sl11⟩) (c11 : PySem.W.codeIn K cd11 "_law_told_web" = true) (k11 : PySem.W.keepIn K (.ref f11) = true)
    (a12 : PySem.W.nsIn K mainGlobals "_law_web" = some (some (.ref f12))) (l12 : K.lookup f12 = some ⟨oc12, od12, .func (PySem.W.fnOf "_law_web" "_law_web" (defArgs s__law_web) (defBody s__law_web) (defScope s__law_web) .none kV12 dc12 pm12 an12 cd12 ct12), sl12⟩) (c12 : PySem.W.codeIn K cd12 "_law_web" = true) (k12 : PySem.W.keepIn K (.ref f12) = true)
    (a13 : PySem.W.nsIn K mainGlobals "_law_called" = some (some (.ref f13))) (l13 : K.lookup f13 = some ⟨oc13, od13, .func (PySem.W.fnOf "_law_called" "_law_called" (defArgs s__law_called) (defBody s__law_called) (defScope s__law_called) .none kV13 dc13 pm13 an13 cd13 ct13), sl13⟩) (c13 : PySem.W.codeIn K cd13 "_law_called" = true) (k13 : PySem.W.keepIn K (.ref f13) = true)
    (a14 : PySem.W.nsIn K mainGlobals "_law_other" = some (some (.ref f14))) (l14 : K.lookup f14 = some ⟨oc14, od14, .func (PySem.W.fnOf "_law_other" "_law_other" (defArgs s__law_other) (defBody s__law_other) (defScope s__law_other) .none kV14 dc14 pm14 an14 cd14 ct14), sl14⟩) (c14 : PySem.W.codeIn K cd14 "_law_other" = true) (k14 : PySem.W.keepIn K (.ref f14) = true)
    (a15 : PySem.W.nsIn K mainGlobals "_law_is_same" = some (some (.ref f15))) (l15 : K.lookup f15 = some ⟨oc15, od15, .func (PySem.W.fnOf "_law_is_same" "_law_is_same" (defArgs s__law_is_same) (defBody s__law_is_same) (defScope s__law_is_same) .none kV15 dc15 pm15 an15 cd15 ct15), sl15⟩) (c15 : PySem.W.codeIn K cd15 "_law_is_same" = true) (k15 : PySem.W.keepIn K (.ref f15) = true)
    (a16 : PySem.W.nsIn K mainGlobals "_law_is_kept" = some (some (.ref f16))) (l16 : K.lookup f16 = some ⟨oc16, od16, .func (PySem.W.fnOf "_law_is_kept" "_law_is_kept" (defArgs s__law_is_kept) (defBody s__law_is_kept) (defScope s__law_is_kept) .none kV16 dc16 pm16 an16 cd16 ct16), sl16⟩) (c16 : PySem.W.codeIn K cd16 "_law_is_kept" = true) (k16 : PySem.W.keepIn K (.ref f16) = true)
    (a17 : PySem.W.nsIn K mainGlobals "_law_row" = some (some (.ref f17))) (l17 : K.lookup f17 = some ⟨oc17, od17, .func (PySem.W.fnOf "_law_row" "_law_row" (defArgs s__law_row) (defBody s__law_row) (defScope s__law_row) .none kV17 dc17 pm17 an17 cd17 ct17), sl17⟩) (c17 : PySem.W.codeIn K cd17 "_law_row" = true) (k17 : PySem.W.keepIn K (.ref f17) = true)
    (a18 : PySem.W.nsIn K mainGlobals "_law_eye" = some (some (.ref f18))) (l18 : K.lookup f18 = some ⟨oc18, od18, .func (PySem.W.fnOf "_law_eye" "_law_eye" (defArgs s__law_eye) (defBody s__law_eye) (defScope s__law_eye) .none kV18 dc18 pm18 an18 cd18 ct18), sl18⟩) (c18 : PySem.W.codeIn K cd18 "_law_eye" = true) (k18 : PySem.W.keepIn K (.ref f18) = true)
    (a19 : PySem.W.nsIn K mainGlobals "_law_once" = some (some (.ref f19))) (l19 : K.lookup f19 = some ⟨oc19, od19, .func (PySem.W.fnOf "_law_once" "_law_once" (defArgs s__law_once) (defBody s__law_once) (defScope s__law_once) .none kV19 dc19 pm19 an19 cd19 ct19), sl19⟩) (c19 : PySem.W.codeIn K cd19 "_law_once" = true) (k19 : PySem.W.keepIn K (.ref f19) = true)
    (a20 : PySem.W.nsIn K mainGlobals "_law_type" = some (some (.ref f20))) (l20 : K.lookup f20 = some ⟨oc20, od20, .func (PySem.W.fnOf "_law_type" "_law_type" (defArgs s__law_type) (defBody s__law_type) (defScope s__law_type) .none kV20 dc20 pm20 an20 cd20 ct20), sl20⟩) (c20 : PySem.W.codeIn K cd20 "_law_type" = true) (k20 : PySem.W.keepIn K (.ref f20) = true)
    (a21 : PySem.W.nsIn K mainGlobals "law" = some (some (.ref f21))) (l21 : K.lookup f21 = some ⟨oc21, od21, .func (PySem.W.fnOf "law" "law" (defArgs s_law) (defBody s_law) (defScope s_law) .none kV21 dc21 pm21 an21 cd21 ct21), sl21⟩) (c21 : PySem.W.codeIn K cd21 "law" = true) (k21 : PySem.W.keepIn K (.ref f21) = true)
    (z0 : PySem.W.nsIn K mainGlobals "abs" = some none)
    (z1 : PySem.W.nsIn K mainGlobals "dict" = some none)
    (z2 : PySem.W.nsIn K mainGlobals "enumerate" = some none)
    (z3 : PySem.W.nsIn K mainGlobals "int" = some none)
    (z4 : PySem.W.nsIn K mainGlobals "len" = some none)
    (z5 : PySem.W.nsIn K mainGlobals "list" = some none)
    (z6 : PySem.W.nsIn K mainGlobals "range" = some none)
    (z7 : PySem.W.nsIn K mainGlobals "repr" = some none)
    (z8 : PySem.W.nsIn K mainGlobals "sorted" = some none)
    (z9 : PySem.W.nsIn K mainGlobals "tuple" = some none)
    {k fuel : Nat} : ∃ fd : FuncData, (∀ (s : Shared) (v : Value), BindsTo s fd ⟨[v], []⟩ [("script", v)]) ∧ ∀ base : Heap, K.In base → base.Ns mainGlobals mg → FnG l.prog w K mg base (k + 1) fa fd ["script"] (SpF ⟨K, w, l.prog⟩ (fnAt T fuel (k + 1)) "law" 1) := by
  have e := hfa.symm.trans (PySem.W.mg_of X G a21)
  cases e
  have F0 := fun_mk (st := s_row_eye) l0 c0 k0
  have b0 := F0.binds (ps := [("web" : Str), ("row" : Str)]) fun _ _ _ _ _ _ us hl => match us, hl with | [_, _], _ => rfl
  have F1 := fun_mk (st := s_each_once) l1 c1 k1
  have b1 := F1.binds (ps := [("types" : Str)]) fun _ _ _ _ _ _ us hl => match us, hl with | [_], _ => rfl
  have F2 := fun_mk (st := s_rank_type) l2 c2 k2
  have b2 := F2.binds (ps := [("web" : Str), ("row" : Str), ("r" : Str)]) fun _ _ _ _ _ _ us hl => match us, hl with | [_, _, _], _ => rfl
  have F3 := fun_mk (st := s_depth_of) l3 c3 k3
  have b3 := F3.binds (ps := [("told" : Str)]) fun _ _ _ _ _ _ us hl => match us, hl with | [_], _ => rfl
  have F4 := fun_mk (st := s_lowered_to) l4 c4 k4
  have b4 := F4.binds (ps := [("told" : Str), ("r" : Str)]) fun _ _ _ _ _ _ us hl => match us, hl with | [_, _], _ => rfl
  have F5 := fun_mk (st := s_lowered_type) l5 c5 k5
  have b5 := F5.binds (ps := [("told" : Str)]) fun _ _ _ _ _ _ us hl => match us, hl with | [_], _ => rfl
  have F6 := fun_mk (st := s_are_kept) l6 c6 k6
  have b6 := F6.binds (ps := [("one" : Str), ("a" : Str), ("other" : Str), ("b" : Str), ("r" : Str)]) fun _ _ _ _ _ _ us hl => match us, hl with | [_, _, _, _, _], _ => rfl
  have F7 := fun_mk (st := s__law_source) l7 c7 k7
  have b7 := F7.binds (ps := [("script" : Str)]) fun _ _ _ _ _ _ us hl => match us, hl with | [_], _ => rfl
  have F8 := fun_mk (st := s__law_pick) l8 c8 k8
  have b8 := F8.binds (ps := [("source" : Str), ("most" : Str)]) fun _ _ _ _ _ _ us hl => match us, hl with | [_, _], _ => rfl
  have F9 := fun_mk (st := s__law_of) l9 c9 k9
  have b9 := F9.binds (ps := [("source" : Str), ("some" : Str)]) fun _ _ _ _ _ _ us hl => match us, hl with | [_, _], _ => rfl
  have F10 := fun_mk (st := s__law_mixed) l10 c10 k10
  have b10 := F10.binds (ps := [("source" : Str), ("things" : Str)]) fun _ _ _ _ _ _ us hl => match us, hl with | [_, _], _ => rfl
  have F11 := fun_mk (st := s__law_told_web) l11 c11 k11
  have b11 := F11.binds (ps := [("n" : Str), ("colors" : Str), ("arrows" : Str)]) fun _ _ _ _ _ _ us hl => match us, hl with | [_, _, _], _ => rfl
  have F12 := fun_mk (st := s__law_web) l12 c12 k12
  have b12 := F12.binds (ps := [("source" : Str), ("most" : Str)]) fun _ _ _ _ _ _ us hl => match us, hl with | [_, _], _ => rfl
  have F13 := fun_mk (st := s__law_called) l13 c13 k13
  have b13 := F13.binds (ps := [("source" : Str), ("web" : Str)]) fun _ _ _ _ _ _ us hl => match us, hl with | [_, _], _ => rfl
  have F14 := fun_mk (st := s__law_other) l14 c14 k14
  have b14 := F14.binds (ps := [("source" : Str), ("web" : Str), ("most" : Str)]) fun _ _ _ _ _ _ us hl => match us, hl with | [_, _, _], _ => rfl
  have F15 := fun_mk (st := s__law_is_same) l15 c15 k15
  have b15 := F15.binds (ps := [("one" : Str), ("a" : Str), ("other" : Str), ("b" : Str)]) fun _ _ _ _ _ _ us hl => match us, hl with | [_, _, _, _], _ => rfl
  have F16 := fun_mk (st := s__law_is_kept) l16 c16 k16
  have b16 := F16.binds (ps := [("one" : Str), ("a" : Str), ("other" : Str), ("b" : Str), ("r" : Str)]) fun _ _ _ _ _ _ us hl => match us, hl with | [_, _, _, _, _], _ => rfl
  have F17 := fun_mk (st := s__law_row) l17 c17 k17
  have b17 := F17.binds (ps := [("source" : Str), ("web" : Str), ("many" : Str)]) fun _ _ _ _ _ _ us hl => match us, hl with | [_, _, _], _ => rfl
  have F18 := fun_mk (st := s__law_eye) l18 c18 k18
  have b18 := F18.binds (ps := [("web" : Str), ("row" : Str)]) fun _ _ _ _ _ _ us hl => match us, hl with | [_, _], _ => rfl
  have F19 := fun_mk (st := s__law_once) l19 c19 k19
  have b19 := F19.binds (ps := [("types" : Str)]) fun _ _ _ _ _ _ us hl => match us, hl with | [_], _ => rfl
  have F20 := fun_mk (st := s__law_type) l20 c20 k20
  have b20 := F20.binds (ps := [("web" : Str), ("row" : Str), ("r" : Str)]) fun _ _ _ _ _ _ us hl => match us, hl with | [_, _, _], _ => rfl
  have F21 := fun_mk (st := s_law) l21 c21 k21
  have b21 := F21.binds (ps := [("script" : Str)]) fun _ _ _ _ _ _ us hl => match us, hl with | [_], _ => rfl
  have A : Fs K mg := ⟨⟨_, _, F0, PySem.W.mg_of X G a0, k0, b0⟩, ⟨_, _, F1, PySem.W.mg_of X G a1, k1, b1⟩, ⟨_, _, F2, PySem.W.mg_of X G a2, k2, b2⟩, ⟨_, _, F3, PySem.W.mg_of X G a3, k3, b3⟩, ⟨_, _, F4, PySem.W.mg_of X G a4, k4, b4⟩, ⟨_, _, F5, PySem.W.mg_of X G a5, k5, b5⟩, ⟨_, _, F6, PySem.W.mg_of X G a6, k6, b6⟩, ⟨_, _, F7, PySem.W.mg_of X G a7, k7, b7⟩, ⟨_, _, F8, PySem.W.mg_of X G a8, k8, b8⟩, ⟨_, _, F9, PySem.W.mg_of X G a9, k9, b9⟩, ⟨_, _, F10, PySem.W.mg_of X G a10, k10, b10⟩, ⟨_, _, F11, PySem.W.mg_of X G a11, k11, b11⟩, ⟨_, _, F12, PySem.W.mg_of X G a12, k12, b12⟩, ⟨_, _, F13, PySem.W.mg_of X G a13, k13, b13⟩, ⟨_, _, F14, PySem.W.mg_of X G a14, k14, b14⟩, ⟨_, _, F15, PySem.W.mg_of X G a15, k15, b15⟩, ⟨_, _, F16, PySem.W.mg_of X G a16, k16, b16⟩, ⟨_, _, F17, PySem.W.mg_of X G a17, k17, b17⟩, ⟨_, _, F18, PySem.W.mg_of X G a18, k18, b18⟩, ⟨_, _, F19, PySem.W.mg_of X G a19, k19, b19⟩, ⟨_, _, F20, PySem.W.mg_of X G a20, k20, b20⟩, ⟨_, _, F21, PySem.W.mg_of X G a21, k21, b21⟩⟩
  have B : Bs mg := ⟨PySem.W.mg_none_of X G z0, PySem.W.mg_none_of X G z1, PySem.W.mg_none_of X G z2, PySem.W.mg_none_of X G z3, PySem.W.mg_none_of X G z4, PySem.W.mg_none_of X G z5, PySem.W.mg_none_of X G z6, PySem.W.mg_none_of X G z7, PySem.W.mg_none_of X G z8, PySem.W.mg_none_of X G z9⟩
  exact ⟨_, fun s v => .of_eq rfl, fun base _ _ => defG (M := m_law) (d := ⟨1, 18, b_law⟩) F21 sc_law rfl rfl rfl (by decide) (fun cdv A1 outer s H hr hgd => pb_law (cs_all A B k) B cdv A1 outer s H hr hgd)⟩
end L11
namespace L11
open PySem PySem.Spec L2 Ev PyProof.Rows
theorem run_env {n nn : Nat} {body : CS} {F : Fn} {xs : List Vx} {src : Option Src} {x : Vx} {s' : S} {e : List (Option Vx)} (hn : xs.length = n) (he : xs.map some ++ List.replicate (nn - xs.length) none = e) (h : body F ⟨e, src⟩ = some (.rt x, s')) : runDef ⟨n, nn, body⟩ F xs src = some (x, s'.src) := by
  subst he
  exact run_ret hn h
theorem pick_ok (k : Nat) (s : Src) (hs : s.cells.length ≤ 63) (many : Int) (hm : many < 1073741824) : ∃ r s', (fnAt T 200 (k + 1)).call "_law_pick" [.src, .d (.int many)] (some s) = some (.d (.int r), some s') ∧ s'.cells.length ≤ 63 ∧ 0 ≤ r ∧ r < max 1 many := by
  have hf : ∀ k, (fnAt T 200 k).fuel = 200 := fun k => by cases k <;> rfl
  obtain ⟨r, s', e, h1, h2, h3⟩ := pick_run2 (fnAt T 200 k) (by rw [hf]; decide) s hs many hm
  refine ⟨r, s', ?_, h1, h2, h3⟩
  rw [fnAt_call (d := ⟨2, 6, b__law_pick⟩) rfl]
  exact e
theorem src_ok (k : Nat) (ns : List Int) (h : ns.length ≤ 63) : ∃ s', (fnAt T 200 (k + 1)).call "_law_source" [.d (.list (ns.map PyData.int))] none = some (.src, some s') ∧ s'.cells.length ≤ 63 := by
  obtain ⟨s', e, hs⟩ := src_run2 (fnAt T 200 k) ns h
  refine ⟨s', ?_, hs⟩
  rw [fnAt_call (d := ⟨1, 4, b__law_source⟩) rfl]
  exact e
theorem law_of_ok (k : Nat) (x : Src) (hx : x.cells.length ≤ 63) {ds : List PyData} (h0 : ds ≠ []) (hl : ds.length ≤ 1000000) : ∃ d x', d ∈ ds ∧ (fnAt T 200 (k + 2)).call "_law_of" [.src, .d (.list ds)] (some x) = some (.d d, some x') ∧ x'.cells.length ≤ 63 := by
  obtain ⟨r, x', e, hx', r0, r1⟩ := pick_ok k x hx (ds.length : Int) (by omega)
  have hpos := List.length_pos_iff.mpr h0
  have hr : r.toNat < ds.length := by omega
  refine ⟨ds[r.toNat], x', List.getElem_mem hr, ?_, hx'⟩
  rw [fnAt_call (d := ⟨2, 2, b__law_of⟩) rfl]
  refine run_env (n := 2) (nn := 2) (s' := ⟨[some .src, some (.d (.list ds))], some x'⟩) rfl rfl ?_
  show b__law_of (fnAt T 200 (k + 1)) ⟨[some .src, some (.d (.list ds))], some x⟩ = _
  unfold b__law_of
  have e1 : (cCall "_law_pick" [(cVar false 0), (cNat fLenD [(.e (cVar false 1))])]) (fnAt T 200 (k + 1)) ⟨[some .src, some (.d (.list ds))], some x⟩ = some (.d (.int r), ⟨[some .src, some (.d (.list ds))], some x'⟩) :=
    ccall (s1 := ⟨[some .src, some (.d (.list ds))], some x⟩) (xs := [.src, .d (.int (ds.length : Int))]) (eargs (x := .src) rfl (eargs (x := .d (.int (ds.length : Int))) (cnat1 (x := .list ds) rfl rfl) rfl)) e
  refine sret (cbin (x := .list ds) (y := .int r) rfl e1 ?_)
  have h := Ev.atI_nat (List.getElem?_eq_getElem hr)
  rw [Int.toNat_of_nonneg r0] at h
  exact h
theorem erase_perm {α : Type} : ∀ (l : List α) (i : Nat) (h : i < l.length), (l[i] :: l.eraseIdx i).Perm l
  | x :: l, 0, _ => .refl _
  | x :: l, i + 1, h => by
    have h' : i < l.length := by simpa using h
    show (l[i] :: x :: l.eraseIdx i).Perm (x :: l)
    exact ((List.Perm.swap x l[i] (l.eraseIdx i))).trans ((erase_perm l i h').cons x)
theorem mixL (k : Nat) (t : Option Vx) : ∀ (ds rest : List PyData) (e : Option Vx) (x : Src), x.cells.length ≤ 63 → rest.length = ds.length → rest.length ≤ 1000000 →
    ∃ ys e' x', lcL (aName 3) [3] bYes (cPopAt 2 (cCall "_law_pick" [(cVar false 0), (cNat fLenD [(.pk 2)])])) (fnAt T 200 (k + 1)) ds ⟨[some .src, t, some (.d (.list rest)), e], some x⟩ = some (ys, ⟨[some .src, t, some (.d (.list [])), e'], some x'⟩) ∧ ys.Perm rest ∧ x'.cells.length ≤ 63
  | [], rest, e, x, hx, hl, _ => by
    have : rest = [] := List.length_eq_zero_iff.mp hl
    subst this
    exact ⟨[], e, x, rfl, .refl _, hx⟩
  | d :: ds, rest, e, x, hx, hl, hz => by
    rw [List.length_cons] at hl
    obtain ⟨r, x', e1, hx', r0, r1⟩ := pick_ok k x hx (rest.length : Int) (by omega)
    have hr : r.toNat < rest.length := by omega
    have hc : (cCall "_law_pick" [(cVar false 0), (cNat fLenD [(.pk 2)])]) (fnAt T 200 (k + 1)) ⟨[some .src, t, some (.d (.list rest)), some (.d d)], some x⟩ = some (.d (.int r), ⟨[some .src, t, some (.d (.list rest)), some (.d d)], some x'⟩) :=
      ccall (s1 := ⟨[some .src, t, some (.d (.list rest)), some (.d d)], some x⟩) (xs := [.src, .d (.int (rest.length : Int))]) rfl e1
    have hp : cPopAt 2 (cCall "_law_pick" [(cVar false 0), (cNat fLenD [(.pk 2)])]) (fnAt T 200 (k + 1)) ⟨[some .src, t, some (.d (.list rest)), some (.d d)], some x⟩ = some (.d rest[r.toNat], ⟨[some .src, t, some (.d (.list (rest.eraseIdx r.toNat))), some (.d d)], some x'⟩) := by
      unfold cPopAt
      show (match cCall _ _ _ _ with | some (.d (.int k), s1) => _ | _ => none) = _
      rw [hc]
      show (if small63 r then _ else none) = _
      rw [if_pos (by unfold small63; simp only [Bool.and_eq_true, decide_eq_true_eq]; omega)]
      have hs : seqIndex? r rest.length = some r.toNat := by
        unfold seqIndex?
        simp only [show ¬ r < 0 by omega, if_false]
        rw [if_pos (by simp only [Bool.and_eq_true, decide_eq_true_eq]; omega)]
      rw [hs]
      show (match rest[r.toNat]? with | some y => _ | none => none) = _
      rw [List.getElem?_eq_getElem hr]
      rfl
    obtain ⟨ys, e', x2, g1, g2, g3⟩ := mixL k t ds (rest.eraseIdx r.toNat) (some (.d d)) x' hx' (by rw [List.length_eraseIdx_of_lt hr]; omega) (by rw [List.length_eraseIdx_of_lt hr]; omega)
    refine ⟨rest[r.toNat] :: ys, e', x2, ?_, (g2.cons _).trans (erase_perm rest _ hr), g3⟩
    exact lcL_cons (s1 := ⟨[some .src, t, some (.d (.list rest)), some (.d d)], some x⟩) rfl rfl hp g1
theorem mixed_ok (k : Nat) (x : Src) (hx : x.cells.length ≤ 63) {ds : List PyData} {c : PyData} (hc : c = .list ds ∨ c = .tuple ds) (hl : ds.length ≤ 1000000) : ∃ ys x', (fnAt T 200 (k + 2)).call "_law_mixed" [.src, .d c] (some x) = some (.d (.list ys), some x') ∧ ys.Perm ds ∧ x'.cells.length ≤ 63 := by
  obtain ⟨ys, e', x', g1, g2, g3⟩ := mixL k (some (.d c)) ((List.range ds.length).map Nm) ds none x hx (by rw [List.length_map, List.length_range]) hl
  refine ⟨ys, x', ?_, g2, g3⟩
  rw [fnAt_call (d := ⟨2, 4, b__law_mixed⟩) rfl]
  refine run_env (n := 2) (nn := 4) (s' := ⟨[some .src, some (.d c), some (.d (.list [])), none], some x'⟩) rfl rfl ?_
  show b__law_mixed (fnAt T 200 (k + 1)) ⟨[some .src, some (.d c), none, none], some x⟩ = _
  unfold b__law_mixed
  refine e_seq (spar1 (x := .d (.list ds)) (s1 := ⟨[some .src, some (.d c), none, none], some x⟩) (by rcases hc with rfl | rfl <;> rfl)) (sret (x := .d (.list ys)) ?_)
  show cLc [3] (aName 3) (icRng1 (.e (cNat fLenD [(.pk 2)]))) bYes (cPopAt 2 (cCall "_law_pick" [(cVar false 0), (cNat fLenD [(.pk 2)])])) (fnAt T 200 (k + 1)) ⟨[some .src, some (.d c), some (.d (.list ds)), none], some x⟩ = _
  have hic : icRng1 (.e (cNat fLenD [(.pk 2)])) (fnAt T 200 (k + 1)) ⟨[some .src, some (.d c), some (.d (.list ds)), none], some x⟩ = some ((List.range ds.length).map Nm, ⟨[some .src, some (.d c), some (.d (.list ds)), none], some x⟩, []) := ic_rng1 rfl hl
  exact clc_of hic (by rw [List.length_map, List.length_range, sizeLine_eq]; omega) g1
/-! ### webs -/
theorem its_nm {x : Nat} (h : x < 100) : its (Nm x) = true := by
  simp only [its, Bool.and_eq_true, decide_eq_true_eq]; omega
abbrev wb (n : Nat) (cs : List Nat) (P : Nat → Nat → Bool) : PyData := .tuple [Nm n, .tuple (cs.map Nm), .tuple ((canon n P).map pr)]
def memP (ar : List (Nat × Nat)) (a b : Nat) : Bool := ar.contains (a, b)
theorem canon_memP {n : Nat} {ar : List (Nat × Nat)} (h : ∀ p ∈ ar, p.1 < n ∧ p.2 < n) (p : Nat × Nat) : p ∈ dd ar ↔ p ∈ canon n (memP ar) := by
  rw [dd_mem, canon_mem]
  unfold memP
  rw [List.contains_iff_mem]
  exact ⟨fun hp => ⟨(h p hp).1, (h p hp).2, hp⟩, fun hp => hp.2.2⟩
theorem dd_map {α β : Type} {f : α → β} (hf : ∀ a b, f a = f b → a = b) : ∀ (l acc : List α), (l.map f).foldl addU (acc.map f) = (l.foldl addU acc).map f
  | [], acc => rfl
  | x :: l, acc => by
    rw [List.map_cons, List.foldl_cons, List.foldl_cons]
    have : addU (acc.map f) (f x) = (addU acc x).map f := by
      unfold addU
      by_cases h : x ∈ acc
      · rw [if_pos h, if_pos (List.mem_map.mpr ⟨x, h, rfl⟩)]
      · rw [if_neg h, if_neg (fun z => h (by obtain ⟨y, hy, e⟩ := List.mem_map.mp z; rw [← hf _ _ e]; exact hy)), List.map_append]
        rfl
    rw [this, dd_map hf l]
theorem dict_keys {ar : List (Nat × Nat)} (hl : ar.length ≤ 1000) : ∃ kvs, fDict [.list (ar.map fun p => .tuple [pr p, .int 0])] = some (.dict kvs) ∧ kvs.map (·.1) = (dd ar).map pr := by
  have pm : ∀ l : List (Nat × Nat), Ev.pairsOf (l.map fun p => .tuple [pr p, .int 0]) = some (l.map fun p => (pr p, .int 0)) := by
    intro l
    induction l with
    | nil => rfl
    | cons p l ih =>
      rw [List.map_cons]
      unfold Ev.pairsOf
      rw [ih]
      rfl
  refine ⟨dMerge [] (ar.map fun p => (pr p, .int 0)), ?_, ?_⟩
  · show (match Ev.pairsOf (ar.map fun p => .tuple [pr p, .int 0]) with | some kvs => if allK kvs && decide (kvs.length ≤ sizeLine) then some (PyData.dict (dMerge [] kvs)) else none | none => none) = _
    rw [pm]
    have hz : (allK (ar.map fun p => (pr p, PyData.int 0)) && decide ((ar.map fun p => (pr p, PyData.int 0)).length ≤ sizeLine)) = true := by
      rw [Bool.and_eq_true, decide_eq_true_eq]
      constructor
      · unfold allK
        rw [Bool.or_eq_true]
        right
        rw [List.all_eq_true]
        intro x hx
        obtain ⟨p, _, rfl⟩ := List.mem_map.mp hx
        exact isKN_of (itr_pr p) (Nat.le_trans (pr_depth p) (by decide))
      · rw [List.length_map, sizeLine_eq]
        omega
    show (if _ then _ else none) = _
    rw [if_pos hz]
  · rw [dMerge_keys (fun p hp => by obtain ⟨q, _, rfl⟩ := List.mem_map.mp hp; exact itr_pr q) (kvs := []) (by intro p hp; cases hp), List.map_map]
    exact dd_map (f := pr) (fun a b e => pr_inj e) ar []
theorem told_ok (k : Nat) {n : Nat} (cs : List Nat) {ar : List (Nat × Nat)} {cd : PyData} (hcd : cd = .list (cs.map Nm) ∨ cd = .tuple (cs.map Nm)) (hl : ar.length ≤ 1000) (h : ∀ p ∈ ar, p.1 < n ∧ p.2 < n) (src : Option Src) :
    (fnAt T 200 (k + 1)).call "_law_told_web" [.d (Nm n), .d cd, .d (.list (ar.map pr))] src = some (.d (wb n cs (memP ar)), src) := by
  rw [fnAt_call (d := ⟨3, 4, b__law_told_web⟩) rfl]
  refine run_env (n := 3) (nn := 4) (s' := ⟨[some (.d (Nm n)), some (.d cd), some (.d (.list (ar.map pr))), none], src⟩) rfl rfl ?_
  show b__law_told_web (fnAt T 200 k) ⟨[some (.d (Nm n)), some (.d cd), some (.d (.list (ar.map pr))), none], src⟩ = _
  unfold b__law_told_web
  have hm := clc_map (own := [3]) (as := aName 3) (ic := icAny (.e (cVar false 2))) (c := (cDisp true [(cVar false 3), (cC (.int 0))])) (F := fnAt T 200 k) (ds := ar.map pr) (E1 := [some (.d (Nm n)), some (.d cd), some (.d (.list (ar.map pr))), none]) (src := src) (s := ⟨[some (.d (Nm n)), some (.d cd), some (.d (.list (ar.map pr))), none], src⟩) (ic_any rfl) (by rw [List.length_map, sizeLine_eq]; omega) (fun d => .tuple [d, .int 0]) (by
    intro d hd
    exact ⟨⟨[some (.d (Nm n)), some (.d cd), some (.d (.list (ar.map pr))), some (.d d)], src⟩, [some (.d (Nm n)), some (.d cd), some (.d (.list (ar.map pr))), some (.d d)], rfl, cdisp (b := true) (xs := [.d d, .d (.int 0)]) rfl rfl (by rw [sizeLine_eq]; simp), rfl⟩)
  rw [List.map_map] at hm
  obtain ⟨kvs, h1, h2⟩ := dict_keys hl
  have hdl : (dd ar).length ≤ 5000 := Nat.le_trans (dd_len ar) (by omega)
  have hs : fSortedD [.dict kvs] = some (.list ((canon n (memP ar)).map pr)) := by
    show (if sortOk (kvs.map (·.1)) then some (PyData.list (sortD (kvs.map (·.1)))) else none) = _
    rw [h2, if_pos (sortOk_prs hdl), sorted_ties (dd_nodup ar) (canon_memP h)]
  refine sret (cdisp (b := true) (eargs (x := .d (Nm n)) rfl (eargs (x := .d (.tuple (cs.map Nm))) (cnat1 (x := cd) rfl (by rcases hcd with rfl | rfl <;> rfl)) (eargs (cnat1 (x := .list ((canon n (memP ar)).map pr)) (cnat1 (x := .dict kvs) (cnat1 hm h1) hs) rfl) rfl))) rfl (by rw [sizeLine_eq]; simp))
end L11
namespace L11
open PySem PySem.Spec L2 Ev PyProof.Rows
theorem pair_map : ∀ (row : List Nat) (s : Nat), pairUp s (row.map Nm) = (List.range row.length).map fun i => .tuple [.int ((s + i : Nat) : Int), Nm (row.getD i 0)]
  | [], s => rfl
  | x :: row, s => by
    rw [List.map_cons, List.length_cons, List.range_succ_eq_map, List.map_cons, List.map_map]
    show PyData.tuple [.int (s : Int), Nm x] :: pairUp (s + 1) (row.map Nm) = _
    rw [pair_map row (s + 1)]
    congr 1
    refine List.map_congr_left fun i _ => ?_
    show PyData.tuple [.int ((s + 1 + i : Nat) : Int), Nm (row.getD i 0)] = .tuple [.int ((s + (i + 1) : Nat) : Int), Nm ((x :: row).getD (i + 1) 0)]
    rw [show s + (i + 1) = s + 1 + i by omega]
    rfl
theorem pair0 (row : List Nat) : pairUp 0 (row.map Nm) = (List.range row.length).map fun i => .tuple [Nm i, Nm (row.getD i 0)] := by
  rw [pair_map row 0]
  exact List.map_congr_left fun i _ => by rw [Nat.zero_add]
theorem int_eq (a b : Nat) : ((a : Int) == (b : Int)) = (a == b) := by rw [Bool.eq_iff_iff, beq_iff_eq, beq_iff_eq]; omega
theorem set_same {α : Type} : ∀ {l : List α} {i : Nat} {x : α}, l[i]? = some x → l.set i x = l
  | [], _, _, h => by simp at h
  | y :: l, 0, x, h => by simp at h; rw [h]; rfl
  | y :: l, i + 1, x, h => by
    show y :: l.set i x = y :: l
    rw [set_same (by simpa using h)]
theorem spar2 {F : Fn} {s s1 s2 : S} {i j : Nat} {c d : CE} {x y : Vx} (h : c F s = some (x, s1)) (h2 : d F s1 = some (y, s2)) : sPar [i, j] [c, d] F s = some (.nx, { s2 with env := (s2.env.set i (some x)).set j (some y) }) := by
  unfold sPar
  rw [eargs h (eargs h2 rfl)]
  rfl
theorem app_if {F : Fn} {s : S} {i : Nat} {t : CB} {c : CE} {b : Bool} {ds : List PyData} {y : PyData} (ht : t F s = some (b, s)) (hi : s.env[i]? = some (some (.d (.list ds)))) (hc : c F s = some (.d y, s)) (hl : ds.length ≤ 1000000) :
    sIf t (sExpr (cAppend i c)) sPass F s = some (.nx, { s with env := s.env.set i (some (.d (.list (ds ++ if b then [y] else [])))) }) := by
  cases b with
  | true =>
    refine e_ifT ht (sexpr (x := .d .none) ?_)
    unfold cAppend
    rw [hi]
    simp only [hc, hi]
    rw [if_pos (by rw [sizeLine_eq]; omega)]
    rfl
  | false =>
    refine e_ifF ht ?_
    show some (Fl.nx, s) = some (Fl.nx, { s with env := s.env.set i (some (.d (.list (ds ++ [])))) })
    rw [List.append_nil, set_same hi]
theorem flat_take {α β : Type} (f : α → List β) (l : List α) (j : Nat) : ((l.take j).flatMap f).length ≤ (l.flatMap f).length := by
  have : l.flatMap f = (l.take j).flatMap f ++ (l.drop j).flatMap f := by rw [← List.flatMap_append, List.take_append_drop]
  rw [this, List.length_append]
  omega
theorem flat_succ {α β : Type} (f : α → List β) {l : List α} {j : Nat} {x : α} (h : l[j]? = some x) : (l.take (j + 1)).flatMap f = (l.take j).flatMap f ++ f x := by
  rw [List.take_add_one, h, List.flatMap_append]
  simp
def cpre (n : Nat) (Q : Nat → Nat → Bool) (i : Nat) : List (Nat × Nat) := ((List.range n).take i).flatMap fun a => ((List.range n).filter (Q a)).map fun b => (a, b)
def cin (n : Nat) (Q : Nat → Nat → Bool) (i j : Nat) : List (Nat × Nat) := (((List.range n).take j).filter (Q i)).map fun b => (i, b)
theorem range_at {n i : Nat} (h : i < n) : (List.range n)[i]? = some i := by
  rw [List.getElem?_range h]
theorem cpre_zero (n : Nat) (Q : Nat → Nat → Bool) : cpre n Q 0 = [] := rfl
theorem cpre_succ {n i : Nat} (Q : Nat → Nat → Bool) (h : i < n) : cpre n Q (i + 1) = cpre n Q i ++ cin n Q i n := by
  unfold cpre cin
  have e : (List.range n).take n = List.range n := List.take_of_length_le (by rw [List.length_range]; exact Nat.le_refl _)
  rw [flat_succ _ (range_at h), e]
theorem cpre_all (n : Nat) (Q : Nat → Nat → Bool) : cpre n Q n = canon n Q := by
  unfold cpre canon
  rw [List.take_of_length_le (by rw [List.length_range]; exact Nat.le_refl _)]
theorem cin_zero (n : Nat) (Q : Nat → Nat → Bool) (i : Nat) : cin n Q i 0 = [] := rfl
theorem cin_succ {n i j : Nat} (Q : Nat → Nat → Bool) (h : j < n) : cin n Q i (j + 1) = cin n Q i j ++ if Q i j then [(i, j)] else [] := by
  unfold cin
  rw [List.take_add_one, range_at h, List.filter_append, List.map_append]
  congr 1
  show (List.filter (Q i) [j]).map _ = _
  cases hq : Q i j <;> simp [hq]
theorem inn_succ {n i j : Nat} (Q : Nat → Nat → Bool) (A : List (Nat × Nat)) (h : j < n) : (A ++ cin n Q i (j + 1)).map pr = (A ++ cin n Q i j).map pr ++ if Q i j then [pr (i, j)] else [] := by
  rw [cin_succ _ h, ← List.append_assoc, List.map_append]
  congr 1
  cases Q i j <;> rfl
theorem cpre_len (n : Nat) (Q : Nat → Nat → Bool) (i : Nat) : (cpre n Q i).length ≤ n * n := by
  refine Nat.le_trans (flat_take _ _ i) ?_
  have : ∀ l : List Nat, (l.flatMap fun a => ((List.range n).filter (Q a)).map fun b => (a, b)).length ≤ l.length * n := by
    intro l
    induction l with
    | nil => simp
    | cons a l ih =>
      rw [List.flatMap_cons, List.length_append, List.length_cons, Nat.succ_mul, List.length_map]
      have := List.length_filter_le (Q a) (List.range n)
      rw [List.length_range] at this
      omega
  have h := this (List.range n)
  rw [List.length_range] at h
  exact h
theorem cin_len (n : Nat) (Q : Nat → Nat → Bool) (i j : Nat) : (cin n Q i j).length ≤ n := by
  unfold cin
  rw [List.length_map]
  refine Nat.le_trans (List.length_filter_le _ _) ?_
  rw [List.length_take, List.length_range]; omega
theorem part_len {n : Nat} (hn : n ≤ 10) (Q : Nat → Nat → Bool) (i j : Nat) : (cpre n Q i ++ cin n Q i j).length ≤ 1000 := by
  rw [List.length_append]
  have h1 := cpre_len n Q i
  have h2 := cin_len n Q i j
  have h3 : n * n ≤ 10 * 10 := Nat.mul_le_mul hn hn
  omega
def sameQ (row : List Nat) (i j : Nat) : Bool := decide (i < j) && (row.getD i 0 == row.getD j 0)
def ledQ (P : Nat → Nat → Bool) (row : List Nat) (i j : Nat) : Bool := P (row.getD i 0) (row.getD j 0)
def eyeD (cs : List Nat) (P : Nat → Nat → Bool) (row : List Nat) : PyData := .tuple [.tuple (row.map fun x => Nm (cs.getD x 0)), .tuple ((canon row.length (sameQ row)).map pr), .tuple ((canon row.length (ledQ P row)).map pr)]
variable {n : Nat} {cs : List Nat} {P : Nat → Nat → Bool} {row : List Nat}
theorem getD_mem {i : Nat} (h : i < row.length) : row.getD i 0 ∈ row := by
  rw [List.getD_eq_getElem?_getD, List.getElem?_eq_getElem h]
  exact List.getElem_mem h
theorem map_if {α β : Type} (f : α → β) (b : Bool) (x : α) : (if b then [x] else []).map f = if b then [f x] else [] := by cases b <;> rfl
theorem lt_int (a b : Nat) : decide ((a : Int) < (b : Int)) = decide (a < b) := by rw [Bool.eq_iff_iff, decide_eq_true_eq, decide_eq_true_eq]; omega
theorem color_at {x : Nat} (h : x < cs.length) : fIxD (.tuple (cs.map Nm)) (Nm x) = some (Nm (cs.getD x 0)) := by
  refine Ev.atI_nat (l := cs.map Nm) ?_
  rw [List.getElem?_map, List.getElem?_eq_getElem h, List.getD_eq_getElem?_getD, List.getElem?_eq_getElem h]
  rfl
theorem row_at {x : Nat} (h : x < row.length) : fIxD (Rw row) (Nm x) = some (Nm (row.getD x 0)) := color_at (cs := row) h
def colOf (cs : List Nat) : PyData → PyData
  | .int i => Nm (cs.getD i.toNat 0)
  | _ => .none
theorem row_eye_ok (k : Nat) (hcl : cs.length = n) (hr : ∀ x ∈ row, x < n) (hl : row.length ≤ 10) (src : Option Src) :
    (fnAt T 200 (k + 1)).call "row_eye" [.d (wb n cs P), .d (Rw row)] src = some (.d (eyeD cs P row), src) := by
  rw [fnAt_call (d := ⟨2, 10, b_row_eye⟩) rfl]
  obtain ⟨s', hfor, e6, e7, e8, e9, rfl⟩ := sfor_ind (as := (aTup 2 (aCons (aName 6) (aCons (aName 7) aNil)))) (ic := (icEnum (.e (cVar false 1)))) (F := fnAt T 200 k) (b := (sFor (aTup 2 (aCons (aName 8) (aCons (aName 9) aNil))) (icEnum (.e (cVar false 1))) (sSeq (sIf (bAnd (bOf (cBin fLt (.e (cVar false 6)) (.e (cVar false 8)))) (bOf (cBin fEq (.e (cVar false 7)) (.e (cVar false 9))))) (sExpr (cAppend 4 (cDisp true [(cVar false 6), (cVar false 8)]))) sPass)
    (sIf (bOf (cBin (fInD false) (.e (cDisp true [(cVar false 7), (cVar false 9)])) (.e (cVar false 3)))) (sExpr (cAppend 5 (cDisp true [(cVar false 6), (cVar false 8)]))) sPass)))) (s := ⟨[some (.d (wb n cs P)), some (.d (Rw row)), some (.d (.tuple (cs.map Nm))), some (.d (.tuple ((canon n P).map pr))), some (.d (.list [])), some (.d (.list [])), none, none, none, none], src⟩) (ds := pairUp 0 (row.map Nm)) (s0 := ⟨[some (.d (wb n cs P)), some (.d (Rw row)), some (.d (.tuple (cs.map Nm))), some (.d (.tuple ((canon n P).map pr))), some (.d (.list [])), some (.d (.list [])), none, none, none, none], src⟩) rfl
    (fun i s => ∃ e6 e7 e8 e9, s = ⟨[some (.d (wb n cs P)), some (.d (Rw row)), some (.d (.tuple (cs.map Nm))), some (.d (.tuple ((canon n P).map pr))), some (.d (.list ((cpre row.length (sameQ row) i).map pr))), some (.d (.list ((cpre row.length (ledQ P row) i).map pr))), e6, e7, e8, e9], src⟩) ⟨none, none, none, none, rfl⟩ (by
      rintro i d s hi ⟨e6, e7, e8, e9, rfl⟩
      rw [pair0] at hi
      have hil : i < row.length := by
        have := (List.getElem?_eq_some_iff.mp hi).1
        rwa [List.length_map, List.length_range] at this
      rw [List.getElem?_map, range_at hil] at hi
      cases hi
      obtain ⟨s2, hin, e8', e9', rfl⟩ := sfor_ind (as := (aTup 2 (aCons (aName 8) (aCons (aName 9) aNil)))) (ic := (icEnum (.e (cVar false 1)))) (F := fnAt T 200 k) (b := (sSeq (sIf (bAnd (bOf (cBin fLt (.e (cVar false 6)) (.e (cVar false 8)))) (bOf (cBin fEq (.e (cVar false 7)) (.e (cVar false 9))))) (sExpr (cAppend 4 (cDisp true [(cVar false 6), (cVar false 8)]))) sPass)
    (sIf (bOf (cBin (fInD false) (.e (cDisp true [(cVar false 7), (cVar false 9)])) (.e (cVar false 3)))) (sExpr (cAppend 5 (cDisp true [(cVar false 6), (cVar false 8)]))) sPass))) (s := ⟨[some (.d (wb n cs P)), some (.d (Rw row)), some (.d (.tuple (cs.map Nm))), some (.d (.tuple ((canon n P).map pr))), some (.d (.list ((cpre row.length (sameQ row) i).map pr))), some (.d (.list ((cpre row.length (ledQ P row) i).map pr))), some (.d (Nm i)), some (.d (Nm (row.getD i 0))), e8, e9], src⟩) (ds := pairUp 0 (row.map Nm)) (s0 := ⟨[some (.d (wb n cs P)), some (.d (Rw row)), some (.d (.tuple (cs.map Nm))), some (.d (.tuple ((canon n P).map pr))), some (.d (.list ((cpre row.length (sameQ row) i).map pr))), some (.d (.list ((cpre row.length (ledQ P row) i).map pr))), some (.d (Nm i)), some (.d (Nm (row.getD i 0))), e8, e9], src⟩) rfl
        (fun j s => ∃ e8 e9, s = ⟨[some (.d (wb n cs P)), some (.d (Rw row)), some (.d (.tuple (cs.map Nm))), some (.d (.tuple ((canon n P).map pr))), some (.d (.list ((cpre row.length (sameQ row) i ++ cin row.length (sameQ row) i j).map pr))), some (.d (.list ((cpre row.length (ledQ P row) i ++ cin row.length (ledQ P row) i j).map pr))), some (.d (Nm i)), some (.d (Nm (row.getD i 0))), e8, e9], src⟩) ⟨e8, e9, by rw [cin_zero, cin_zero, List.append_nil, List.append_nil]⟩ (by
          rintro j d s hj ⟨e8, e9, rfl⟩
          rw [pair0] at hj
          have hjl : j < row.length := by
            have := (List.getElem?_eq_some_iff.mp hj).1
            rwa [List.length_map, List.length_range] at this
          rw [List.getElem?_map, range_at hjl] at hj
          cases hj
          have p1 := part_len (n := row.length) hl (sameQ row) i j
          have p2 := part_len (n := row.length) hl (ledQ P row) i j
          refine ⟨⟨[some (.d (wb n cs P)), some (.d (Rw row)), some (.d (.tuple (cs.map Nm))), some (.d (.tuple ((canon n P).map pr))), some (.d (.list ((cpre row.length (sameQ row) i ++ cin row.length (sameQ row) i j).map pr))), some (.d (.list ((cpre row.length (ledQ P row) i ++ cin row.length (ledQ P row) i j).map pr))), some (.d (Nm i)), some (.d (Nm (row.getD i 0))), some (.d (Nm j)), some (.d (Nm (row.getD j 0)))], src⟩, ⟨[some (.d (wb n cs P)), some (.d (Rw row)), some (.d (.tuple (cs.map Nm))), some (.d (.tuple ((canon n P).map pr))), some (.d (.list ((cpre row.length (sameQ row) i ++ cin row.length (sameQ row) i (j + 1)).map pr))), some (.d (.list ((cpre row.length (ledQ P row) i ++ cin row.length (ledQ P row) i (j + 1)).map pr))), some (.d (Nm i)), some (.d (Nm (row.getD i 0))), some (.d (Nm j)), some (.d (Nm (row.getD j 0)))], src⟩, rfl, e_seq (s1 := ⟨[some (.d (wb n cs P)), some (.d (Rw row)), some (.d (.tuple (cs.map Nm))), some (.d (.tuple ((canon n P).map pr))), some (.d (.list ((cpre row.length (sameQ row) i ++ cin row.length (sameQ row) i (j + 1)).map pr))), some (.d (.list ((cpre row.length (ledQ P row) i ++ cin row.length (ledQ P row) i j).map pr))), some (.d (Nm i)), some (.d (Nm (row.getD i 0))), some (.d (Nm j)), some (.d (Nm (row.getD j 0)))], src⟩) ?_ ?_, _, _, rfl⟩
          · refine (app_if (b := sameQ row i j) (y := pr (i, j)) (band (b := decide (i < j)) (b' := (row.getD i 0 == row.getD j 0)) ?_ fun _ => ?_) rfl (cdisp (b := true) (xs := [.d (Nm i), .d (Nm j)]) rfl rfl (by rw [sizeLine_eq]; simp)) (by rw [List.length_map]; omega)).trans ?_
            · refine bof' (cbin (x := Nm i) (y := Nm j) rfl rfl ?_)
              show some (PyData.bool (decide ((i : Int) < (j : Int)))) = _
              rw [lt_int]
            · refine bof' (cbin (x := Nm (row.getD i 0)) (y := Nm (row.getD j 0)) rfl rfl ?_)
              rw [feq_int, int_eq]
            · rw [inn_succ (sameQ row) _ hjl]
              rfl
          · refine (app_if (b := ledQ P row i j) (y := pr (i, j)) ?_ rfl (cdisp (b := true) (xs := [.d (Nm i), .d (Nm j)]) rfl rfl (by rw [sizeLine_eq]; simp)) (by rw [List.length_map]; omega)).trans ?_
            · exact bof' (cbin (x := pr (row.getD i 0, row.getD j 0)) (y := .tuple ((canon n P).map pr)) (cdisp (b := true) (xs := [.d (Nm (row.getD i 0)), .d (Nm (row.getD j 0))]) rfl rfl (by rw [sizeLine_eq]; simp)) rfl (inD_tw (hr _ (getD_mem hil)) (hr _ (getD_mem hjl))))
            · rw [inn_succ (ledQ P row) _ hjl]
              rfl)
      have hln : (pairUp 0 (row.map Nm)).length = row.length := by rw [pairUp_length, List.length_map]
      rw [hln] at hin
      rw [← cpre_succ _ hil, ← cpre_succ _ hil] at hin
      exact ⟨⟨[some (.d (wb n cs P)), some (.d (Rw row)), some (.d (.tuple (cs.map Nm))), some (.d (.tuple ((canon n P).map pr))), some (.d (.list ((cpre row.length (sameQ row) i).map pr))), some (.d (.list ((cpre row.length (ledQ P row) i).map pr))), some (.d (Nm i)), some (.d (Nm (row.getD i 0))), e8, e9], src⟩, _, rfl, hin, _, _, _, _, rfl⟩)
  have hln : (pairUp 0 (row.map Nm)).length = row.length := by rw [pairUp_length, List.length_map]
  rw [hln, cpre_all, cpre_all] at hfor
  have hm := clc_map (own := [7]) (as := aName 7) (ic := (icAny (.e (cVar false 1)))) (c := (cBin fIxD (.e (cVar false 2)) (.e (cVar false 7)))) (F := fnAt T 200 k) (ds := row.map Nm) (E1 := [some (.d (wb n cs P)), some (.d (Rw row)), some (.d (.tuple (cs.map Nm))), some (.d (.tuple ((canon n P).map pr))), some (.d (.list ((canon row.length (sameQ row)).map pr))), some (.d (.list ((canon row.length (ledQ P row)).map pr))), e6, e7, e8, e9]) (src := src) (s := ⟨[some (.d (wb n cs P)), some (.d (Rw row)), some (.d (.tuple (cs.map Nm))), some (.d (.tuple ((canon n P).map pr))), some (.d (.list ((canon row.length (sameQ row)).map pr))), some (.d (.list ((canon row.length (ledQ P row)).map pr))), e6, e7, e8, e9], src⟩) rfl (by rw [List.length_map, sizeLine_eq]; omega) (colOf cs) (by
    intro d hd
    obtain ⟨x, hx, rfl⟩ := List.mem_map.mp hd
    refine ⟨⟨[some (.d (wb n cs P)), some (.d (Rw row)), some (.d (.tuple (cs.map Nm))), some (.d (.tuple ((canon n P).map pr))), some (.d (.list ((canon row.length (sameQ row)).map pr))), some (.d (.list ((canon row.length (ledQ P row)).map pr))), e6, some (.d (Nm x)), e8, e9], src⟩, [some (.d (wb n cs P)), some (.d (Rw row)), some (.d (.tuple (cs.map Nm))), some (.d (.tuple ((canon n P).map pr))), some (.d (.list ((canon row.length (sameQ row)).map pr))), some (.d (.list ((canon row.length (ledQ P row)).map pr))), e6, some (.d (Nm x)), e8, e9], rfl, ?_, rfl⟩
    show _ = some (Vx.d (Nm (cs.getD (x : Int).toNat 0)), _)
    rw [Int.toNat_natCast]
    exact cbin rfl rfl (color_at (by rw [hcl]; exact hr x hx)))
  have e : (row.map Nm).map (colOf cs) = row.map fun x => Nm (cs.getD x 0) := by
    rw [List.map_map]
    refine List.map_congr_left fun x _ => ?_
    show Nm (cs.getD (x : Int).toNat 0) = _
    rw [Int.toNat_natCast]
  rw [e] at hm
  refine run_env (n := 2) (nn := 10) (s' := ⟨[some (.d (wb n cs P)), some (.d (Rw row)), some (.d (.tuple (cs.map Nm))), some (.d (.tuple ((canon n P).map pr))), some (.d (.list ((canon row.length (sameQ row)).map pr))), some (.d (.list ((canon row.length (ledQ P row)).map pr))), e6, e7, e8, e9], src⟩) rfl rfl ?_
  show b_row_eye (fnAt T 200 k) ⟨[some (.d (wb n cs P)), some (.d (Rw row)), none, none, none, none, none, none, none, none], src⟩ = _
  unfold b_row_eye
  refine e_seq (spar2 (x := .d (.tuple (cs.map Nm))) (y := .d (.tuple ((canon n P).map pr))) rfl rfl) (e_seq (spar2 (x := .d (.list [])) (y := .d (.list [])) (cdisp (b := false) (xs := []) (ds := []) rfl rfl (by rw [sizeLine_eq]; simp)) (cdisp (b := false) (xs := []) (ds := []) rfl rfl (by rw [sizeLine_eq]; simp))) (e_seq hfor (sret (cdisp (b := true) (eargs (cnat1 hm rfl) (eargs (x := .d (.tuple ((canon row.length (sameQ row)).map pr))) rfl (eargs (x := .d (.tuple ((canon row.length (ledQ P row)).map pr))) rfl rfl))) rfl (by rw [sizeLine_eq]; simp)))))
theorem law_eye_ok (k : Nat) (hcl : cs.length = n) (hr : ∀ x ∈ row, x < n) (hl : row.length ≤ 10) (src : Option Src) :
    (fnAt T 200 (k + 1)).call "_law_eye" [.d (wb n cs P), .d (Rw row)] src = some (.d (eyeD cs P row), src) := by
  rw [fnAt_call (d := ⟨2, 8, b__law_eye⟩) rfl]
  have comp : ∀ (t : CB) (Q : Nat → Nat → Bool) (sm ld : Option Vx) (i : Nat) (e6 e7 : Option Vx), (∀ j, j < row.length → t (fnAt T 200 k) ⟨[some (.d (wb n cs P)), some (.d (Rw row)), some (.d (.list ((List.range row.length).map Nm))), sm, ld, some (.d (Nm i)), some (.d (Nm j)), e7], src⟩ = some (Q i j, ⟨[some (.d (wb n cs P)), some (.d (Rw row)), some (.d (.list ((List.range row.length).map Nm))), sm, ld, some (.d (Nm i)), some (.d (Nm j)), e7], src⟩)) →
      (cLc [6] (aName 6) (icAny (.e (cVar false 2))) t (cDisp true [(cVar false 5), (cVar false 6)])) (fnAt T 200 k) ⟨[some (.d (wb n cs P)), some (.d (Rw row)), some (.d (.list ((List.range row.length).map Nm))), sm, ld, some (.d (Nm i)), e6, e7], src⟩ = some (.d (.list ((cin row.length Q i row.length).map pr)), ⟨[some (.d (wb n cs P)), some (.d (Rw row)), some (.d (.list ((List.range row.length).map Nm))), sm, ld, some (.d (Nm i)), e6, e7], src⟩) := fun t Q sm ld i e6 e7 ht => by
    have hm := clc_filt (own := [6]) (as := aName 6) (ic := icAny (.e (cVar false 2))) (t := t) (c := (cDisp true [(cVar false 5), (cVar false 6)])) (F := fnAt T 200 k) (ds := (List.range row.length).map Nm) (E1 := [some (.d (wb n cs P)), some (.d (Rw row)), some (.d (.list ((List.range row.length).map Nm))), sm, ld, some (.d (Nm i)), e6, e7]) (src := src) (s := ⟨[some (.d (wb n cs P)), some (.d (Rw row)), some (.d (.list ((List.range row.length).map Nm))), sm, ld, some (.d (Nm i)), e6, e7], src⟩) (ic_any rfl) (by rw [List.length_map, List.length_range, sizeLine_eq]; omega)
      (fun d => match d with
        | .int j => Q i j.toNat
        | _ => false) (fun d => .tuple [Nm i, d]) (by
        intro d hd
        obtain ⟨j, hj, rfl⟩ := List.mem_map.mp hd
        rw [List.mem_range] at hj
        refine ⟨⟨[some (.d (wb n cs P)), some (.d (Rw row)), some (.d (.list ((List.range row.length).map Nm))), sm, ld, some (.d (Nm i)), some (.d (Nm j)), e7], src⟩, ⟨[some (.d (wb n cs P)), some (.d (Rw row)), some (.d (.list ((List.range row.length).map Nm))), sm, ld, some (.d (Nm i)), some (.d (Nm j)), e7], src⟩, rfl, ?_, fun _ => ⟨rfl, rfl⟩, fun _ => ⟨[some (.d (wb n cs P)), some (.d (Rw row)), some (.d (.list ((List.range row.length).map Nm))), sm, ld, some (.d (Nm i)), some (.d (Nm j)), e7], cdisp (b := true) (xs := [.d (Nm i), .d (Nm j)]) rfl rfl (by rw [sizeLine_eq]; simp), rfl⟩⟩
        show _ = some (Q i (j : Int).toNat, _)
        rw [Int.toNat_natCast]
        exact ht j hj)
    rw [List.filter_map, List.map_map] at hm
    have e : ((fun d : PyData => match d with
        | .int j => Q i j.toNat
        | _ => false) ∘ Nm) = Q i := funext fun j => by
      show Q i (j : Int).toNat = _
      rw [Int.toNat_natCast]
    rw [e] at hm
    have e2 : (cin row.length Q i row.length).map pr = ((List.range row.length).filter (Q i)).map ((fun d => PyData.tuple [Nm i, d]) ∘ Nm) := by
      unfold cin
      rw [List.take_of_length_le (by rw [List.length_range]; exact Nat.le_refl _), List.map_map]
      rfl
    rw [e2]
    exact hm
  obtain ⟨s', hfor, e5, e6, e7, rfl⟩ := sfor_ind (as := aName 5) (ic := icAny (.e (cVar false 2))) (F := fnAt T 200 k) (b := (sSeq (sPar [3] [(cBin fAdd (.e (cVar false 3)) (.e (cLc [6] (aName 6) (icAny (.e (cVar false 2))) (bAnd (bOf (cBin fLt (.e (cVar false 5)) (.e (cVar false 6)))) (bOf (cBin fEq (.e (cBin fIxD (.e (cVar false 1)) (.e (cVar false 5)))) (.e (cBin fIxD (.e (cVar false 1)) (.e (cVar false 6))))))) (cDisp true [(cVar false 5), (cVar false 6)]))))])
    (sPar [4] [(cBin fAdd (.e (cVar false 4)) (.e (cLc [6] (aName 6) (icAny (.e (cVar false 2))) (bOf (cBin (fInD false) (.e (cDisp true [(cBin fIxD (.e (cVar false 1)) (.e (cVar false 5))), (cBin fIxD (.e (cVar false 1)) (.e (cVar false 6)))])) (.e (cBin fIxD (.e (cVar false 0)) (.e (cC (.int 2))))))) (cDisp true [(cVar false 5), (cVar false 6)]))))]))) (s := ⟨[some (.d (wb n cs P)), some (.d (Rw row)), some (.d (.list ((List.range row.length).map Nm))), some (.d (.list [])), some (.d (.list [])), none, none, none], src⟩) (ds := (List.range row.length).map Nm) (s0 := ⟨[some (.d (wb n cs P)), some (.d (Rw row)), some (.d (.list ((List.range row.length).map Nm))), some (.d (.list [])), some (.d (.list [])), none, none, none], src⟩) (ic_any rfl)
    (fun i s => ∃ e5 e6 e7, s = ⟨[some (.d (wb n cs P)), some (.d (Rw row)), some (.d (.list ((List.range row.length).map Nm))), some (.d (.list ((cpre row.length (sameQ row) i).map pr))), some (.d (.list ((cpre row.length (ledQ P row) i).map pr))), e5, e6, e7], src⟩) ⟨none, none, none, rfl⟩ (by
      rintro i d s hi ⟨e5, e6, e7, rfl⟩
      have hil : i < row.length := by
        have := (List.getElem?_eq_some_iff.mp hi).1
        rwa [List.length_map, List.length_range] at this
      rw [List.getElem?_map, range_at hil] at hi
      cases hi
      have h3 := comp (bAnd (bOf (cBin fLt (.e (cVar false 5)) (.e (cVar false 6)))) (bOf (cBin fEq (.e (cBin fIxD (.e (cVar false 1)) (.e (cVar false 5)))) (.e (cBin fIxD (.e (cVar false 1)) (.e (cVar false 6))))))) (sameQ row) (some (.d (.list ((cpre row.length (sameQ row) i).map pr)))) (some (.d (.list ((cpre row.length (ledQ P row) i).map pr)))) i e6 e7 (fun j hj => by
        refine band (b := decide (i < j)) (b' := (row.getD i 0 == row.getD j 0)) ?_ fun _ => ?_
        · refine bof' (cbin (x := Nm i) (y := Nm j) rfl rfl ?_)
          show some (PyData.bool (decide ((i : Int) < (j : Int)))) = _
          rw [lt_int]
        · refine bof' (cbin (x := Nm (row.getD i 0)) (y := Nm (row.getD j 0)) (cbin rfl rfl (row_at hil)) (cbin rfl rfl (row_at hj)) ?_)
          rw [feq_int, int_eq])
      have h4 := comp (bOf (cBin (fInD false) (.e (cDisp true [(cBin fIxD (.e (cVar false 1)) (.e (cVar false 5))), (cBin fIxD (.e (cVar false 1)) (.e (cVar false 6)))])) (.e (cBin fIxD (.e (cVar false 0)) (.e (cC (.int 2))))))) (ledQ P row) (some (.d (.list ((cpre row.length (sameQ row) (i + 1)).map pr)))) (some (.d (.list ((cpre row.length (ledQ P row) i).map pr)))) i e6 e7 (fun j hj => by
        exact bof' (cbin (x := pr (row.getD i 0, row.getD j 0)) (y := .tuple ((canon n P).map pr)) (cdisp (b := true) (xs := [.d (Nm (row.getD i 0)), .d (Nm (row.getD j 0))]) (eargs (cbin rfl rfl (row_at hil)) (eargs (cbin rfl rfl (row_at hj)) rfl)) rfl (by rw [sizeLine_eq]; simp)) (cbin (y := .int 2) rfl rfl rfl) (inD_tw (hr _ (getD_mem hil)) (hr _ (getD_mem hj)))))
      have p1 := part_len (n := row.length) hl (sameQ row) i row.length
      have p2 := part_len (n := row.length) hl (ledQ P row) i row.length
      rw [List.length_append] at p1 p2
      refine ⟨⟨[some (.d (wb n cs P)), some (.d (Rw row)), some (.d (.list ((List.range row.length).map Nm))), some (.d (.list ((cpre row.length (sameQ row) i).map pr))), some (.d (.list ((cpre row.length (ledQ P row) i).map pr))), some (.d (Nm i)), e6, e7], src⟩, ⟨[some (.d (wb n cs P)), some (.d (Rw row)), some (.d (.list ((List.range row.length).map Nm))), some (.d (.list ((cpre row.length (sameQ row) (i + 1)).map pr))), some (.d (.list ((cpre row.length (ledQ P row) (i + 1)).map pr))), some (.d (Nm i)), e6, e7], src⟩, rfl, e_seq (s1 := ⟨[some (.d (wb n cs P)), some (.d (Rw row)), some (.d (.list ((List.range row.length).map Nm))), some (.d (.list ((cpre row.length (sameQ row) (i + 1)).map pr))), some (.d (.list ((cpre row.length (ledQ P row) i).map pr))), some (.d (Nm i)), e6, e7], src⟩) ((spar1 (x := (.d (.list ((cpre row.length (sameQ row) (i + 1)).map pr)))) (s1 := ⟨[some (.d (wb n cs P)), some (.d (Rw row)), some (.d (.list ((List.range row.length).map Nm))), some (.d (.list ((cpre row.length (sameQ row) i).map pr))), some (.d (.list ((cpre row.length (ledQ P row) i).map pr))), some (.d (Nm i)), e6, e7], src⟩) ?_).trans rfl) ((spar1 (x := (.d (.list ((cpre row.length (ledQ P row) (i + 1)).map pr)))) (s1 := ⟨[some (.d (wb n cs P)), some (.d (Rw row)), some (.d (.list ((List.range row.length).map Nm))), some (.d (.list ((cpre row.length (sameQ row) (i + 1)).map pr))), some (.d (.list ((cpre row.length (ledQ P row) i).map pr))), some (.d (Nm i)), e6, e7], src⟩) ?_).trans rfl), _, _, _, rfl⟩
      · rw [cpre_succ _ hil, List.map_append]
        exact cbin rfl h3 (fadd_list (by rw [List.length_map, List.length_map]; omega))
      · rw [cpre_succ (ledQ P row) hil, List.map_append]
        exact cbin rfl h4 (fadd_list (by rw [List.length_map, List.length_map]; omega)))
  rw [List.length_map, List.length_range, cpre_all, cpre_all] at hfor
  have hm := clc_map (own := [7]) (as := aName 7) (ic := (icAny (.e (cVar false 1)))) (c := (cBin fIxD (.e (cBin fIxD (.e (cVar false 0)) (.e (cC (.int 1))))) (.e (cVar false 7)))) (F := fnAt T 200 k) (ds := row.map Nm) (E1 := [some (.d (wb n cs P)), some (.d (Rw row)), some (.d (.list ((List.range row.length).map Nm))), some (.d (.list ((canon row.length (sameQ row)).map pr))), some (.d (.list ((canon row.length (ledQ P row)).map pr))), e5, e6, e7]) (src := src) (s := ⟨[some (.d (wb n cs P)), some (.d (Rw row)), some (.d (.list ((List.range row.length).map Nm))), some (.d (.list ((canon row.length (sameQ row)).map pr))), some (.d (.list ((canon row.length (ledQ P row)).map pr))), e5, e6, e7], src⟩) rfl (by rw [List.length_map, sizeLine_eq]; omega) (colOf cs) (by
    intro d hd
    obtain ⟨x, hx, rfl⟩ := List.mem_map.mp hd
    refine ⟨⟨[some (.d (wb n cs P)), some (.d (Rw row)), some (.d (.list ((List.range row.length).map Nm))), some (.d (.list ((canon row.length (sameQ row)).map pr))), some (.d (.list ((canon row.length (ledQ P row)).map pr))), e5, e6, some (.d (Nm x))], src⟩, [some (.d (wb n cs P)), some (.d (Rw row)), some (.d (.list ((List.range row.length).map Nm))), some (.d (.list ((canon row.length (sameQ row)).map pr))), some (.d (.list ((canon row.length (ledQ P row)).map pr))), e5, e6, some (.d (Nm x))], rfl, ?_, rfl⟩
    show _ = some (Vx.d (Nm (cs.getD (x : Int).toNat 0)), _)
    rw [Int.toNat_natCast]
    exact cbin (x := .tuple (cs.map Nm)) (cbin (y := .int 1) rfl rfl rfl) rfl (color_at (by rw [hcl]; exact hr x hx)))
  have e : (row.map Nm).map (colOf cs) = row.map fun x => Nm (cs.getD x 0) := by
    rw [List.map_map]
    refine List.map_congr_left fun x _ => ?_
    show Nm (cs.getD (x : Int).toNat 0) = _
    rw [Int.toNat_natCast]
  rw [e] at hm
  have hlr : cLRng (.e (cNat fLenD [(.e (cVar false 1))])) (fnAt T 200 k) ⟨[some (.d (wb n cs P)), some (.d (Rw row)), none, none, none, none, none, none], src⟩ = some (.d (.list ((List.range row.length).map Nm)), ⟨[some (.d (wb n cs P)), some (.d (Rw row)), none, none, none, none, none, none], src⟩) := by
    show (if 0 ≤ (((row.map Nm).length : Nat) : Int) ∧ (((row.map Nm).length : Nat) : Int) ≤ 16777216 then some (Vx.d (.list (Ev.intsFrom 0 (((row.map Nm).length : Nat) : Int).toNat)), _) else none) = _
    rw [List.length_map, if_pos (by omega), Int.toNat_natCast, ints0]
    rfl
  refine run_env (n := 2) (nn := 8) (s' := ⟨[some (.d (wb n cs P)), some (.d (Rw row)), some (.d (.list ((List.range row.length).map Nm))), some (.d (.list ((canon row.length (sameQ row)).map pr))), some (.d (.list ((canon row.length (ledQ P row)).map pr))), e5, e6, e7], src⟩) rfl rfl ?_
  show b__law_eye (fnAt T 200 k) ⟨[some (.d (wb n cs P)), some (.d (Rw row)), none, none, none, none, none, none], src⟩ = _
  unfold b__law_eye
  refine e_seq (spar1 hlr) (e_seq (spar2 (x := .d (.list [])) (y := .d (.list [])) (cdisp (b := false) (xs := []) (ds := []) rfl rfl (by rw [sizeLine_eq]; simp)) (cdisp (b := false) (xs := []) (ds := []) rfl rfl (by rw [sizeLine_eq]; simp))) (e_seq hfor (sret (cdisp (b := true) (eargs (cnat1 hm rfl) (eargs (x := .d (.tuple ((canon row.length (sameQ row)).map pr))) rfl (eargs (x := .d (.tuple ((canon row.length (ledQ P row)).map pr))) rfl rfl))) rfl (by rw [sizeLine_eq]; simp)))))
end L11
namespace L11
open PySem PySem.Spec L2 Ev PyProof.Rows
/-! ### the law's own types -/
theorem keq_str (a b : Str) : keq (.str a) (.str b) = decide (a = b) := by
  show decide (NestedKey.text a = NestedKey.text b) = _
  by_cases h : a = b
  · subst h; simp
  · have : ¬ NestedKey.text a = NestedKey.text b := fun z => h (by injection z)
    rw [decide_eq_false h, decide_eq_false this]
def ent (t : PyData) : PyData × PyData := (.str t.shown, t)
theorem dPut_ent {ts : List PyData} {t : PyData} (ht : its t = true) (hs : ∀ x ∈ ts, its x = true) : dPut (ts.map ent) (.str t.shown) t = (addU ts t).map ent := by
  have hany : ((ts.map ent).any fun p => keq p.1 (.str t.shown)) = true ↔ t ∈ ts := by
    rw [List.any_eq_true]
    constructor
    · rintro ⟨p, hp, e⟩
      obtain ⟨x, hx, rfl⟩ := List.mem_map.mp hp
      rw [show (ent x).1 = .str x.shown from rfl, keq_str, decide_eq_true_eq] at e
      rw [← shown_inj (hs x hx) ht e]; exact hx
    · intro h
      exact ⟨ent t, List.mem_map.mpr ⟨t, h, rfl⟩, by rw [show (ent t).1 = .str t.shown from rfl, keq_str]; simp⟩
  unfold dPut addU
  by_cases h : t ∈ ts
  · rw [if_pos (hany.mpr h), if_pos h, List.map_map]
    refine List.map_congr_left fun x hx => ?_
    show (if keq (.str x.shown) (.str t.shown) = true then ((.str x.shown : PyData), t) else ent x) = ent x
    split
    · rename_i e
      rw [keq_str, decide_eq_true_eq] at e
      rw [← shown_inj (hs x hx) ht e]; rfl
    · rfl
  · rw [if_neg (fun z => h (hany.mp z)), if_neg h, List.map_append]
    rfl
theorem dGet_ent : ∀ {ts : List PyData} {t : PyData}, its t = true → (∀ x ∈ ts, its x = true) → t ∈ ts → dGet (ts.map ent) (.str t.shown) = some t
  | [], _, _, _, h => nomatch h
  | x :: ts, t, ht, hs, h => by
    unfold dGet
    rw [List.map_cons, List.find?_cons, show (ent x).1 = .str x.shown from rfl, keq_str]
    by_cases e : x.shown = t.shown
    · rw [decide_eq_true e]
      show some x = some t
      rw [shown_inj (hs x List.mem_cons_self) ht e]
    · rw [decide_eq_false e]
      have hne : t ∈ ts := (List.mem_cons.mp h).resolve_left fun z => e (by rw [z])
      exact dGet_ent ht (fun y hy => hs y (List.mem_cons_of_mem _ hy)) hne
theorem its_show : ∀ (d : PyData), its d = true → d.showable = true := by
  exact aux
where
  aux : ∀ (d : PyData), its d = true → d.showable = true
    | .int i, h => by
      unfold its at h
      simp only [Bool.and_eq_true, decide_eq_true_eq] at h
      simp only [PyData.showable, decide_eq_true_eq]
      have h2 : i.natAbs < 100 := by omega
      have h3 : i.natAbs.log2 ≤ 7 := by
        by_cases h0 : i.natAbs = 0
        · rw [h0]; decide
        · have := (Nat.log2_lt h0 (k := 7)).mpr (by omega)
          omega
      omega
    | .tuple ds, h => by
      unfold its at h
      simp only [PyData.showable]
      exact auxA ds h
    | .none, h => by cases h
    | .bool _, h => by cases h
    | .str _, h => by cases h
    | .list _, h => by cases h
    | .dict _, h => by cases h
  auxA : ∀ (ds : List PyData), itsA ds = true → PyData.showableAll ds = true
    | [], _ => by simp [PyData.showableAll]
    | d :: ds, h => by
      unfold itsA at h
      rw [Bool.and_eq_true] at h
      simp only [PyData.showableAll, Bool.and_eq_true]
      exact ⟨aux d h.1, auxA ds h.2⟩
theorem frepr {d : PyData} (h : its d = true) (hl : (sh d).length ≤ sizeLine) (hd : d.depth ≤ 64) : fRepr [d] = some (.str d.shown) := by
  show (if PyData.canLay0 d && d.showable && decide (d.shown.length ≤ sizeLine) && decide (d.depth ≤ 64) then some (PyData.str d.shown) else none) = _
  rw [itr_lay d (its_itr d h), its_show d h, shown_len, decide_eq_true hl, decide_eq_true hd]
  rfl
theorem shI_c : ∀ i : Fin 100, ∀ c ∈ shI (i.val : Int), c < 128 := by decide +kernel
theorem shI_c' {i : Int} (h : 0 ≤ i ∧ i < 100) : ∀ c ∈ shI i, c < 128 := by
  have := shI_c ⟨i.toNat, by omega⟩
  rw [show ((⟨i.toNat, by omega⟩ : Fin 100).val : Int) = i from Int.toNat_of_nonneg h.1] at this
  exact this
theorem rest_c : ∀ (ds : List PyData), (∀ d ∈ ds, ∀ c ∈ sh d, c < 128) → ∀ c ∈ restT ds, c < 128
  | [], _, c, hc => by simp [restT] at hc
  | [x], h, c, hc => by
    simp only [restT, List.mem_append, List.mem_singleton] at hc
    rcases hc with hc | hc
    · exact h x List.mem_cons_self c hc
    · omega
  | x :: y :: r, h, c, hc => by
    have e : restT (x :: y :: r) = sh x ++ 44 :: 32 :: restT (y :: r) := rfl
    rw [e, List.mem_append, List.mem_cons, List.mem_cons] at hc
    rcases hc with hc | hc | hc | hc
    · exact h x List.mem_cons_self c hc
    · omega
    · omega
    · exact rest_c (y :: r) (fun d hd => h d (List.mem_cons_of_mem _ hd)) c hc
theorem body_c (ds : List PyData) (h : ∀ d ∈ ds, ∀ c ∈ sh d, c < 128) : ∀ c ∈ bodyT ds, c < 128 := by
  match ds, h with
  | [], _ => intro c hc; simp [bodyT] at hc; omega
  | [x], h =>
    intro c hc
    simp only [bodyT, List.mem_append, List.mem_cons, List.not_mem_nil, or_false] at hc
    rcases hc with hc | hc | hc
    · exact h x List.mem_cons_self c hc
    · omega
    · omega
  | x :: y :: r, h => exact rest_c (x :: y :: r) h
mutual
theorem sh_c : ∀ (d : PyData), its d = true → ∀ c ∈ sh d, c < 128
  | .int i, h => by
    unfold its at h
    simp only [Bool.and_eq_true, decide_eq_true_eq] at h
    rw [sh_int]; exact shI_c' h
  | .tuple ds, h => by
    unfold its at h
    rw [sh_tup]
    intro c hc
    rcases List.mem_cons.mp hc with hc | hc
    · omega
    · exact body_c ds (shA_c ds h) c hc
  | .none, h => by cases h
  | .bool _, h => by cases h
  | .str _, h => by cases h
  | .list _, h => by cases h
  | .dict _, h => by cases h
theorem shA_c : ∀ (ds : List PyData), itsA ds = true → ∀ d ∈ ds, ∀ c ∈ sh d, c < 128
  | [], _, d, hd => nomatch hd
  | x :: ds, h, d, hd => by
    unfold itsA at h
    rw [Bool.and_eq_true] at h
    rcases List.mem_cons.mp hd with e | hd
    · rw [e]; exact sh_c x h.1
    · exact shA_c ds h.2 d hd
end
theorem fne_same {a : Str} (hl : a.length ≤ sizeLine) (hc : ∀ c ∈ a.cps.toList, c < 128) : fNe (.str a) (.str a) = some (.bool false) := by
  have hk : PyData.strOk a = true := by
    unfold PyData.strOk
    rw [Array.all_eq_true']
    intro x hx
    have := hc x (by simpa using hx)
    simpa using (by omega : x < 1114112)
  unfold fNe
  have h1 : shp (.str a) = true := by simp [shp, SeqAt.shaped, PyData.canLay0, PyData.depth, hk, hl]
  rw [h1, Bool.and_self, if_pos rfl]
  simp [PyData.eqv]
theorem fne_shown {d : PyData} (hd : its d = true) (h : fRepr [d] = some (.str d.shown)) : fNe (.str d.shown) (.str d.shown) = some (.bool false) := by
  refine fne_same ?_ (sh_c d hd)
  unfold fRepr at h
  simp only at h
  split at h
  · rename_i hz
    simp only [Bool.and_eq_true, decide_eq_true_eq] at hz
    exact hz.1.2
  · cases h

/-! ### each once -/
def tx (t : PyData) : PyData := .str t.shown
noncomputable def gT (ts : List PyData) (k : PyData) : PyData := (dGet ((dd ts).map ent) k).getD .none
noncomputable def onceL (ts : List PyData) : List PyData := (sortD ((dd ts).map tx)).map (gT ts)
theorem gT_at {ts : List PyData} (hi : ∀ t ∈ ts, its t = true) {t : PyData} (ht : t ∈ ts) : gT ts (tx t) = t := by
  unfold gT
  rw [show tx t = .str t.shown from rfl, dGet_ent (hi t ht) (fun x hx => hi x (dd_mem.mp hx)) (dd_mem.mpr ht)]
  rfl
theorem onceL_mem {ts : List PyData} (hi : ∀ t ∈ ts, its t = true) {x : PyData} : x ∈ onceL ts ↔ x ∈ ts := by
  unfold onceL
  rw [List.mem_map]
  constructor
  · rintro ⟨k, hk, rfl⟩
    rw [sortD_mem] at hk
    obtain ⟨t, ht, rfl⟩ := List.mem_map.mp hk
    rw [gT_at hi (dd_mem.mp ht)]
    exact dd_mem.mp ht
  · intro hx
    exact ⟨tx x, sortD_mem.mpr (List.mem_map.mpr ⟨x, dd_mem.mpr hx, rfl⟩), gT_at hi hx⟩
theorem onceL_len (ts : List PyData) : (onceL ts).length ≤ ts.length := by
  unfold onceL
  rw [List.length_map, sortD_len, List.length_map]
  exact dd_len ts
theorem str_antisymm {a b : Str} (h1 : PySem.W.dataLe false id (.str a) (.str b) = true) (h2 : PySem.W.dataLe false id (.str b) (.str a) = true) : a = b := by
  rw [PySem.W.dataLe_eq] at h1 h2
  simp only [cond_false, id, Bool.not_eq_true'] at h1 h2
  have this : PySem.W.keyToks (.str a) = PySem.W.keyToks (.str b) := (PyProof.Rows.listOrd PyProof.Rows.itemOrd).total _ _ h2 h1
  have this : ([.inr a.cps.toList] : List (Int ⊕ List Nat)) = [.inr b.cps.toList] := this
  injection this with this _
  injection this with this
  exact PySem.W.str_of_cps this
theorem onceL_eq {ts us : List PyData} (hi : ∀ t ∈ ts, its t = true) (h : ∀ x, x ∈ ts ↔ x ∈ us) : onceL ts = onceL us := by
  have hi' : ∀ t ∈ us, its t = true := fun t ht => hi t ((h t).mpr ht)
  have hp : ((dd ts).map tx).Perm ((dd us).map tx) := (dd_perm h).map tx
  have hs : sortD ((dd ts).map tx) = sortD ((dd us).map tx) := by
    refine perm_sorted (((sortD_perm _).trans hp).trans (sortD_perm _).symm) (sortD_pair _) (sortD_pair _) fun x hx y hy h1 h2 => ?_
    obtain ⟨t, _, rfl⟩ := List.mem_map.mp ((sortD_perm _).mem_iff.mp hx)
    obtain ⟨u, _, rfl⟩ := List.mem_map.mp ((sortD_perm _).mem_iff.mp hy)
    show PyData.str t.shown = .str u.shown
    rw [str_antisymm h1 h2]
  unfold onceL
  rw [hs]
  refine List.map_congr_left fun k hk => ?_
  rw [sortD_mem] at hk
  obtain ⟨t, ht, rfl⟩ := List.mem_map.mp hk
  rw [gT_at hi' (dd_mem.mp ht), gT_at hi ((h t).mpr (dd_mem.mp ht))]
structure Sm (L : Nat) (t : PyData) : Prop where
  its : its t = true
  len : (sh t).length ≤ L
  dep : t.depth ≤ 60
theorem Sm.repr {L : Nat} {t : PyData} (h : Sm L t) (hL : L ≤ 8000000) : fRepr [t] = some (.str t.shown) := frepr h.its (by have := h.len; rw [sizeLine_eq]; omega) (by have := h.dep; omega)
theorem str_lay {L : Nat} {t : PyData} (h : Sm L t) (hL : L ≤ 8000000) : PyData.canLay0 (tx t) = true := by
  have hk : PyData.strOk t.shown = true := by
    unfold PyData.strOk
    rw [Array.all_eq_true']
    intro x hx
    have := sh_c t h.its x (by unfold sh; simpa using hx)
    simpa using (by omega : x < 1114112)
  have hl : t.shown.length ≤ 16777216 := by
    rw [shown_len]
    have := h.len
    omega
  unfold tx
  simp [PyData.canLay0, hk, hl, sizeLine_eq]
theorem layAll : ∀ {l : List PyData}, (∀ d ∈ l, PyData.canLay0 d = true) → PyData.canLayAll0 l = true
  | [], _ => rfl
  | d :: l, h => by
    simp only [PyData.canLayAll0, h d List.mem_cons_self, layAll fun x hx => h x (List.mem_cons_of_mem _ hx), Bool.and_self]
theorem sort_tx {L : Nat} {ts : List PyData} (hs : ∀ t ∈ ts, Sm L t) (hL : L ≤ 8000000) (hl : ts.length ≤ 100) : sortOk ((dd ts).map tx) = true := by
  unfold sortOk
  simp only [Bool.and_eq_true, decide_eq_true_eq, List.all_eq_true, Bool.or_eq_true]
  refine ⟨⟨⟨⟨by rw [List.length_map, sizeLine_eq]; have := dd_len ts; omega, fun d hd e he => ?_⟩, .inr fun d hd => ?_⟩, layAll fun d hd => ?_⟩, fun d hd => ?_⟩
  · obtain ⟨t, _, rfl⟩ := List.mem_map.mp hd
    obtain ⟨u, _, rfl⟩ := List.mem_map.mp he
    simp [tx, PySem.W.alike]
  · obtain ⟨t, _, rfl⟩ := List.mem_map.mp hd
    rfl
  · obtain ⟨t, ht, rfl⟩ := List.mem_map.mp hd
    exact str_lay (hs t (dd_mem.mp ht)) hL
  · obtain ⟨t, _, rfl⟩ := List.mem_map.mp hd
    simp [tx, PyData.depth]
theorem dMerge_ent : ∀ {ts acc : List PyData}, (∀ t ∈ ts, its t = true) → (∀ t ∈ acc, its t = true) → dMerge (acc.map ent) (ts.map ent) = (ts.foldl addU acc).map ent
  | [], acc, _, _ => rfl
  | t :: ts, acc, h, ha => by
    show dMerge (dPut (acc.map ent) (.str t.shown) t) (ts.map ent) = _
    rw [dPut_ent (h t List.mem_cons_self) ha, dMerge_ent (fun x hx => h x (List.mem_cons_of_mem _ hx)) fun x hx => ?_]
    · rfl
    · rcases addU_mem.mp hx with hx | hx
      · exact ha x hx
      · rw [hx]; exact h t List.mem_cons_self
theorem dc_ent {F : Fn} {ck cv : CE} {own : List Nat} {as : PyData → S → Option S} (E : List (Option Vx)) (src : Option Src) : ∀ (ds acc : List PyData),
    (∀ d ∈ ds, ∃ s1 E1 E', as d ⟨E, src⟩ = some s1 ∧ ck F s1 = some (.d (tx d), ⟨E1, src⟩) ∧ cv F ⟨E1, src⟩ = some (.d d, ⟨E', src⟩) ∧ wipeE E' own = E ∧ its d = true) →
    (∀ d ∈ acc, its d = true) → acc.length + ds.length ≤ 1000 →
    ∀ E0, wipeE E0 own = E → ∃ E2, dcL as own bYes ck cv F ds (acc.map ent) ⟨E0, src⟩ = some ((ds.foldl addU acc).map ent, ⟨E2, src⟩) ∧ wipeE E2 own = E
  | [], acc, _, _, _, E0, he => ⟨E0, rfl, he⟩
  | d :: ds, acc, st, ha, hz, E0, he => by
    obtain ⟨s1, E1, E', h1, h2, h3, h4, h5⟩ := st d List.mem_cons_self
    rw [List.length_cons] at hz
    have hk : dKey (acc.map ent) (tx d) = true := by
      unfold dKey
      rw [show isK1 (tx d) = true from rfl, show ((acc.map ent).all fun p => isK1 p.1) = true from List.all_eq_true.mpr fun p hp => by obtain ⟨x, _, rfl⟩ := List.mem_map.mp hp; rfl]
      rfl
    have e : dPut (acc.map ent) (tx d) d = (addU acc d).map ent := dPut_ent h5 ha
    obtain ⟨E2, g1, g2⟩ := dc_ent E src ds (addU acc d) (fun d' hd => st d' (List.mem_cons_of_mem _ hd)) (fun x hx => by
      rcases addU_mem.mp hx with hx | hx
      · exact ha x hx
      · rw [hx]; exact h5) (by have := addU_len (acc := acc) (d := d); omega) E' h4
    refine ⟨E2, ?_, g2⟩
    show (match as d (wipeS own ⟨E0, src⟩) with | some s1 => _ | none => _) = _
    rw [show wipeS own ⟨E0, src⟩ = ⟨E, src⟩ by unfold wipeS; rw [he], h1]
    show (match ck F s1 with | some (.d k, s3) => _ | _ => none) = _
    rw [h2]
    show (match cv F ⟨E1, src⟩ with | some (.d y, s4) => _ | _ => none) = _
    rw [h3]
    show (if dKey (acc.map ent) (tx d) && decide ((acc.map ent).length < sizeLine) then _ else none) = _
    rw [hk, decide_eq_true (by rw [List.length_map, sizeLine_eq]; omega), Bool.and_self, if_pos rfl, e]
    exact g1
theorem tail_ok {F : Fn} {L : Nat} {ts : List PyData} (hs : ∀ t ∈ ts, Sm L t) (hL : L ≤ 8000000) (hl : ts.length ≤ 100) (c2 : Option Vx) (src : Option Src) :
    sRet (cNat fTuple [(.e (cLc [3] (aName 3) (icAny (.e (cNat fSortedD [(.e (cVar false 1))]))) bYes (cBin fIxD (.e (cVar false 1)) (.e (cVar false 3)))))]) F ⟨[some (.d (.list ts)), some (.d (.dict ((dd ts).map ent))), c2, none], src⟩ = some (.rt (.d (.tuple (onceL ts))), ⟨[some (.d (.list ts)), some (.d (.dict ((dd ts).map ent))), c2, none], src⟩) := by
  have hi : ∀ t ∈ ts, its t = true := fun t ht => (hs t ht).its
  have hk : ((dd ts).map ent).map (·.1) = (dd ts).map tx := by rw [List.map_map]; rfl
  have hso : cNat fSortedD [(.e (cVar false 1))] F ⟨[some (.d (.list ts)), some (.d (.dict ((dd ts).map ent))), c2, none], src⟩ = some (.d (.list (sortD ((dd ts).map tx))), ⟨[some (.d (.list ts)), some (.d (.dict ((dd ts).map ent))), c2, none], src⟩) := by
    refine cnat1 (x := .dict ((dd ts).map ent)) rfl ?_
    show (if sortOk (((dd ts).map ent).map (·.1)) then some (PyData.list (sortD (((dd ts).map ent).map (·.1)))) else none) = _
    rw [hk, if_pos (sort_tx hs hL hl)]
  have hm := clc_map (own := [3]) (as := aName 3) (ic := (icAny (.e (cNat fSortedD [(.e (cVar false 1))])))) (c := (cBin fIxD (.e (cVar false 1)) (.e (cVar false 3)))) (F := F) (ds := sortD ((dd ts).map tx)) (E1 := [some (.d (.list ts)), some (.d (.dict ((dd ts).map ent))), c2, none]) (src := src) (s := ⟨[some (.d (.list ts)), some (.d (.dict ((dd ts).map ent))), c2, none], src⟩) (ic_any hso) (by rw [sortD_len, List.length_map, sizeLine_eq]; have := dd_len ts; omega) (gT ts) (by
    intro d hd
    rw [sortD_mem] at hd
    obtain ⟨t, ht, rfl⟩ := List.mem_map.mp hd
    refine ⟨⟨[some (.d (.list ts)), some (.d (.dict ((dd ts).map ent))), c2, some (.d (tx t))], src⟩, [some (.d (.list ts)), some (.d (.dict ((dd ts).map ent))), c2, some (.d (tx t))], rfl, ?_, rfl⟩
    rw [gT_at hi (dd_mem.mp ht)]
    refine cbin (x := .dict ((dd ts).map ent)) (y := tx t) rfl rfl ?_
    have hd : dKey ((dd ts).map ent) (tx t) = true := by
      unfold dKey
      rw [show isK1 (tx t) = true from rfl, show (((dd ts).map ent).all fun p => isK1 p.1) = true from List.all_eq_true.mpr fun p hp => by obtain ⟨x, _, rfl⟩ := List.mem_map.mp hp; rfl]
      rfl
    show (if dKey ((dd ts).map ent) (tx t) then dGet ((dd ts).map ent) (tx t) else none) = _
    rw [if_pos hd]
    exact dGet_ent (hi t (dd_mem.mp ht)) (fun x hx => hi x (dd_mem.mp hx)) ht)
  exact sret (cnat1 hm rfl)
theorem each_once_ok (k : Nat) {L : Nat} {ts : List PyData} (hs : ∀ t ∈ ts, Sm L t) (hL : L ≤ 8000000) (hl : ts.length ≤ 100) (src : Option Src) :
    (fnAt T 200 (k + 1)).call "each_once" [.d (.list ts)] src = some (.d (.tuple (onceL ts)), src) := by
  rw [fnAt_call (d := ⟨1, 4, b_each_once⟩) rfl]
  refine run_env (n := 1) (nn := 4) (s' := ⟨[some (.d (.list ts)), some (.d (.dict ((dd ts).map ent))), none, none], src⟩) rfl rfl ?_
  show b_each_once (fnAt T 200 k) ⟨[some (.d (.list ts)), none, none, none], src⟩ = _
  unfold b_each_once
  obtain ⟨E2, g1, g2⟩ := dc_ent (F := fnAt T 200 k) (ck := cNat fRepr [(.e (cVar false 2))]) (cv := cVar false 2) (own := [2]) (as := aName 2) [some (.d (.list ts)), none, none, none] src ts [] (fun d hd => ⟨⟨[some (.d (.list ts)), none, some (.d d), none], src⟩, [some (.d (.list ts)), none, some (.d d), none], [some (.d (.list ts)), none, some (.d d), none], rfl, cnat1 rfl ((hs d hd).repr hL), rfl, rfl, (hs d hd).its⟩) (fun d hd => nomatch hd) (by simpa using by omega) [some (.d (.list ts)), none, none, none] rfl
  have hdc : cDc [2] (aName 2) (icAny (.e (cVar false 0))) bYes (cNat fRepr [(.e (cVar false 2))]) (cVar false 2) (fnAt T 200 k) ⟨[some (.d (.list ts)), none, none, none], src⟩ = some (.d (.dict ((dd ts).map ent)), ⟨[some (.d (.list ts)), none, none, none], src⟩) := by
    have hic : icAny (.e (cVar false 0)) (fnAt T 200 k) ⟨[some (.d (.list ts)), none, none, none], src⟩ = some (ts, ⟨[some (.d (.list ts)), none, none, none], src⟩, []) := ic_any rfl
    unfold cDc
    rw [hic]
    have g1 : dcL (aName 2) [2] bYes (cNat fRepr [(.e (cVar false 2))]) (cVar false 2) (fnAt T 200 k) ts [] ⟨[some (.d (.list ts)), none, none, none], src⟩ = some ((dd ts).map ent, ⟨E2, src⟩) := g1
    simp only [show ts.length ≤ sizeLine by rw [sizeLine_eq]; omega, if_true, g1]
    show some (Vx.d (.dict _), back [] (unwipeS [2] ⟨[some (.d (.list ts)), none, none, none], src⟩ (wipeS [2] ⟨E2, src⟩))) = _
    unfold unwipeS wipeS back
    simp only [List.foldr_nil, g2]
    rfl
  exact e_seq (spar1 hdc) (tail_ok hs hL hl none src)
theorem law_once_ok (k : Nat) {L : Nat} {ts : List PyData} (hs : ∀ t ∈ ts, Sm L t) (hL : L ≤ 8000000) (hl : ts.length ≤ 100) (src : Option Src) :
    (fnAt T 200 (k + 1)).call "_law_once" [.d (.list ts)] src = some (.d (.tuple (onceL ts)), src) := by
  rw [fnAt_call (d := ⟨1, 4, b__law_once⟩) rfl]
  refine run_env (n := 1) (nn := 4) (s' := ⟨[some (.d (.list ts)), some (.d (.dict ((dd ts).map ent))), none, none], src⟩) rfl rfl ?_
  show b__law_once (fnAt T 200 k) ⟨[some (.d (.list ts)), none, none, none], src⟩ = _
  unfold b__law_once
  have hm := clc_map (own := [2]) (as := aName 2) (ic := icAny (.e (cVar false 0))) (c := (cDisp true [(cNat fRepr [(.e (cVar false 2))]), (cVar false 2)])) (F := fnAt T 200 k) (ds := ts) (E1 := [some (.d (.list ts)), none, none, none]) (src := src) (s := ⟨[some (.d (.list ts)), none, none, none], src⟩) (ic_any rfl) (by rw [sizeLine_eq]; omega) (fun t => .tuple [tx t, t]) (by
    intro d hd
    exact ⟨⟨[some (.d (.list ts)), none, some (.d d), none], src⟩, [some (.d (.list ts)), none, some (.d d), none], rfl, cdisp (b := true) (eargs (cnat1 rfl ((hs d hd).repr hL)) (eargs (x := .d d) rfl rfl)) rfl (by rw [sizeLine_eq]; simp), rfl⟩)
  have pm : ∀ l : List PyData, Ev.pairsOf (l.map fun t => .tuple [tx t, t]) = some (l.map ent) := by
    intro l
    induction l with
    | nil => rfl
    | cons p l ih =>
      rw [List.map_cons]
      unfold Ev.pairsOf
      rw [ih]
      rfl
  have hd : fDict [.list (ts.map fun t => .tuple [tx t, t])] = some (.dict ((dd ts).map ent)) := by
    show (match Ev.pairsOf (ts.map fun t => .tuple [tx t, t]) with | some kvs => if allK kvs && decide (kvs.length ≤ sizeLine) then some (PyData.dict (dMerge [] kvs)) else none | none => none) = _
    rw [pm]
    have hz : (allK (ts.map ent) && decide ((ts.map ent).length ≤ sizeLine)) = true := by
      rw [Bool.and_eq_true, decide_eq_true_eq]
      constructor
      · unfold allK
        rw [Bool.or_eq_true]
        left
        rw [List.all_eq_true]
        intro x hx
        obtain ⟨p, _, rfl⟩ := List.mem_map.mp hx
        rfl
      · rw [List.length_map, sizeLine_eq]
        omega
    show (if _ then _ else none) = _
    rw [if_pos hz]
    have := dMerge_ent (ts := ts) (acc := []) (fun t ht => (hs t ht).its) (by intro t ht; cases ht)
    rw [List.map_nil] at this
    rw [this]
    rfl
  exact e_seq (spar1 (cnat1 hm hd)) (tail_ok hs hL hl none src)
end L11
namespace L11
open PySem PySem.Spec L2 Ev PyProof.Rows
noncomputable def rk (n : Nat) (cs : List Nat) (P : Nat → Nat → Bool) : Nat → List Nat → PyData
  | 0, row => .tuple [eyeD cs P row, .tuple []]
  | r + 1, row => .tuple [eyeD cs P row, .tuple (onceL ((List.range n).map fun x => rk n cs P r (row ++ [x])))]
structure Wb (n : Nat) (cs : List Nat) : Prop where
  n1 : 1 ≤ n
  n5 : n ≤ 5
  len : cs.length = n
  col : ∀ c ∈ cs, c < 100
structure Rw' (n : Nat) (row : List Nat) (m : Nat) : Prop where
  mem : ∀ x ∈ row, x < n
  len : row.length ≤ m
theorem Rw'.add {n m x : Nat} {row : List Nat} (h : Rw' n row m) (hx : x < n) : Rw' n (row ++ [x]) (m + 1) := ⟨fun y hy => (List.mem_append.mp hy).elim (h.mem y) fun z => by rw [List.mem_singleton.mp z]; exact hx, by rw [List.length_append]; have := h.len; simp; omega⟩
theorem its_tup {l : List PyData} (h : ∀ d ∈ l, its d = true) : its (.tuple l) = true := by
  show itsA l = true
  rw [itsA_iff]
  exact h
theorem its_pr {p : Nat × Nat} (h1 : p.1 < 100) (h2 : p.2 < 100) : its (pr p) = true := by
  show itsA [Nm p.1, Nm p.2] = true
  simp only [itsA, its_nm h1, its_nm h2, Bool.and_self]
theorem nm_len {x : Nat} (h : x < 100) : (sh (Nm x)).length ≤ 2 := by
  rw [sh_int]
  exact shI_len' (by omega)
theorem prs_sm {m : Nat} (hm : m ≤ 5) (Q : Nat → Nat → Bool) : its (.tuple ((canon m Q).map pr)) = true ∧ (sh (.tuple ((canon m Q).map pr))).length ≤ 310 ∧ (PyData.tuple ((canon m Q).map pr)).depth ≤ 6 := by
  refine ⟨its_tup fun d hd => ?_, ?_, ?_⟩
  · obtain ⟨p, hp, rfl⟩ := List.mem_map.mp hd
    have := canon_mem.mp hp
    exact its_pr (by omega) (by omega)
  · have := tup_len (n := 10) ((canon m Q).map pr) fun d hd => by
      obtain ⟨p, hp, rfl⟩ := List.mem_map.mp hd
      have hc := canon_mem.mp hp
      refine Nat.le_trans (tup_len (n := 2) [Nm p.1, Nm p.2] fun d hd => ?_) (by simp)
      simp only [List.mem_cons, List.not_mem_nil, or_false] at hd
      rcases hd with rfl | rfl
      · exact nm_len (by omega)
      · exact nm_len (by omega)
    rw [List.length_map] at this
    have h1 : (canon m Q).length ≤ 5 * 5 := by
      have := cpre_len m Q m
      rw [cpre_all] at this
      exact Nat.le_trans this (Nat.mul_le_mul hm hm)
    omega
  · have h1 : PyData.depthAll ((canon m Q).map pr) ≤ 4 := depthAll_le fun d hd => by
      obtain ⟨p, _, rfl⟩ := List.mem_map.mp hd
      exact pr_depth p
    simp only [PyData.depth]
    omega
theorem eye_sm {n : Nat} {cs : List Nat} {P : Nat → Nat → Bool} {row : List Nat} (hw : Wb n cs) (hr : Rw' n row 5) : Sm 1000 (eyeD cs P row) := by
  obtain ⟨a1, a2, a3⟩ := prs_sm hr.len (sameQ row)
  obtain ⟨b1, b2, b3⟩ := prs_sm hr.len (ledQ P row)
  have hcol : ∀ x ∈ row, cs.getD x 0 < 100 := fun x hx => hw.col _ (getD_mem (row := cs) (by rw [hw.len]; exact hr.mem x hx))
  have c1 : its (.tuple (row.map fun x => Nm (cs.getD x 0))) = true := its_tup fun d hd => by
    obtain ⟨x, hx, rfl⟩ := List.mem_map.mp hd
    exact its_nm (hcol x hx)
  have c2 : (sh (.tuple (row.map fun x => Nm (cs.getD x 0)))).length ≤ 310 := by
    have := tup_len (n := 2) (row.map fun x => Nm (cs.getD x 0)) fun d hd => by
      obtain ⟨x, hx, rfl⟩ := List.mem_map.mp hd
      exact nm_len (hcol x hx)
    rw [List.length_map] at this
    have := hr.len
    omega
  have c3 : (PyData.tuple (row.map fun x => Nm (cs.getD x 0))).depth ≤ 6 := by
    have h1 : PyData.depthAll (row.map fun x => Nm (cs.getD x 0)) ≤ 0 := depthAll_le fun d hd => by obtain ⟨x, _, rfl⟩ := List.mem_map.mp hd; simp [PyData.depth]
    simp only [PyData.depth]
    omega
  refine ⟨its_tup fun d hd => ?_, ?_, ?_⟩
  · simp only [List.mem_cons, List.not_mem_nil, or_false] at hd
    rcases hd with rfl | rfl | rfl
    · exact c1
    · exact a1
    · exact b1
  · refine Nat.le_trans (tup_len (n := 310) _ fun d hd => ?_) (by simp)
    simp only [List.mem_cons, List.not_mem_nil, or_false] at hd
    rcases hd with rfl | rfl | rfl
    · exact c2
    · exact a2
    · exact b2
  · have h1 : PyData.depthAll [.tuple (row.map fun x => Nm (cs.getD x 0)), .tuple ((canon row.length (sameQ row)).map pr), .tuple ((canon row.length (ledQ P row)).map pr)] ≤ 6 := depthAll_le fun d hd => by
      simp only [List.mem_cons, List.not_mem_nil, or_false] at hd
      rcases hd with rfl | rfl | rfl
      · exact c3
      · exact a3
      · exact b3
    show PyData.depth (.tuple _) ≤ 60
    simp only [PyData.depth] at h1 ⊢
    omega
def LB : Nat → Nat
  | 0 => 2006
  | r + 1 => 2 * ((1000 + (5 * (LB r + 2) + 2)) + 2) + 2
theorem LB_le : ∀ {r}, r ≤ 3 → LB r ≤ 8000000
  | 0, _ => by decide
  | 1, _ => by decide
  | 2, _ => by decide
  | 3, _ => by decide
  | _ + 4, h => by omega
theorem two_sm {L : Nat} {e : PyData} {l : List PyData} {D : Nat} (he : Sm 1000 e) (hed : e.depth ≤ 8) (hl : l.length ≤ 5) (hs : ∀ t ∈ l, its t = true ∧ (sh t).length ≤ L ∧ t.depth ≤ D) (hD : 8 ≤ D) : its (.tuple [e, .tuple l]) = true ∧ (sh (.tuple [e, .tuple l])).length ≤ 2 * ((1000 + (5 * (L + 2) + 2)) + 2) + 2 ∧ (PyData.tuple [e, .tuple l]).depth ≤ D + 2 := by
  have a2 : (sh (.tuple l)).length ≤ 5 * (L + 2) + 2 := by
    have h1 := tup_len (n := L) l fun d hd => (hs d hd).2.1
    have h2 := Nat.mul_le_mul_right (L + 2) hl
    omega
  refine ⟨its_tup fun d hd => ?_, ?_, ?_⟩
  · simp only [List.mem_cons, List.not_mem_nil, or_false] at hd
    rcases hd with rfl | rfl
    · exact he.its
    · exact its_tup fun d hd => (hs d hd).1
  · refine Nat.le_trans (tup_len (n := 1000 + (5 * (L + 2) + 2)) _ fun d hd => ?_) (by simp)
    simp only [List.mem_cons, List.not_mem_nil, or_false] at hd
    rcases hd with rfl | rfl
    · have := he.len; omega
    · omega
  · have h1 : PyData.depthAll l ≤ D := depthAll_le fun d hd => (hs d hd).2.2
    have h2 : PyData.depthAll [e, .tuple l] ≤ D + 1 := depthAll_le fun d hd => by
      simp only [List.mem_cons, List.not_mem_nil, or_false] at hd
      rcases hd with rfl | rfl
      · omega
      · simp only [PyData.depth]; omega
    show PyData.depth (.tuple _) ≤ _
    simp only [PyData.depth] at h2 ⊢
    omega
theorem eye_dep {n : Nat} {cs : List Nat} {P : Nat → Nat → Bool} {row : List Nat} (hw : Wb n cs) (hr : Rw' n row 5) : (eyeD cs P row).depth ≤ 8 := by
  obtain ⟨_, _, a3⟩ := prs_sm hr.len (sameQ row)
  obtain ⟨_, _, b3⟩ := prs_sm hr.len (ledQ P row)
  have c3 : (PyData.tuple (row.map fun x => Nm (cs.getD x 0))).depth ≤ 6 := by
    have h1 : PyData.depthAll (row.map fun x => Nm (cs.getD x 0)) ≤ 0 := depthAll_le fun d hd => by obtain ⟨x, _, rfl⟩ := List.mem_map.mp hd; simp [PyData.depth]
    simp only [PyData.depth]
    omega
  have h1 : PyData.depthAll [.tuple (row.map fun x => Nm (cs.getD x 0)), .tuple ((canon row.length (sameQ row)).map pr), .tuple ((canon row.length (ledQ P row)).map pr)] ≤ 6 := depthAll_le fun d hd => by
    simp only [List.mem_cons, List.not_mem_nil, or_false] at hd
    rcases hd with rfl | rfl | rfl
    · exact c3
    · exact a3
    · exact b3
  show PyData.depth (.tuple _) ≤ 8
  simp only [PyData.depth] at h1 ⊢
  omega
theorem rk_sm' {n : Nat} {cs : List Nat} {P : Nat → Nat → Bool} (hw : Wb n cs) : ∀ (r : Nat) (row : List Nat), Rw' n row (5 - r) → r ≤ 5 → its (rk n cs P r row) = true ∧ (sh (rk n cs P r row)).length ≤ LB r ∧ (rk n cs P r row).depth ≤ 2 * r + 10
  | 0, row, hr, _ => by
    obtain ⟨a, b, c⟩ := two_sm (L := 0) (l := []) (D := 8) (eye_sm (P := P) hw hr) (eye_dep (P := P) hw hr) (by simp) (fun t ht => nomatch ht) (Nat.le_refl _)
    refine ⟨a, ?_, c⟩
    refine Nat.le_trans (tup_len (n := 1000) _ fun d hd => ?_) (by simp [LB])
    simp only [List.mem_cons, List.not_mem_nil, or_false] at hd
    rcases hd with rfl | rfl
    · exact (eye_sm (P := P) hw hr).len
    · rw [sh_tup]; simp [bodyT]
  | r + 1, row, hr, h5 => by
    have hr5 : Rw' n row 5 := ⟨hr.mem, by have := hr.len; omega⟩
    have sub : ∀ t ∈ (List.range n).map fun x => rk n cs P r (row ++ [x]), its t = true ∧ (sh t).length ≤ LB r ∧ t.depth ≤ 2 * r + 10 := fun t ht => by
      obtain ⟨x, hx, rfl⟩ := List.mem_map.mp ht
      have ha := hr.add (List.mem_range.mp hx)
      exact rk_sm' hw r (row ++ [x]) ⟨ha.mem, by have := ha.len; omega⟩ (by omega)
    have hi : ∀ t ∈ (List.range n).map fun x => rk n cs P r (row ++ [x]), its t = true := fun t ht => (sub t ht).1
    exact two_sm (eye_sm (P := P) hw hr5) (eye_dep (P := P) hw hr5) (Nat.le_trans (onceL_len _) (by rw [List.length_map, List.length_range]; exact hw.n5)) (fun t ht => sub t ((onceL_mem hi).mp ht)) (by omega)
theorem rk_sm {n : Nat} {cs : List Nat} {P : Nat → Nat → Bool} (hw : Wb n cs) {r : Nat} {row : List Nat} (hr : Rw' n row (5 - r)) (h5 : r ≤ 5) : Sm (LB r) (rk n cs P r row) := by
  obtain ⟨a, b, c⟩ := rk_sm' (P := P) hw r row hr h5
  exact ⟨a, b, by omega⟩
theorem subs_sm {n : Nat} {cs : List Nat} {P : Nat → Nat → Bool} (hw : Wb n cs) {r : Nat} {row : List Nat} (hr : Rw' n row (5 - (r + 1))) (h5 : r + 1 ≤ 5) : ∀ t ∈ (List.range n).map fun x => rk n cs P r (row ++ [x]), Sm (LB r) t := fun t ht => by
  obtain ⟨x, hx, rfl⟩ := List.mem_map.mp ht
  have ha := hr.add (List.mem_range.mp hx)
  exact rk_sm hw ⟨ha.mem, by have := ha.len; omega⟩ (by omega)
theorem snoc_star (F : Fn) {row : List Nat} (hl : row.length ≤ 100) (x : Nat) (c0 c2 : Option Vx) (src : Option Src) :
    (cStar true [(true, (.e (cVar false 1))), (false, .e (cVar false 3))]) F ⟨[c0, some (.d (Rw row)), c2, some (.d (Nm x))], src⟩ = some (.d (Rw (row ++ [x])), ⟨[c0, some (.d (Rw row)), c2, some (.d (Nm x))], src⟩) := by
  show (if ((row.map Nm ++ [Nm x]).length ≤ sizeLine) then some (Vx.d (.tuple (row.map Nm ++ [Nm x])), _) else none) = _
  rw [if_pos (by rw [List.length_append, List.length_map, sizeLine_eq]; simp; omega)]
  show _ = some (Vx.d (.tuple ((row ++ [x]).map Nm)), _)
  rw [List.map_append]
  rfl
theorem fadd_tup {xs ys : List PyData} (h : xs.length + ys.length ≤ 16777216) : fAdd (.tuple xs) (.tuple ys) = some (.tuple (xs ++ ys)) := by
  show (if _ then _ else _) = _
  rw [if_pos (by rw [sizeLine_eq]; exact h)]
theorem add_one {F : Fn} {s : S} {i : Nat} {c : CE} {row : List Nat} {x : Nat} (hl : row.length ≤ 100) (hi : s.env[i]? = some (some (.d (Rw row)))) (hc : c F s = some (.d (Nm x), s)) :
    cBin fAdd (.e (cVar false i)) (.e (cDisp true [c])) F s = some (.d (Rw (row ++ [x])), s) := by
  refine cbin (x := Rw row) (y := .tuple [Nm x]) (vat hi) (cdisp (b := true) (eargs hc rfl) rfl (by rw [sizeLine_eq]; simp)) ?_
  rw [fadd_tup (by rw [List.length_map]; simp; omega)]
  show some (PyData.tuple (row.map Nm ++ [Nm x])) = some (.tuple ((row ++ [x]).map Nm))
  rw [List.map_append]
  rfl
theorem pcall1 {F : Fn} {s : S} {nm : String} {c : CE} {x y : Vx} (h : c F s = some (x, s)) (h2 : F.call nm [x] s.src = some (y, s.src)) : cCall nm [c] F s = some (y, s) := pcall (eargs h rfl) h2
noncomputable def gR (n : Nat) (cs : List Nat) (P : Nat → Nat → Bool) (r : Nat) (row : List Nat) : PyData → PyData
  | .int i => rk n cs P r (row ++ [i.toNat])
  | _ => .none
theorem gR_map (n : Nat) (cs : List Nat) (P : Nat → Nat → Bool) (r : Nat) (row : List Nat) : ((List.range n).map Nm).map (gR n cs P r row) = (List.range n).map fun x => rk n cs P r (row ++ [x]) := by
  rw [List.map_map]
  refine List.map_congr_left fun x _ => ?_
  show rk n cs P r (row ++ [(x : Int).toNat]) = _
  rw [Int.toNat_natCast]
theorem ic_n {F : Fn} {n : Nat} {cs : List Nat} {P : Nat → Nat → Bool} (hn : n ≤ 5) {r : List (Option Vx)} {src : Option Src} : icRng1 (.e (cBin fIxD (.e (cVar false 0)) (.e (cC (.int 0))))) F ⟨some (.d (wb n cs P)) :: r, src⟩ = some ((List.range n).map Nm, ⟨some (.d (wb n cs P)) :: r, src⟩, []) := ic_rng1 (n := n) (cbin (x := wb n cs P) (y := .int 0) rfl rfl rfl) (by omega)
theorem rank_type_ok {n : Nat} {cs : List Nat} {P : Nat → Nat → Bool} (hw : Wb n cs) : ∀ (r : Nat) (row : List Nat), Rw' n row (5 - r) → r ≤ 3 → ∀ K, r + 2 ≤ K → ∀ src, (fnAt T 200 K).call "rank_type" [.d (wb n cs P), .d (Rw row), .d (Nm r)] src = some (.d (rk n cs P r row), src)
  | 0, row, hr, _, K + 1, hK, src => by
    obtain ⟨k, rfl⟩ : ∃ k, K = k + 1 := ⟨K - 1, by omega⟩
    rw [fnAt_call (d := ⟨3, 4, b_rank_type⟩) rfl]
    refine run_env (n := 3) (nn := 4) (s' := ⟨[some (.d (wb n cs P)), some (.d (Rw row)), some (.d (Nm 0)), none], src⟩) rfl rfl ?_
    show b_rank_type (fnAt T 200 (k + 1)) ⟨[some (.d (wb n cs P)), some (.d (Rw row)), some (.d (Nm 0)), none], src⟩ = _
    unfold b_rank_type
    have he := pcall (F := fnAt T 200 (k + 1)) (s := ⟨[some (.d (wb n cs P)), some (.d (Rw row)), some (.d (Nm 0)), none], src⟩) (cs := [(cVar false 0), (cVar false 1)]) (xs := [.d (wb n cs P), .d (Rw row)]) rfl (row_eye_ok (P := P) k hw.len hr.mem (by have := hr.len; omega) src)
    exact e_ret (e_ifT (s1 := ⟨[some (.d (wb n cs P)), some (.d (Rw row)), some (.d (Nm 0)), none], src⟩) rfl (sret (cdisp (b := true) (eargs he (eargs (x := .d (.tuple [])) (cdisp (b := true) (xs := []) (ds := []) rfl rfl (by rw [sizeLine_eq]; simp)) rfl)) rfl (by rw [sizeLine_eq]; simp))))
  | r + 1, row, hr, h3, K + 1, hK, src => by
    obtain ⟨k, rfl⟩ : ∃ k, K = k + 1 := ⟨K - 1, by omega⟩
    rw [fnAt_call (d := ⟨3, 4, b_rank_type⟩) rfl]
    refine run_env (n := 3) (nn := 4) (s' := ⟨[some (.d (wb n cs P)), some (.d (Rw row)), some (.d (Nm (r + 1))), none], src⟩) rfl rfl ?_
    show b_rank_type (fnAt T 200 (k + 1)) ⟨[some (.d (wb n cs P)), some (.d (Rw row)), some (.d (Nm (r + 1))), none], src⟩ = _
    unfold b_rank_type
    have hl := hr.len
    have n5 := hw.n5
    have he := pcall (F := fnAt T 200 (k + 1)) (s := ⟨[some (.d (wb n cs P)), some (.d (Rw row)), some (.d (Nm (r + 1))), none], src⟩) (cs := [(cVar false 0), (cVar false 1)]) (xs := [.d (wb n cs P), .d (Rw row)]) rfl (row_eye_ok (P := P) k hw.len hr.mem (by omega) src)
    have hm := clc_map (own := [3]) (as := aName 3) (ic := (icRng1 (.e (cBin fIxD (.e (cVar false 0)) (.e (cC (.int 0))))))) (c := (cCall "rank_type" [(cVar false 0), (cStar true [(true, (.e (cVar false 1))), (false, .e (cVar false 3))]), (cBin fSub (.e (cVar false 2)) (.e (cC (.int 1))))])) (F := fnAt T 200 (k + 1)) (ds := (List.range n).map Nm) (E1 := [some (.d (wb n cs P)), some (.d (Rw row)), some (.d (Nm (r + 1))), none]) (src := src) (s := ⟨[some (.d (wb n cs P)), some (.d (Rw row)), some (.d (Nm (r + 1))), none], src⟩) (ic_n n5) (by rw [List.length_map, List.length_range, sizeLine_eq]; omega) (gR n cs P r row) (by
      intro d hd
      obtain ⟨x, hx, rfl⟩ := List.mem_map.mp hd
      rw [List.mem_range] at hx
      refine ⟨⟨[some (.d (wb n cs P)), some (.d (Rw row)), some (.d (Nm (r + 1))), some (.d (Nm x))], src⟩, [some (.d (wb n cs P)), some (.d (Rw row)), some (.d (Nm (r + 1))), some (.d (Nm x))], rfl, ?_, rfl⟩
      show _ = some (Vx.d (rk n cs P r (row ++ [(x : Int).toNat])), _)
      rw [Int.toNat_natCast]
      have ha := hr.add hx
      refine pcall (s := ⟨[some (.d (wb n cs P)), some (.d (Rw row)), some (.d (Nm (r + 1))), some (.d (Nm x))], src⟩) (xs := [.d (wb n cs P), .d (Rw (row ++ [x])), .d (Nm r)]) (eargs (x := .d (wb n cs P)) rfl (eargs (snoc_star _ (by omega) x _ _ src) (eargs (x := .d (Nm r)) ?_ rfl))) (rank_type_ok hw r (row ++ [x]) ⟨ha.mem, by have := ha.len; omega⟩ (by omega) (k + 1) (by omega) src)
      show some (Vx.d (.int (((r + 1 : Nat) : Int) - 1)), _) = _
      rw [show ((r + 1 : Nat) : Int) - 1 = (r : Int) by omega]
      rfl)
    rw [gR_map] at hm
    have ho := pcall1 (F := fnAt T 200 (k + 1)) (s := ⟨[some (.d (wb n cs P)), some (.d (Rw row)), some (.d (Nm (r + 1))), none], src⟩) hm (each_once_ok k (subs_sm (P := P) hw hr (by omega)) (LB_le (by omega)) (by rw [List.length_map, List.length_range]; omega) src)
    refine e_seq (e_ifF (s1 := ⟨[some (.d (wb n cs P)), some (.d (Rw row)), some (.d (Nm (r + 1))), none], src⟩) ?_ rfl) (sret (cdisp (b := true) (eargs he (eargs ho rfl)) rfl (by rw [sizeLine_eq]; simp)))
    refine (bof' (cbin rfl rfl (feq_int _ _))).trans ?_
    rw [show (((r + 1 : Nat) : Int) == 0) = false from beq_false_of_ne (by omega)]
  | _, _, _, _, 0, h, _ => by omega
theorem law_type_ok {n : Nat} {cs : List Nat} {P : Nat → Nat → Bool} (hw : Wb n cs) : ∀ (r : Nat) (row : List Nat), Rw' n row (5 - r) → r ≤ 3 → ∀ K, r + 2 ≤ K → ∀ src, (fnAt T 200 K).call "_law_type" [.d (wb n cs P), .d (Rw row), .d (Nm r)] src = some (.d (rk n cs P r row), src)
  | 0, row, hr, _, K + 1, hK, src => by
    obtain ⟨k, rfl⟩ : ∃ k, K = k + 1 := ⟨K - 1, by omega⟩
    rw [fnAt_call (d := ⟨3, 4, b__law_type⟩) rfl]
    refine run_env (n := 3) (nn := 4) (s' := ⟨[some (.d (wb n cs P)), some (.d (Rw row)), some (.d (Nm 0)), none], src⟩) rfl rfl ?_
    show b__law_type (fnAt T 200 (k + 1)) ⟨[some (.d (wb n cs P)), some (.d (Rw row)), some (.d (Nm 0)), none], src⟩ = _
    unfold b__law_type
    have he := pcall (F := fnAt T 200 (k + 1)) (s := ⟨[some (.d (wb n cs P)), some (.d (Rw row)), some (.d (Nm 0)), none], src⟩) (cs := [(cVar false 0), (cVar false 1)]) (xs := [.d (wb n cs P), .d (Rw row)]) rfl (law_eye_ok (P := P) k hw.len hr.mem (by have := hr.len; omega) src)
    exact e_ret (e_ifT (s1 := ⟨[some (.d (wb n cs P)), some (.d (Rw row)), some (.d (Nm 0)), none], src⟩) rfl (sret (cdisp (b := true) (eargs he (eargs (x := .d (.tuple [])) (cdisp (b := true) (xs := []) (ds := []) rfl rfl (by rw [sizeLine_eq]; simp)) rfl)) rfl (by rw [sizeLine_eq]; simp))))
  | r + 1, row, hr, h3, K + 1, hK, src => by
    obtain ⟨k, rfl⟩ : ∃ k, K = k + 1 := ⟨K - 1, by omega⟩
    rw [fnAt_call (d := ⟨3, 4, b__law_type⟩) rfl]
    refine run_env (n := 3) (nn := 4) (s' := ⟨[some (.d (wb n cs P)), some (.d (Rw row)), some (.d (Nm (r + 1))), none], src⟩) rfl rfl ?_
    show b__law_type (fnAt T 200 (k + 1)) ⟨[some (.d (wb n cs P)), some (.d (Rw row)), some (.d (Nm (r + 1))), none], src⟩ = _
    unfold b__law_type
    have hl := hr.len
    have n5 := hw.n5
    have he := pcall (F := fnAt T 200 (k + 1)) (s := ⟨[some (.d (wb n cs P)), some (.d (Rw row)), some (.d (Nm (r + 1))), none], src⟩) (cs := [(cVar false 0), (cVar false 1)]) (xs := [.d (wb n cs P), .d (Rw row)]) rfl (law_eye_ok (P := P) k hw.len hr.mem (by omega) src)
    have hm := clc_map (own := [3]) (as := aName 3) (ic := (icRng1 (.e (cBin fIxD (.e (cVar false 0)) (.e (cC (.int 0))))))) (c := (cCall "_law_type" [(cVar false 0), (cBin fAdd (.e (cVar false 1)) (.e (cDisp true [(cVar false 3)]))), (cBin fSub (.e (cVar false 2)) (.e (cC (.int 1))))])) (F := fnAt T 200 (k + 1)) (ds := (List.range n).map Nm) (E1 := [some (.d (wb n cs P)), some (.d (Rw row)), some (.d (Nm (r + 1))), none]) (src := src) (s := ⟨[some (.d (wb n cs P)), some (.d (Rw row)), some (.d (Nm (r + 1))), none], src⟩) (ic_n n5) (by rw [List.length_map, List.length_range, sizeLine_eq]; omega) (gR n cs P r row) (by
      intro d hd
      obtain ⟨x, hx, rfl⟩ := List.mem_map.mp hd
      rw [List.mem_range] at hx
      refine ⟨⟨[some (.d (wb n cs P)), some (.d (Rw row)), some (.d (Nm (r + 1))), some (.d (Nm x))], src⟩, [some (.d (wb n cs P)), some (.d (Rw row)), some (.d (Nm (r + 1))), some (.d (Nm x))], rfl, ?_, rfl⟩
      show _ = some (Vx.d (rk n cs P r (row ++ [(x : Int).toNat])), _)
      rw [Int.toNat_natCast]
      have ha := hr.add hx
      refine pcall (s := ⟨[some (.d (wb n cs P)), some (.d (Rw row)), some (.d (Nm (r + 1))), some (.d (Nm x))], src⟩) (xs := [.d (wb n cs P), .d (Rw (row ++ [x])), .d (Nm r)]) (eargs (x := .d (wb n cs P)) rfl (eargs (add_one (F := fnAt T 200 (k + 1)) (s := ⟨[some (.d (wb n cs P)), some (.d (Rw row)), some (.d (Nm (r + 1))), some (.d (Nm x))], src⟩) (i := 1) (c := cVar false 3) (row := row) (x := x) (by omega) rfl rfl) (eargs (x := .d (Nm r)) ?_ rfl))) (law_type_ok hw r (row ++ [x]) ⟨ha.mem, by have := ha.len; omega⟩ (by omega) (k + 1) (by omega) src)
      show some (Vx.d (.int (((r + 1 : Nat) : Int) - 1)), _) = _
      rw [show ((r + 1 : Nat) : Int) - 1 = (r : Int) by omega]
      rfl)
    rw [gR_map] at hm
    have ho := pcall1 (F := fnAt T 200 (k + 1)) (s := ⟨[some (.d (wb n cs P)), some (.d (Rw row)), some (.d (Nm (r + 1))), none], src⟩) hm (law_once_ok k (subs_sm (P := P) hw hr (by omega)) (LB_le (by omega)) (by rw [List.length_map, List.length_range]; omega) src)
    refine e_seq (e_ifF (s1 := ⟨[some (.d (wb n cs P)), some (.d (Rw row)), some (.d (Nm (r + 1))), none], src⟩) ?_ rfl) (sret (cdisp (b := true) (eargs he (eargs ho rfl)) rfl (by rw [sizeLine_eq]; simp)))
    refine (bof' (cbin rfl rfl (feq_int _ _))).trans ?_
    rw [show (((r + 1 : Nat) : Int) == 0) = false from beq_false_of_ne (by omega)]
  | _, _, _, _, 0, h, _ => by omega
end L11
namespace L11
open PySem PySem.Spec L2 Ev PyProof.Rows
open scoped Classical
theorem feq_itr {d e : PyData} (hd : itr d = true) (he : itr e = true) (h1 : d.depth ≤ 64) (h2 : e.depth ≤ 64) : fEq d e = some (.bool (decide (d = e))) := by
  unfold fEq
  rw [shp_itr hd h1, shp_itr he h2, Bool.and_self, if_pos rfl]
  by_cases h : d = e
  · rw [decide_eq_true h, (eqv_itr d e hd he).mpr h]
  · rw [decide_eq_false h]
    cases q : PyData.eqv d e with
    | false => rfl
    | true => exact absurd ((eqv_itr d e hd he).mp q) h
theorem fne_itr {d e : PyData} (hd : itr d = true) (he : itr e = true) (h1 : d.depth ≤ 64) (h2 : e.depth ≤ 64) : fNe d e = some (.bool (!decide (d = e))) := by
  have := feq_itr hd he h1 h2
  unfold fEq at this
  unfold fNe
  rw [shp_itr hd h1, shp_itr he h2, Bool.and_self, if_pos rfl] at this ⊢
  injection this with this
  injection this with this
  rw [this]
theorem shp_shown {d : PyData} (hd : its d = true) (hl : (sh d).length ≤ 8000000) : shp (.str d.shown) = true := by
  have hk : PyData.strOk d.shown = true := by
    unfold PyData.strOk
    rw [Array.all_eq_true']
    intro x hx
    have := sh_c d hd x (by unfold sh; simpa using hx)
    simpa using (by omega : x < 1114112)
  have h2 : d.shown.length ≤ 16777216 := by rw [shown_len]; omega
  simp [shp, SeqAt.shaped, PyData.canLay0, PyData.depth, hk, h2, sizeLine_eq]
theorem feq_shown {d e : PyData} (hd : its d = true) (he : its e = true) (h1 : (sh d).length ≤ 8000000) (h2 : (sh e).length ≤ 8000000) : fEq (.str d.shown) (.str e.shown) = some (.bool (decide (d = e))) := by
  unfold fEq
  rw [shp_shown hd h1, shp_shown he h2, Bool.and_self, if_pos rfl]
  by_cases h : d = e
  · subst h
    rw [decide_eq_true rfl]
    simp [PyData.eqv]
  · rw [decide_eq_false h]
    have : d.shown ≠ e.shown := fun z => h (shown_inj hd he z)
    simp [PyData.eqv, this]
theorem rk_inj {n n' : Nat} {cs cs' : List Nat} {P P' : Nat → Nat → Bool} {r : Nat} {a b : List Nat} : rk n cs P (r + 1) a = rk n' cs' P' (r + 1) b ↔ eyeD cs P a = eyeD cs' P' b ∧ onceL ((List.range n).map fun x => rk n cs P r (a ++ [x])) = onceL ((List.range n').map fun x => rk n' cs' P' r (b ++ [x])) := by
  constructor
  · intro h
    unfold rk at h
    injection h with h
    injection h with h1 h
    injection h with h2 h
    injection h2 with h2
    exact ⟨h1, h2⟩
  · rintro ⟨h1, h2⟩
    unfold rk
    rw [h1, h2]
section
variable {n : Nat} {cs : List Nat} {P : Nat → Nat → Bool}
theorem rk_nonempty (hw : Wb n cs) {r : Nat} {row : List Nat} (hr : Rw' n row (5 - (r + 1))) (h5 : r + 1 ≤ 5) : ∃ x, x < n ∧ ∃ l, onceL ((List.range n).map fun x => rk n cs P r (row ++ [x])) = rk n cs P r (row ++ [x]) :: l := by
  have hi : ∀ t ∈ (List.range n).map fun x => rk n cs P r (row ++ [x]), its t = true := fun t ht => (subs_sm (P := P) hw hr h5 t ht).its
  cases hq : onceL ((List.range n).map fun x => rk n cs P r (row ++ [x])) with
  | nil =>
    have h0 : rk n cs P r (row ++ [0]) ∈ (List.range n).map fun x => rk n cs P r (row ++ [x]) := List.mem_map.mpr ⟨0, List.mem_range.mpr hw.n1, rfl⟩
    have := (onceL_mem hi).mpr h0
    rw [hq] at this
    cases this
  | cons t l =>
    have ht : t ∈ onceL ((List.range n).map fun x => rk n cs P r (row ++ [x])) := by rw [hq]; exact List.mem_cons_self
    obtain ⟨x, hx, rfl⟩ := List.mem_map.mp ((onceL_mem hi).mp ht)
    exact ⟨x, List.mem_range.mp hx, l, rfl⟩
theorem ix_tup0 (x : PyData) (l : List PyData) : fIxD (.tuple (x :: l)) (.int 0) = some x := Ev.atI_nat (l := x :: l) (i := 0) rfl
theorem ix_tup1 (x y : PyData) (l : List PyData) : fIxD (.tuple (x :: y :: l)) (.int 1) = some y := Ev.atI_nat (l := x :: y :: l) (i := 1) rfl
theorem depth_while (F : Fn) (src : Option Src) (hw : Wb n cs) : ∀ (r : Nat) (row : List Nat) (m fuel : Nat), Rw' n row (5 - r) → r ≤ 4 → r < fuel → ∃ t, whileN fuel (bOf (cBin fNe (.e (cBin fIxD (.e (cVar false 0)) (.e (cC (.int 1))))) (.e (cDisp true [])))) (sPar [1, 0] [(cBin fAdd (.e (cVar false 1)) (.e (cC (.int 1)))), (cBin fIxD (.e (cBin fIxD (.e (cVar false 0)) (.e (cC (.int 1))))) (.e (cC (.int 0))))]) F ⟨[some (.d (rk n cs P r row)), some (.d (Nm m))], src⟩ = some (.nx, ⟨[t, some (.d (Nm (m + r)))], src⟩)
  | 0, row, m, fuel + 1, hr, _, _ => by
    refine ⟨some (.d (rk n cs P 0 row)), e_whF ?_⟩
    have h1 : cBin fIxD (.e (cVar false 0)) (.e (cC (.int 1))) F ⟨[some (.d (rk n cs P 0 row)), some (.d (Nm m))], src⟩ = some (.d (.tuple []), ⟨[some (.d (rk n cs P 0 row)), some (.d (Nm m))], src⟩) := cbin (x := rk n cs P 0 row) (y := .int 1) rfl rfl (ix_tup1 _ _ _)
    exact bof' (cbin h1 (cdisp (b := true) (xs := []) (ds := []) rfl rfl (by rw [sizeLine_eq]; simp)) rfl)
  | r + 1, row, m, fuel + 1, hr, h4, hf => by
    obtain ⟨x, hx, l, hl⟩ := rk_nonempty (P := P) hw hr (by omega)
    have ha := hr.add hx
    obtain ⟨t, ih⟩ := depth_while F src hw r (row ++ [x]) (m + 1) fuel ⟨ha.mem, by have := ha.len; omega⟩ (by omega) (by omega)
    refine ⟨t, ?_⟩
    have e : rk n cs P (r + 1) row = .tuple [eyeD cs P row, .tuple (rk n cs P r (row ++ [x]) :: l)] := by
      rw [← hl]
      rfl
    obtain ⟨s, hs⟩ : ∃ s, s = (⟨[some (.d (rk n cs P (r + 1) row)), some (.d (Nm m))], src⟩ : S) := ⟨_, rfl⟩
    have h1 : cBin fIxD (.e (cVar false 0)) (.e (cC (.int 1))) F s = some (.d (.tuple (rk n cs P r (row ++ [x]) :: l)), s) := by
      rw [hs]
      refine cbin (x := rk n cs P (r + 1) row) (y := .int 1) rfl rfl ?_
      rw [e]
      exact ix_tup1 _ _ _
    have hsm := rk_sm (P := P) hw hr (by omega)
    have hit : itr (.tuple (rk n cs P r (row ++ [x]) :: l)) = true ∧ (PyData.tuple (rk n cs P r (row ++ [x]) :: l)).depth ≤ 64 := by
      have h2 := hsm.its
      have h3 := hsm.dep
      rw [e] at h2 h3
      have h2' : itsA [eyeD cs P row, .tuple (rk n cs P r (row ++ [x]) :: l)] = true := h2
      rw [itsA_iff] at h2'
      refine ⟨its_itr _ (h2' _ (by simp)), ?_⟩
      simp only [PyData.depth, PyData.depthAll] at h3 ⊢
      omega
    have hne : fNe (.tuple (rk n cs P r (row ++ [x]) :: l)) (.tuple []) = some (.bool true) := by
      rw [fne_itr hit.1 rfl hit.2 (by simp [PyData.depth, PyData.depthAll])]
      simp
    have hc := bof' (cbin h1 (cdisp (F := F) (s := s) (s1 := s) (cs := []) (b := true) (xs := []) (ds := []) rfl rfl (by rw [sizeLine_eq]; simp)) hne)
    have h0 : cBin fIxD (.e (cBin fIxD (.e (cVar false 0)) (.e (cC (.int 1))))) (.e (cC (.int 0))) F s = some (.d (rk n cs P r (row ++ [x])), s) := cbin h1 rfl (ix_tup0 _ _)
    have ha1 : cBin fAdd (.e (cVar false 1)) (.e (cC (.int 1))) F s = some (.d (Nm (m + 1)), s) := by rw [hs]; rfl
    have hb := spar2 (i := 1) (j := 0) ha1 h0
    rw [← hs]
    rw [e_whT hc hb]
    have e2 : ({ s with env := (s.env.set 1 (some (.d (Nm (m + 1))))).set 0 (some (.d (rk n cs P r (row ++ [x])))) } : S) = ⟨[some (.d (rk n cs P r (row ++ [x]))), some (.d (Nm (m + 1)))], src⟩ := by rw [hs]; rfl
    rw [e2, ih, show m + 1 + r = m + (r + 1) by omega]
  | _, _, _, 0, _, _, h => by omega
theorem depth_ok (k : Nat) (hw : Wb n cs) {r : Nat} {row : List Nat} (hr : Rw' n row (5 - r)) (h4 : r ≤ 4) (src : Option Src) : (fnAt T 200 (k + 1)).call "depth_of" [.d (rk n cs P r row)] src = some (.d (Nm r), src) := by
  rw [fnAt_call (d := ⟨1, 2, b_depth_of⟩) rfl]
  have hf : (fnAt T 200 k).fuel = 200 := by cases k <;> rfl
  obtain ⟨t, h⟩ := depth_while (P := P) (fnAt T 200 k) src hw r row 0 (fnAt T 200 k).fuel hr h4 (by rw [hf]; omega)
  rw [Nat.zero_add] at h
  refine run_env (n := 1) (nn := 2) (s' := ⟨[t, some (.d (Nm r))], src⟩) rfl rfl ?_
  show b_depth_of (fnAt T 200 k) ⟨[some (.d (rk n cs P r row)), none], src⟩ = _
  unfold b_depth_of
  exact e_seq (spar1 (x := .d (.int 0)) rfl) (e_seq (show sWhile _ _ _ _ = _ from h) (sret rfl))
theorem lowered_ok (hw : Wb n cs) : ∀ (r R : Nat) (row : List Nat), Rw' n row (5 - R) → r ≤ R → R ≤ 3 → ∀ K, r + 2 ≤ K → ∀ src, (fnAt T 200 K).call "lowered_to" [.d (rk n cs P R row), .d (Nm r)] src = some (.d (rk n cs P r row), src)
  | 0, R, row, hr, _, _, K + 1, _, src => by
    rw [fnAt_call (d := ⟨2, 3, b_lowered_to⟩) rfl]
    refine run_env (n := 2) (nn := 3) (s' := ⟨[some (.d (rk n cs P R row)), some (.d (Nm 0)), none], src⟩) rfl rfl ?_
    show b_lowered_to (fnAt T 200 K) ⟨[some (.d (rk n cs P R row)), some (.d (Nm 0)), none], src⟩ = _
    unfold b_lowered_to
    have h0 : fIxD (rk n cs P R row) (.int 0) = some (eyeD cs P row) := by
      cases R with
      | zero => exact ix_tup0 _ _
      | succ R => exact ix_tup0 _ _
    exact e_ret (e_ifT (s1 := ⟨[some (.d (rk n cs P R row)), some (.d (Nm 0)), none], src⟩) rfl (sret (cdisp (b := true) (eargs (cbin (x := rk n cs P R row) (y := .int 0) rfl rfl h0) (eargs (x := .d (.tuple [])) (cdisp (b := true) (xs := []) (ds := []) rfl rfl (by rw [sizeLine_eq]; simp)) rfl)) rfl (by rw [sizeLine_eq]; simp))))
  | r + 1, 0, _, _, h, _, _, _, _ => by omega
  | r + 1, R + 1, row, hr, hrR, h3, K + 1, hK, src => by
    obtain ⟨k, rfl⟩ : ∃ k, K = k + 1 := ⟨K - 1, by omega⟩
    rw [fnAt_call (d := ⟨2, 3, b_lowered_to⟩) rfl]
    have ih := fun x (hx : x < n) => lowered_ok hw r R (row ++ [x]) ⟨(hr.add hx).mem, by have := (hr.add hx).len; omega⟩ (by omega) (by omega) (k + 1) (by omega) src
    have wd : ∀ x y, x < n → y < n → rk n cs P R (row ++ [x]) = rk n cs P R (row ++ [y]) → rk n cs P r (row ++ [x]) = rk n cs P r (row ++ [y]) := fun x y hx hy e => by
      have h1 := ih x hx
      rw [e, ih y hy] at h1
      injection h1 with h1
      injection h1 with h1
      injection h1 with h1
      exact h1.symm
    have hi : ∀ t ∈ (List.range n).map fun x => rk n cs P R (row ++ [x]), its t = true := fun t ht => (subs_sm (P := P) hw hr (by omega) t ht).its
    have hr' : Rw' n row (5 - (r + 1)) := ⟨hr.mem, by have := hr.len; omega⟩
    have hex : ∀ t, t ∈ onceL ((List.range n).map fun x => rk n cs P R (row ++ [x])) → ∃ x, t = rk n cs P R (row ++ [x]) ∧ x < n := fun t ht => by
      obtain ⟨x, hx, rfl⟩ := List.mem_map.mp ((onceL_mem hi).mp ht)
      exact ⟨x, rfl, List.mem_range.mp hx⟩
    let f : PyData → PyData := fun t => if h : ∃ x, t = rk n cs P R (row ++ [x]) ∧ x < n then rk n cs P r (row ++ [Classical.choose h]) else .none
    have hf : ∀ x, x < n → f (rk n cs P R (row ++ [x])) = rk n cs P r (row ++ [x]) := fun x hx => by
      have h : ∃ y, rk n cs P R (row ++ [x]) = rk n cs P R (row ++ [y]) ∧ y < n := ⟨x, rfl, hx⟩
      have e : f (rk n cs P R (row ++ [x])) = rk n cs P r (row ++ [Classical.choose h]) := dif_pos h
      rw [e]
      exact (wd _ _ hx (Classical.choose_spec h).2 (Classical.choose_spec h).1).symm
    have n5 := hw.n5
    have hol : (onceL ((List.range n).map fun x => rk n cs P R (row ++ [x]))).length ≤ 5 := Nat.le_trans (onceL_len _) (by rw [List.length_map, List.length_range]; omega)
    have hm := clc_map (own := [2]) (as := aName 2) (ic := (icAny (.e (cBin fIxD (.e (cVar false 0)) (.e (cC (.int 1))))))) (c := (cCall "lowered_to" [(cVar false 2), (cBin fSub (.e (cVar false 1)) (.e (cC (.int 1))))])) (F := fnAt T 200 (k + 1)) (ds := onceL ((List.range n).map fun x => rk n cs P R (row ++ [x]))) (E1 := [some (.d (rk n cs P (R + 1) row)), some (.d (Nm (r + 1))), none]) (src := src) (s := ⟨[some (.d (rk n cs P (R + 1) row)), some (.d (Nm (r + 1))), none], src⟩) rfl (by rw [sizeLine_eq]; omega) f (by
      intro t ht
      obtain ⟨x, rfl, hx⟩ := hex t ht
      rw [hf x hx]
      refine ⟨⟨[some (.d (rk n cs P (R + 1) row)), some (.d (Nm (r + 1))), some (.d (rk n cs P R (row ++ [x])))], src⟩, [some (.d (rk n cs P (R + 1) row)), some (.d (Nm (r + 1))), some (.d (rk n cs P R (row ++ [x])))], rfl, ?_, rfl⟩
      refine pcall (s := ⟨[some (.d (rk n cs P (R + 1) row)), some (.d (Nm (r + 1))), some (.d (rk n cs P R (row ++ [x])))], src⟩) (xs := [.d (rk n cs P R (row ++ [x])), .d (Nm r)]) (eargs (x := .d (rk n cs P R (row ++ [x]))) rfl (eargs (x := .d (Nm r)) ?_ rfl)) (ih x hx)
      show some (Vx.d (.int (((r + 1 : Nat) : Int) - 1)), _) = _
      rw [show ((r + 1 : Nat) : Int) - 1 = (r : Int) by omega]
      rfl)
    have hmem : ∀ y, y ∈ (onceL ((List.range n).map fun x => rk n cs P R (row ++ [x]))).map f ↔ y ∈ (List.range n).map fun x => rk n cs P r (row ++ [x]) := fun y => by
      rw [List.mem_map, List.mem_map]
      constructor
      · rintro ⟨t, ht, rfl⟩
        obtain ⟨x, rfl, hx⟩ := hex t ht
        exact ⟨x, List.mem_range.mpr hx, (hf x hx).symm⟩
      · rintro ⟨x, hx, rfl⟩
        exact ⟨_, (onceL_mem hi).mpr (List.mem_map.mpr ⟨x, hx, rfl⟩), hf x (List.mem_range.mp hx)⟩
    have hsm : ∀ t ∈ (onceL ((List.range n).map fun x => rk n cs P R (row ++ [x]))).map f, Sm (LB r) t := fun t ht => subs_sm (P := P) hw hr' (by omega) t ((hmem t).mp ht)
    have ho := pcall1 (F := fnAt T 200 (k + 1)) (s := ⟨[some (.d (rk n cs P (R + 1) row)), some (.d (Nm (r + 1))), none], src⟩) hm (each_once_ok k hsm (LB_le (by omega)) (by rw [List.length_map]; omega) src)
    rw [onceL_eq (fun t ht => (hsm t ht).its) hmem] at ho
    refine run_env (n := 2) (nn := 3) (s' := ⟨[some (.d (rk n cs P (R + 1) row)), some (.d (Nm (r + 1))), none], src⟩) rfl rfl ?_
    show b_lowered_to (fnAt T 200 (k + 1)) ⟨[some (.d (rk n cs P (R + 1) row)), some (.d (Nm (r + 1))), none], src⟩ = _
    unfold b_lowered_to
    refine e_seq (e_ifF (s1 := ⟨[some (.d (rk n cs P (R + 1) row)), some (.d (Nm (r + 1))), none], src⟩) ?_ rfl) (sret (cdisp (b := true) (eargs (cbin (x := rk n cs P (R + 1) row) (y := .int 0) rfl rfl (ix_tup0 _ _)) (eargs ho rfl)) rfl (by rw [sizeLine_eq]; simp)))
    refine (bof' (cbin rfl rfl (feq_int _ _))).trans ?_
    rw [show (((r + 1 : Nat) : Int) == 0) = false from beq_false_of_ne (by omega)]
  | _, _, _, _, _, _, 0, h, _ => by omega
theorem lowered_type_ok (k : Nat) (hw : Wb n cs) {r : Nat} {row : List Nat} (hr : Rw' n row (5 - (r + 1))) (h3 : r + 1 ≤ 3) (hk : r + 2 ≤ k) (src : Option Src) : (fnAt T 200 (k + 1)).call "lowered_type" [.d (rk n cs P (r + 1) row)] src = some (.d (rk n cs P r row), src) := by
  obtain ⟨k', rfl⟩ : ∃ k', k = k' + 1 := ⟨k - 1, by omega⟩
  rw [fnAt_call (d := ⟨1, 1, b_lowered_type⟩) rfl]
  refine run_env (n := 1) (nn := 1) (s' := ⟨[some (.d (rk n cs P (r + 1) row))], src⟩) rfl rfl ?_
  show b_lowered_type (fnAt T 200 (k' + 1)) ⟨[some (.d (rk n cs P (r + 1) row))], src⟩ = _
  unfold b_lowered_type
  have hd := pcall1 (F := fnAt T 200 (k' + 1)) (s := ⟨[some (.d (rk n cs P (r + 1) row))], src⟩) (c := cVar false 0) rfl (depth_ok (P := P) k' hw hr (by omega) src)
  have hs : cBin fSub (.e (cCall "depth_of" [(cVar false 0)])) (.e (cC (.int 1))) (fnAt T 200 (k' + 1)) ⟨[some (.d (rk n cs P (r + 1) row))], src⟩ = some (.d (Nm r), ⟨[some (.d (rk n cs P (r + 1) row))], src⟩) := by
    refine cbin hd rfl ?_
    show some (PyData.int (((r + 1 : Nat) : Int) - 1)) = _
    rw [show ((r + 1 : Nat) : Int) - 1 = (r : Int) by omega]
  exact sret (pcall (s := ⟨[some (.d (rk n cs P (r + 1) row))], src⟩) (eargs (x := .d (rk n cs P (r + 1) row)) rfl (eargs hs rfl)) (lowered_ok hw r (r + 1) row hr (by omega) h3 (k' + 1) (by omega) src))
end
theorem are_kept_ok (k : Nat) {n n' : Nat} {cs cs' : List Nat} {P P' : Nat → Nat → Bool} (hw : Wb n cs) (hw' : Wb n' cs') {r : Nat} {a b : List Nat} (ha : Rw' n a (5 - r)) (hb : Rw' n' b (5 - r)) (h3 : r ≤ 3) (hk : r + 2 ≤ k) (src : Option Src) :
    (fnAt T 200 (k + 1)).call "are_kept" [.d (wb n cs P), .d (Rw a), .d (wb n' cs' P'), .d (Rw b), .d (Nm r)] src = some (.d (.bool (decide (rk n cs P r a = rk n' cs' P' r b))), src) := by
  rw [fnAt_call (d := ⟨5, 5, b_are_kept⟩) rfl]
  refine run_env (n := 5) (nn := 5) (s' := ⟨[some (.d (wb n cs P)), some (.d (Rw a)), some (.d (wb n' cs' P')), some (.d (Rw b)), some (.d (Nm r))], src⟩) rfl rfl ?_
  show b_are_kept (fnAt T 200 k) ⟨[some (.d (wb n cs P)), some (.d (Rw a)), some (.d (wb n' cs' P')), some (.d (Rw b)), some (.d (Nm r))], src⟩ = _
  unfold b_are_kept
  have s1 := rk_sm (P := P) hw ha (by omega)
  have s2 := rk_sm (P := P') hw' hb (by omega)
  have l := LB_le (r := r) h3
  have c1 := pcall (F := fnAt T 200 k) (s := ⟨[some (.d (wb n cs P)), some (.d (Rw a)), some (.d (wb n' cs' P')), some (.d (Rw b)), some (.d (Nm r))], src⟩) (cs := [(cVar false 0), (cVar false 1), (cVar false 4)]) (xs := [.d (wb n cs P), .d (Rw a), .d (Nm r)]) rfl (rank_type_ok (P := P) hw r a ha h3 k hk src)
  have c2 := pcall (F := fnAt T 200 k) (s := ⟨[some (.d (wb n cs P)), some (.d (Rw a)), some (.d (wb n' cs' P')), some (.d (Rw b)), some (.d (Nm r))], src⟩) (cs := [(cVar false 2), (cVar false 3), (cVar false 4)]) (xs := [.d (wb n' cs' P'), .d (Rw b), .d (Nm r)]) rfl (rank_type_ok (P := P') hw' r b hb h3 k hk src)
  exact sret (cbin (cnat1 c1 (s1.repr l)) (cnat1 c2 (s2.repr l)) (feq_shown s1.its s2.its (Nat.le_trans s1.len l) (Nat.le_trans s2.len l)))
end L11
namespace L11
open PySem PySem.Spec L2 Ev PyProof.Rows
open scoped Classical
/-! ### plain: the same for the eye -/
theorem canon_inj {n : Nat} {P Q : Nat → Nat → Bool} (h : canon n P = canon n Q) {a b : Nat} (ha : a < n) (hb : b < n) : P a b = Q a b := by
  rw [Bool.eq_iff_iff]
  constructor
  · intro z
    have : (a, b) ∈ canon n P := canon_mem.mpr ⟨ha, hb, z⟩
    rw [h] at this
    exact (canon_mem.mp this).2.2
  · intro z
    have : (a, b) ∈ canon n Q := canon_mem.mpr ⟨ha, hb, z⟩
    rw [← h] at this
    exact (canon_mem.mp this).2.2
theorem canon_congr {n : Nat} {P Q : Nat → Nat → Bool} (h : ∀ a b, a < n → b < n → P a b = Q a b) : canon n P = canon n Q := by
  have key : ∀ l : List Nat, (∀ a ∈ l, a < n) → (l.flatMap fun a => ((List.range n).filter (P a)).map fun b => (a, b)) = l.flatMap fun a => ((List.range n).filter (Q a)).map fun b => (a, b) := by
    intro l
    induction l with
    | nil => intro _; rfl
    | cons a l ih =>
      intro hl
      rw [List.flatMap_cons, List.flatMap_cons, ih fun x hx => hl x (List.mem_cons_of_mem _ hx)]
      congr 2
      refine List.filter_congr fun b hb => ?_
      rw [List.mem_range] at hb
      exact h a b (hl a List.mem_cons_self) hb
  exact key (List.range n) fun a ha => List.mem_range.mp ha
theorem map_pr_inj {l l' : List (Nat × Nat)} (h : l.map pr = l'.map pr) : l = l' := by
  have : ∀ {l l' : List (Nat × Nat)}, l.map pr = l'.map pr → l = l' := by
    intro l
    induction l with
    | nil => intro l' h; cases l' with
      | nil => rfl
      | cons x l' => simp at h
    | cons x l ih => intro l' h; cases l' with
      | nil => simp at h
      | cons y l' =>
        rw [List.map_cons, List.map_cons] at h
        injection h with h1 h2
        rw [pr_inj h1, ih h2]
  exact this h
structure Same (cs : List Nat) (P : Nat → Nat → Bool) (a : List Nat) (cs' : List Nat) (P' : Nat → Nat → Bool) (b : List Nat) : Prop where
  len : a.length = b.length
  col : ∀ i, i < a.length → cs.getD (a.getD i 0) 0 = cs'.getD (b.getD i 0) 0
  eq : ∀ i j, i < a.length → j < a.length → (a.getD i 0 = a.getD j 0 ↔ b.getD i 0 = b.getD j 0)
  led : ∀ i j, i < a.length → j < a.length → P (a.getD i 0) (a.getD j 0) = P' (b.getD i 0) (b.getD j 0)
variable {n n' : Nat} {cs cs' : List Nat} {P P' : Nat → Nat → Bool} {a b : List Nat}
theorem map_at {f : Nat → PyData} {l : List Nat} {i : Nat} (h : i < l.length) : (l.map f)[i]? = some (f (l.getD i 0)) := by
  rw [List.getElem?_map, List.getD_eq_getElem?_getD, List.getElem?_eq_getElem h]
  rfl
theorem eye_iff : eyeD cs P a = eyeD cs' P' b ↔ Same cs P a cs' P' b := by
  constructor
  · intro h
    unfold eyeD at h
    injection h with h
    injection h with h1 h
    injection h with h2 h
    injection h with h3 _
    injection h1 with h1
    injection h2 with h2
    injection h3 with h3
    have hl : a.length = b.length := by
      have := congrArg List.length h1
      rwa [List.length_map, List.length_map] at this
    rw [← hl] at h2 h3
    have h2 := map_pr_inj h2
    have h3 := map_pr_inj h3
    refine ⟨hl, fun i hi => ?_, fun i j hi hj => ?_, fun i j hi hj => canon_inj h3 hi hj⟩
    · have e := map_at (f := fun x => Nm (cs.getD x 0)) hi
      rw [h1, map_at (f := fun x => Nm (cs'.getD x 0)) (by omega)] at e
      injection e with e
      exact (Nm_inj e).symm
    · have e1 := canon_inj h2 hi hj
      have e2 := canon_inj h2 hj hi
      unfold sameQ at e1 e2
      rcases Nat.lt_trichotomy i j with h | h | h
      · rw [decide_eq_true h, Bool.true_and, Bool.true_and, Bool.eq_iff_iff, beq_iff_eq, beq_iff_eq] at e1
        exact e1
      · subst h
        exact ⟨fun _ => rfl, fun _ => rfl⟩
      · rw [decide_eq_true h, Bool.true_and, Bool.true_and, Bool.eq_iff_iff, beq_iff_eq, beq_iff_eq] at e2
        exact ⟨fun z => (e2.mp z.symm).symm, fun z => (e2.mpr z.symm).symm⟩
  · intro h
    have h1 : (a.map fun x => Nm (cs.getD x 0)) = b.map fun x => Nm (cs'.getD x 0) := by
      refine List.ext_getElem? fun i => ?_
      by_cases hi : i < a.length
      · rw [map_at (f := fun x => Nm (cs.getD x 0)) hi, map_at (f := fun x => Nm (cs'.getD x 0)) (by have := h.len; omega), h.col i hi]
      · rw [List.getElem?_eq_none (by rw [List.length_map]; omega), List.getElem?_eq_none (by rw [List.length_map]; have := h.len; omega)]
    have h2 : canon a.length (sameQ a) = canon b.length (sameQ b) := by
      rw [← h.len]
      refine canon_congr fun i j hi hj => ?_
      unfold sameQ
      congr 1
      rw [Bool.eq_iff_iff, beq_iff_eq, beq_iff_eq]
      exact h.eq i j hi hj
    have h3 : canon a.length (ledQ P a) = canon b.length (ledQ P' b) := by
      rw [← h.len]
      exact canon_congr fun i j hi hj => h.led i j hi hj
    unfold eyeD
    rw [h1, h2, h3]
/-! ### the walk: the same for the eye -/
def ofN : PyData → Nat
  | .int i => i.toNat
  | _ => 0
theorem ofN_nm (x : Nat) : ofN (Nm x) = x := Int.toNat_natCast x
theorem find_any {p : Nat → Bool} {x : Vx} : ∀ l : List Nat, (l.map Nm).findSome? (fun d => if p (ofN d) then some x else none) = if l.any p then some x else none
  | [] => rfl
  | y :: l => by
    rw [List.map_cons, List.findSome?_cons, List.any_cons, ofN_nm, find_any l]
    cases hp : p y <;> simp
def colBad (cs a cs' b : List Nat) (i : Nat) : Bool := !(((cs.getD (a.getD i 0) 0 : Nat) : Int) == ((cs'.getD (b.getD i 0) 0 : Nat) : Int))
def parBad (P P' : Nat → Nat → Bool) (a b : List Nat) (i j : Nat) : Bool := (!((((a.getD i 0 : Nat) : Int) == ((a.getD j 0 : Nat) : Int)) == (((b.getD i 0 : Nat) : Int) == ((b.getD j 0 : Nat) : Int)))) || (!(P (a.getD i 0) (a.getD j 0) == P' (b.getD i 0) (b.getD j 0)))
def rowBad (cs : List Nat) (P : Nat → Nat → Bool) (a : List Nat) (cs' : List Nat) (P' : Nat → Nat → Bool) (b : List Nat) (i : Nat) : Bool := colBad cs a cs' b i || (List.range a.length).any (parBad P P' a b i)
theorem same_bad (hl : a.length = b.length) : (List.range a.length).any (rowBad cs P a cs' P' b) = !decide (eyeD cs P a = eyeD cs' P' b) := by
  rw [Bool.eq_iff_iff, Bool.not_eq_true', decide_eq_false_iff_not, eye_iff, List.any_eq_true]
  constructor
  · rintro ⟨i, hi, h⟩ hs
    rw [List.mem_range] at hi
    unfold rowBad at h
    rw [Bool.or_eq_true] at h
    rcases h with h | h
    · unfold colBad at h
      rw [hs.col i hi] at h
      simp at h
    · rw [List.any_eq_true] at h
      obtain ⟨j, hj, h⟩ := h
      rw [List.mem_range] at hj
      unfold parBad at h
      rw [int_eq, int_eq, Bool.or_eq_true, hs.led i j hi hj] at h
      rcases h with h | h
      · have e : (a.getD i 0 == a.getD j 0) = (b.getD i 0 == b.getD j 0) := by rw [Bool.eq_iff_iff, beq_iff_eq, beq_iff_eq]; exact hs.eq i j hi hj
        rw [e] at h
        simp at h
      · simp at h
  · intro h
    by_cases g : ∃ i, i ∈ List.range a.length ∧ rowBad cs P a cs' P' b i = true
    · obtain ⟨i, h1, h2⟩ := g
      exact ⟨i, h1, h2⟩
    · exfalso
      apply h
      have g' : ∀ i, i < a.length → rowBad cs P a cs' P' b i = false := fun i hi => by
        cases q : rowBad cs P a cs' P' b i with
        | false => rfl
        | true => exact absurd ⟨i, List.mem_range.mpr hi, q⟩ g
      have g2 : ∀ i j, i < a.length → j < a.length → parBad P P' a b i j = false := fun i j hi hj => by
        have := g' i hi
        unfold rowBad at this
        rw [Bool.or_eq_false_iff, List.any_eq_false] at this
        have := this.2 j (List.mem_range.mpr hj)
        simpa using this
      refine ⟨hl, fun i hi => ?_, fun i j hi hj => ?_, fun i j hi hj => ?_⟩
      · have := g' i hi
        unfold rowBad colBad at this
        rw [Bool.or_eq_false_iff] at this
        have := this.1
        simp only [Bool.not_eq_false', beq_iff_eq] at this
        omega
      · have := g2 i j hi hj
        unfold parBad at this
        rw [Bool.or_eq_false_iff, int_eq, int_eq] at this
        have := this.1
        simp only [Bool.not_eq_false', beq_iff_eq] at this
        rw [Bool.eq_iff_iff, beq_iff_eq, beq_iff_eq] at this
        exact this
      · have := g2 i j hi hj
        unfold parBad at this
        rw [Bool.or_eq_false_iff] at this
        have := this.2
        simpa using this
theorem is_same_ok (k : Nat) (hcl : cs.length = n) (hcl' : cs'.length = n') (ha : ∀ x ∈ a, x < n) (hb : ∀ x ∈ b, x < n') (hl : a.length = b.length) (h10 : a.length ≤ 10) (src : Option Src) :
    (fnAt T 200 (k + 1)).call "_law_is_same" [.d (wb n cs P), .d (Rw a), .d (wb n' cs' P'), .d (Rw b)] src = some (.d (.bool (decide (eyeD cs P a = eyeD cs' P' b))), src) := by
  rw [fnAt_call (d := ⟨4, 6, b__law_is_same⟩) rfl]
  have hlen : ∀ s : S, s.env[1]? = some (some (.d (Rw a))) → (cNat fLenD [(.e (cVar false 1))]) (fnAt T 200 k) s = some (.d (Nm a.length), s) := fun s h => by
    refine cnat1 (vat h) ?_
    show some (PyData.int ((a.map Nm).length : Int)) = _
    rw [List.length_map]
  obtain ⟨s', hf, e4, e5, rfl⟩ := sfor_find (as := aName 4) (ic := (icRng1 (.e (cNat fLenD [(.e (cVar false 1))])))) (b := (sSeq (sIf (bOf (cBin fNe (.e (cBin fIxD (.e (cBin fIxD (.e (cVar false 0)) (.e (cC (.int 1))))) (.e (cBin fIxD (.e (cVar false 1)) (.e (cVar false 4)))))) (.e (cBin fIxD (.e (cBin fIxD (.e (cVar false 2)) (.e (cC (.int 1))))) (.e (cBin fIxD (.e (cVar false 3)) (.e (cVar false 4)))))))) (sRet (cC (.bool false))) sPass)
    (sFor (aName 5) (icRng1 (.e (cNat fLenD [(.e (cVar false 1))]))) (sIf (bOr (bOf (cBin fNe (.e (cBin fEq (.e (cBin fIxD (.e (cVar false 1)) (.e (cVar false 4)))) (.e (cBin fIxD (.e (cVar false 1)) (.e (cVar false 5)))))) (.e (cBin fEq (.e (cBin fIxD (.e (cVar false 3)) (.e (cVar false 4)))) (.e (cBin fIxD (.e (cVar false 3)) (.e (cVar false 5)))))))) (bOf (cBin fNe (.e (cBin (fInD false) (.e (cDisp true [(cBin fIxD (.e (cVar false 1)) (.e (cVar false 4))), (cBin fIxD (.e (cVar false 1)) (.e (cVar false 5)))])) (.e (cBin fIxD (.e (cVar false 0)) (.e (cC (.int 2))))))) (.e (cBin (fInD false) (.e (cDisp true [(cBin fIxD (.e (cVar false 3)) (.e (cVar false 4))), (cBin fIxD (.e (cVar false 3)) (.e (cVar false 5)))])) (.e (cBin fIxD (.e (cVar false 2)) (.e (cC (.int 2)))))))))) (sRet (cC (.bool false))) sPass))))
    (F := fnAt T 200 k) (ds := (List.range a.length).map Nm) (s := ⟨[some (.d (wb n cs P)), some (.d (Rw a)), some (.d (wb n' cs' P')), some (.d (Rw b)), none, none], src⟩) (ic_rng1 (hlen _ rfl) (by omega))
    (fun s => ∃ e4 e5, s = ⟨[some (.d (wb n cs P)), some (.d (Rw a)), some (.d (wb n' cs' P')), some (.d (Rw b)), e4, e5], src⟩) ⟨_, _, rfl⟩ (fun d => if rowBad cs P a cs' P' b (ofN d) then some (.d (.bool false)) else none) (by
      rintro d hd s ⟨e4, e5, rfl⟩
      obtain ⟨i, hi, rfl⟩ := List.mem_map.mp hd
      rw [List.mem_range] at hi
      rw [ofN_nm]
      have ia := ha _ (getD_mem hi)
      have ib := hb _ (getD_mem (row := b) (i := i) (by omega))
      obtain ⟨s2, hg, e5', rfl⟩ := sfor_find (as := aName 5) (ic := (icRng1 (.e (cNat fLenD [(.e (cVar false 1))])))) (b := (sIf (bOr (bOf (cBin fNe (.e (cBin fEq (.e (cBin fIxD (.e (cVar false 1)) (.e (cVar false 4)))) (.e (cBin fIxD (.e (cVar false 1)) (.e (cVar false 5)))))) (.e (cBin fEq (.e (cBin fIxD (.e (cVar false 3)) (.e (cVar false 4)))) (.e (cBin fIxD (.e (cVar false 3)) (.e (cVar false 5)))))))) (bOf (cBin fNe (.e (cBin (fInD false) (.e (cDisp true [(cBin fIxD (.e (cVar false 1)) (.e (cVar false 4))), (cBin fIxD (.e (cVar false 1)) (.e (cVar false 5)))])) (.e (cBin fIxD (.e (cVar false 0)) (.e (cC (.int 2))))))) (.e (cBin (fInD false) (.e (cDisp true [(cBin fIxD (.e (cVar false 3)) (.e (cVar false 4))), (cBin fIxD (.e (cVar false 3)) (.e (cVar false 5)))])) (.e (cBin fIxD (.e (cVar false 2)) (.e (cC (.int 2)))))))))) (sRet (cC (.bool false))) sPass))
        (F := fnAt T 200 k) (ds := (List.range a.length).map Nm) (s := ⟨[some (.d (wb n cs P)), some (.d (Rw a)), some (.d (wb n' cs' P')), some (.d (Rw b)), some (.d (Nm i)), e5], src⟩) (ic_rng1 (hlen _ rfl) (by omega))
        (fun s => ∃ e5, s = ⟨[some (.d (wb n cs P)), some (.d (Rw a)), some (.d (wb n' cs' P')), some (.d (Rw b)), some (.d (Nm i)), e5], src⟩) ⟨_, rfl⟩ (fun d => if parBad P P' a b i (ofN d) then some (.d (.bool false)) else none) (by
          rintro d hd s ⟨e5, rfl⟩
          obtain ⟨j, hj, rfl⟩ := List.mem_map.mp hd
          rw [List.mem_range] at hj
          rw [ofN_nm]
          have ja := ha _ (getD_mem hj)
          have jb := hb _ (getD_mem (row := b) (i := j) (by omega))
          obtain ⟨s, hs⟩ : ∃ s, s = (⟨[some (.d (wb n cs P)), some (.d (Rw a)), some (.d (wb n' cs' P')), some (.d (Rw b)), some (.d (Nm i)), some (.d (Nm j))], src⟩ : S) := ⟨_, rfl⟩
          have v0 : s.env[0]? = some (some (.d (wb n cs P))) := by rw [hs]; rfl
          have v1 : s.env[1]? = some (some (.d (Rw a))) := by rw [hs]; rfl
          have v2 : s.env[2]? = some (some (.d (wb n' cs' P'))) := by rw [hs]; rfl
          have v3 : s.env[3]? = some (some (.d (Rw b))) := by rw [hs]; rfl
          have v4 : s.env[4]? = some (some (.d (Nm i))) := by rw [hs]; rfl
          have v5 : s.env[5]? = some (some (.d (Nm j))) := by rw [hs]; rfl
          have a4 := cbin (F := fnAt T 200 k) (f := fIxD) (vat v1) (vat v4) (row_at hi)
          have a5 := cbin (F := fnAt T 200 k) (f := fIxD) (vat v1) (vat v5) (row_at hj)
          have b4 := cbin (F := fnAt T 200 k) (f := fIxD) (vat v3) (vat v4) (row_at (row := b) (x := i) (by omega))
          have b5 := cbin (F := fnAt T 200 k) (f := fIxD) (vat v3) (vat v5) (row_at (row := b) (x := j) (by omega))
          have ar1 := cbin (F := fnAt T 200 k) (f := fIxD) (b := cC (.int 2)) (vat v0) rfl (show fIxD (wb n cs P) (.int 2) = some (.tuple ((canon n P).map pr)) from rfl)
          have ar2 := cbin (F := fnAt T 200 k) (f := fIxD) (b := cC (.int 2)) (vat v2) rfl (show fIxD (wb n' cs' P') (.int 2) = some (.tuple ((canon n' P').map pr)) from rfl)
          have t1 := bof' (cbin (f := fNe) (cbin (f := fEq) a4 a5 (feq_int _ _)) (cbin (f := fEq) b4 b5 (feq_int _ _)) (fne_bool' _ _))
          have t2 := bof' (cbin (f := fNe) (cbin (f := fInD false) (cdisp (b := true) (xs := [.d (Nm (a.getD i 0)), .d (Nm (a.getD j 0))]) (eargs a4 (eargs (cs := []) a5 rfl)) rfl (by rw [sizeLine_eq]; simp)) ar1 (inD_tw (P := P) ia ja)) (cbin (f := fInD false) (cdisp (b := true) (xs := [.d (Nm (b.getD i 0)), .d (Nm (b.getD j 0))]) (eargs b4 (eargs (cs := []) b5 rfl)) rfl (by rw [sizeLine_eq]; simp)) ar2 (inD_tw (P := P') ib jb)) (fne_bool' _ _))
          have tt := bor t1 fun _ => t2
          refine ⟨s, s, by rw [hs]; rfl, ?_, some (.d (Nm j)), hs⟩
          cases hq : parBad P P' a b i j with
          | true =>
            exact e_ifT (tt.trans (congrArg (fun q => some (q, s)) hq)) (sret rfl)
          | false =>
            exact e_ifF (tt.trans (congrArg (fun q => some (q, s)) hq)) rfl)
      rw [find_any] at hg
      obtain ⟨s, hs⟩ : ∃ s, s = (⟨[some (.d (wb n cs P)), some (.d (Rw a)), some (.d (wb n' cs' P')), some (.d (Rw b)), some (.d (Nm i)), e5], src⟩ : S) := ⟨_, rfl⟩
      rw [← hs] at hg
      have v0 : s.env[0]? = some (some (.d (wb n cs P))) := by rw [hs]; rfl
      have v1 : s.env[1]? = some (some (.d (Rw a))) := by rw [hs]; rfl
      have v2 : s.env[2]? = some (some (.d (wb n' cs' P'))) := by rw [hs]; rfl
      have v3 : s.env[3]? = some (some (.d (Rw b))) := by rw [hs]; rfl
      have v4 : s.env[4]? = some (some (.d (Nm i))) := by rw [hs]; rfl
      have a4 := cbin (F := fnAt T 200 k) (f := fIxD) (vat v1) (vat v4) (row_at hi)
      have b4 := cbin (F := fnAt T 200 k) (f := fIxD) (vat v3) (vat v4) (row_at (row := b) (x := i) (by omega))
      have c1 := cbin (F := fnAt T 200 k) (f := fIxD) (b := cC (.int 1)) (vat v0) rfl (show fIxD (wb n cs P) (.int 1) = some (.tuple (cs.map Nm)) from rfl)
      have c2 := cbin (F := fnAt T 200 k) (f := fIxD) (b := cC (.int 1)) (vat v2) rfl (show fIxD (wb n' cs' P') (.int 1) = some (.tuple (cs'.map Nm)) from rfl)
      have t0 := bof' (cbin (f := fNe) (cbin (f := fIxD) c1 a4 (color_at (by omega))) (cbin (f := fIxD) c2 b4 (color_at (by omega))) (fne_int _ _))
      cases hq : colBad cs a cs' b i with
      | true =>
        refine ⟨s, s, by rw [hs]; rfl, ?_, some (.d (Nm i)), e5, hs⟩
        rw [show rowBad cs P a cs' P' b i = true by unfold rowBad; rw [hq]; rfl]
        exact e_ret (e_ifT (t0.trans (congrArg (fun q => some (q, s)) hq)) (sret rfl))
      | false =>
        refine ⟨s, _, by rw [hs]; rfl, e_seq (e_ifF (t0.trans (congrArg (fun q => some (q, s)) hq)) rfl) ?_, some (.d (Nm i)), e5', rfl⟩
        rw [show rowBad cs P a cs' P' b i = (List.range a.length).any (parBad P P' a b i) by unfold rowBad; rw [hq]; rfl]
        exact hg)
  rw [find_any, same_bad hl] at hf
  refine run_env (n := 4) (nn := 6) (s' := ⟨[some (.d (wb n cs P)), some (.d (Rw a)), some (.d (wb n' cs' P')), some (.d (Rw b)), e4, e5], src⟩) rfl rfl ?_
  show b__law_is_same (fnAt T 200 k) ⟨[some (.d (wb n cs P)), some (.d (Rw a)), some (.d (wb n' cs' P')), some (.d (Rw b)), none, none], src⟩ = _
  unfold b__law_is_same
  refine e_fl hf (fun h => ?_) (fun x h => ?_)
  · cases hq : decide (eyeD cs P a = eyeD cs' P' b) with
    | true => exact sret rfl
    | false => rw [hq] at h; simp at h
  · cases hq : decide (eyeD cs P a = eyeD cs' P' b) with
    | true => rw [hq] at h; simp at h
    | false =>
      rw [hq] at h
      simp at h
      rw [← h]
end L11
namespace L11
open PySem PySem.Spec L2 Ev PyProof.Rows
open scoped Classical
section
variable {as : PyData → S → Option S} {own : List Nat} {t : CB} {c : CE} {F : Fn} {ic : IC}
theorem clc_filtL {ds : List PyData} {E1 : List (Option Vx)} {src : Option Src} {s : S} {l : List (Nat × PyData)} (hic : ic F s = some (ds, ⟨E1, src⟩, l)) (hl : ds.length ≤ sizeLine) (p : PyData → Bool) (f : PyData → PyData)
    (st : ∀ d ∈ ds, ∃ s1 s2, as d ⟨wipeE E1 own, src⟩ = some s1 ∧ t F s1 = some (p d, s2) ∧ (p d = false → s2.src = src ∧ wipeE s2.env own = wipeE E1 own) ∧ (p d = true → ∃ E', c F s2 = some (.d (f d), ⟨E', src⟩) ∧ wipeE E' own = wipeE E1 own)) :
    cLc own as ic t c F s = some (.d (.list ((ds.filter p).map f)), back l ⟨E1, src⟩) := by
  have h := clc_filt (as := as) (own := own) (t := t) (c := c) (F := F) (ic := fun _ _ => some (ds, ⟨E1, src⟩, [])) (s := s) rfl hl p f st
  unfold cLc at h ⊢
  rw [hic]
  simp only [hl, if_true] at h ⊢
  cases hq : lcL as own t c F ds ⟨E1, src⟩ with
  | none => rw [hq] at h; cases h
  | some q =>
    rw [hq] at h
    obtain ⟨ys, s2⟩ := q
    injection h with h
    injection h with h1 h2
    injection h1 with h1
    injection h1 with h1
    show some (Vx.d (.list ys), back l (unwipeS own ⟨E1, src⟩ (wipeS own s2))) = _
    rw [h1]
    have h2 : unwipeS own ⟨E1, src⟩ (wipeS own s2) = ⟨E1, src⟩ := h2
    rw [h2]
theorem clc_mapL {ds : List PyData} {E1 : List (Option Vx)} {src : Option Src} {s : S} {l : List (Nat × PyData)} (hic : ic F s = some (ds, ⟨E1, src⟩, l)) (hl : ds.length ≤ sizeLine) (f : PyData → PyData)
    (st : ∀ d ∈ ds, ∃ s1 E', as d ⟨wipeE E1 own, src⟩ = some s1 ∧ c F s1 = some (.d (f d), ⟨E', src⟩) ∧ wipeE E' own = wipeE E1 own) :
    cLc own as ic bYes c F s = some (.d (.list (ds.map f)), back l ⟨E1, src⟩) := by
  have := clc_filtL (as := as) (own := own) (t := bYes) (c := c) hic hl (fun _ => true) f fun d hd => by
    obtain ⟨s1, E', h1, h2, h3⟩ := st d hd
    exact ⟨s1, s1, h1, rfl, (fun z => nomatch z), fun _ => ⟨E', h2, h3⟩⟩
  rw [this, List.filter_eq_self.mpr fun _ _ => rfl]
end
theorem app1 {F : Fn} {s : S} {i : Nat} {c : CE} {ds : List PyData} {y : PyData} (hi : s.env[i]? = some (some (.d (.list ds)))) (hc : c F s = some (.d y, s)) (hl : ds.length ≤ 1000000) :
    sExpr (cAppend i c) F s = some (.nx, { s with env := s.env.set i (some (.d (.list (ds ++ [y])))) }) := by
  refine sexpr (x := .d .none) ?_
  unfold cAppend
  rw [hi]
  simp only [hc, hi]
  rw [if_pos (by rw [sizeLine_eq]; omega)]
def bl (bs : List Bool) : PyData := .list (bs.map .bool)
theorem bl_lay (bs : List Bool) : PyData.canLayAll0 (bs.map .bool) = true := layAll fun d hd => by
  obtain ⟨b, _, rfl⟩ := List.mem_map.mp hd
  rfl
theorem bl_shp (L : List (List Bool)) : shp (.list (L.map bl)) = true := by
  show (PyData.canLay0 (.list (L.map bl)) && decide ((PyData.list (L.map bl)).depth ≤ 64)) = true
  have h0 : PyData.canLayAll0 (L.map bl) = true := layAll fun d hd => by
    obtain ⟨b, _, rfl⟩ := List.mem_map.mp hd
    have := bl_lay b
    unfold bl PyData.canLay0
    exact this
  have h1 : PyData.canLay0 (.list (L.map bl)) = true := by
    unfold PyData.canLay0
    exact h0
  have h2 : PyData.depthAll (L.map bl) ≤ 4 := depthAll_le fun d hd => by
    obtain ⟨b, _, rfl⟩ := List.mem_map.mp hd
    have h3 : PyData.depthAll (b.map .bool) ≤ 0 := depthAll_le fun d hd => by obtain ⟨p, _, rfl⟩ := List.mem_map.mp hd; simp [PyData.depth]
    unfold bl
    simp only [PyData.depth]
    omega
  rw [h1, Bool.true_and, decide_eq_true_eq]
  simp only [PyData.depth]
  omega
theorem bl_fne (L : List (List Bool)) : fNe (.list (L.map bl)) (.list []) = some (.bool (!L.isEmpty)) := by
  unfold fNe
  rw [bl_shp L, show shp (.list []) = true from shp_ints [], Bool.and_self, if_pos rfl]
  cases L with
  | nil => rfl
  | cons x r => rfl
theorem any_true : ∀ bs : List Bool, ((bs.map PyData.bool).any fun y => PyData.eqv y (.bool true)) = bs.any id
  | [] => rfl
  | b :: bs => by
    rw [List.map_cons, List.any_cons, List.any_cons, any_true bs]
    cases b <;> rfl
theorem bl_in (bs : List Bool) : fInD true (.bool true) (bl bs) = some (.bool (!bs.any id)) := by
  show (if shp (.bool true) && PyData.canLayAll0 (bs.map .bool) then some (PyData.bool (xor true ((bs.map PyData.bool).any fun y => PyData.eqv y (.bool true)))) else none) = _
  rw [bl_lay, show shp (.bool true) = true from rfl, Bool.and_self, if_pos rfl, any_true, Bool.true_xor]
variable {n n' : Nat} {cs cs' : List Nat} {P P' : Nat → Nat → Bool}
noncomputable def tbl (n n' : Nat) (D : Nat → Nat → Bool) : List (List Bool) := (List.range n).map fun x => (List.range n').map (D x)
def pNo : PyData → Bool
  | .list bs => !(bs.any fun y => PyData.eqv y (.bool true))
  | _ => false
theorem pNo_bl (bs : List Bool) : pNo (bl bs) = !bs.any id := by
  show (!((bs.map PyData.bool).any fun y => PyData.eqv y (.bool true))) = _
  rw [any_true]
theorem filt_bl : ∀ L : List (List Bool), ((L.map bl).filter pNo).map id = (L.filter fun bs => !bs.any id).map bl
  | [] => rfl
  | bs :: L => by
    rw [List.map_cons, List.filter_cons, List.filter_cons, pNo_bl]
    have := filt_bl L
    rw [List.map_id] at this ⊢
    cases bs.any id
    · simp [this]
    · simp [this]
theorem filt_empty {α : Type} {p : α → Bool} : ∀ {l : List α}, (l.filter p).isEmpty = l.all fun x => !p x
  | [] => rfl
  | x :: l => by
    rw [List.filter_cons, List.all_cons, ← filt_empty (l := l)]
    cases p x <;> simp
theorem rk_succ_iff (hw : Wb n cs) (hw' : Wb n' cs') {r : Nat} {a b : List Nat} (ha : Rw' n a (5 - (r + 1))) (hb : Rw' n' b (5 - (r + 1))) (h5 : r + 1 ≤ 5) : rk n cs P (r + 1) a = rk n' cs' P' (r + 1) b ↔ eyeD cs P a = eyeD cs' P' b ∧ (∀ x, x < n → ∃ y, y < n' ∧ rk n cs P r (a ++ [x]) = rk n' cs' P' r (b ++ [y])) ∧ ∀ y, y < n' → ∃ x, x < n ∧ rk n cs P r (a ++ [x]) = rk n' cs' P' r (b ++ [y]) := by
  have hi : ∀ t ∈ (List.range n).map fun x => rk n cs P r (a ++ [x]), its t = true := fun t ht => (subs_sm (P := P) hw ha h5 t ht).its
  have hi' : ∀ t ∈ (List.range n').map fun x => rk n' cs' P' r (b ++ [x]), its t = true := fun t ht => (subs_sm (P := P') hw' hb h5 t ht).its
  rw [rk_inj]
  constructor
  · rintro ⟨h1, h2⟩
    refine ⟨h1, fun x hx => ?_, fun y hy => ?_⟩
    · have : rk n cs P r (a ++ [x]) ∈ onceL ((List.range n).map fun x => rk n cs P r (a ++ [x])) := (onceL_mem hi).mpr (List.mem_map.mpr ⟨x, List.mem_range.mpr hx, rfl⟩)
      rw [h2, onceL_mem hi'] at this
      obtain ⟨y, hy, e⟩ := List.mem_map.mp this
      exact ⟨y, List.mem_range.mp hy, e.symm⟩
    · have : rk n' cs' P' r (b ++ [y]) ∈ onceL ((List.range n').map fun x => rk n' cs' P' r (b ++ [x])) := (onceL_mem hi').mpr (List.mem_map.mpr ⟨y, List.mem_range.mpr hy, rfl⟩)
      rw [← h2, onceL_mem hi] at this
      obtain ⟨x, hx, e⟩ := List.mem_map.mp this
      exact ⟨x, List.mem_range.mp hx, e⟩
  · rintro ⟨h1, h2, h3⟩
    refine ⟨h1, onceL_eq hi fun t => ?_⟩
    rw [List.mem_map, List.mem_map]
    constructor
    · rintro ⟨x, hx, rfl⟩
      obtain ⟨y, hy, e⟩ := h2 x (List.mem_range.mp hx)
      exact ⟨y, List.mem_range.mpr hy, e.symm⟩
    · rintro ⟨y, hy, rfl⟩
      obtain ⟨x, hx, e⟩ := h3 y (List.mem_range.mp hy)
      exact ⟨x, List.mem_range.mpr hx, e⟩
noncomputable def DD (n : Nat) (cs : List Nat) (P : Nat → Nat → Bool) (n' : Nat) (cs' : List Nat) (P' : Nat → Nat → Bool) (r : Nat) (a b : List Nat) (x y : Nat) : Bool := decide (rk n cs P r (a ++ [x]) = rk n' cs' P' r (b ++ [y]))
theorem tbl_rows {D : Nat → Nat → Bool} : ((tbl n n' D).filter fun bs => !bs.any id).isEmpty = decide (∀ x, x < n → ∃ y, y < n' ∧ D x y = true) := by
  rw [filt_empty, Bool.eq_iff_iff, List.all_eq_true, decide_eq_true_eq]
  unfold tbl
  constructor
  · intro h x hx
    have := h _ (List.mem_map.mpr ⟨x, List.mem_range.mpr hx, rfl⟩)
    rw [Bool.not_not, List.any_eq_true] at this
    obtain ⟨q, hq, e⟩ := this
    obtain ⟨y, hy, rfl⟩ := List.mem_map.mp hq
    exact ⟨y, List.mem_range.mp hy, e⟩
  · intro h bs hb
    obtain ⟨x, hx, rfl⟩ := List.mem_map.mp hb
    obtain ⟨y, hy, e⟩ := h x (List.mem_range.mp hx)
    rw [Bool.not_not, List.any_eq_true]
    exact ⟨_, List.mem_map.mpr ⟨y, List.mem_range.mpr hy, rfl⟩, e⟩
theorem tbl_cols {D : Nat → Nat → Bool} : ((List.range n').filter fun y => !((tbl n n' D).map fun bs => bs.getD y false).any id).isEmpty = decide (∀ y, y < n' → ∃ x, x < n ∧ D x y = true) := by
  rw [filt_empty, Bool.eq_iff_iff, List.all_eq_true, decide_eq_true_eq]
  have hat : ∀ x y, y < n' → ((List.range n').map (D x)).getD y false = D x y := fun x y hy => by
    rw [List.getD_eq_getElem?_getD, List.getElem?_map, List.getElem?_range hy]
    rfl
  unfold tbl
  constructor
  · intro h y hy
    have := h y (List.mem_range.mpr hy)
    rw [Bool.not_not, List.any_eq_true] at this
    obtain ⟨q, hq, e⟩ := this
    obtain ⟨bs, hb, rfl⟩ := List.mem_map.mp hq
    obtain ⟨x, hx, rfl⟩ := List.mem_map.mp hb
    rw [hat x y hy] at e
    exact ⟨x, List.mem_range.mp hx, e⟩
  · intro h y hy
    rw [List.mem_range] at hy
    obtain ⟨x, hx, e⟩ := h y hy
    rw [Bool.not_not, List.any_eq_true]
    refine ⟨D x y, List.mem_map.mpr ⟨_, List.mem_map.mpr ⟨x, List.mem_range.mpr hx, rfl⟩, hat x y hy⟩, e⟩
theorem kept_all (hw : Wb n cs) (hw' : Wb n' cs') {r : Nat} {a b : List Nat} (ha : Rw' n a (5 - (r + 1))) (hb : Rw' n' b (5 - (r + 1))) (h5 : r + 1 ≤ 5) :
    decide (rk n cs P (r + 1) a = rk n' cs' P' (r + 1) b) = (decide (eyeD cs P a = eyeD cs' P' b) && (((tbl n n' (DD n cs P n' cs' P' r a b)).filter fun bs => !bs.any id).isEmpty && ((List.range n').filter fun y => !((tbl n n' (DD n cs P n' cs' P' r a b)).map fun bs => bs.getD y false).any id).isEmpty)) := by
  rw [tbl_rows, tbl_cols, Bool.eq_iff_iff, Bool.and_eq_true, Bool.and_eq_true, decide_eq_true_eq, decide_eq_true_eq, decide_eq_true_eq, decide_eq_true_eq, rk_succ_iff hw hw' ha hb h5]
  unfold DD
  simp only [decide_eq_true_eq]
def colF (y : Nat) : PyData → PyData
  | .list bs => (bs[y]?).getD .none
  | _ => .none
theorem bl_at {bs : List Bool} {y : Nat} (h : y < bs.length) : colF y (bl bs) = .bool (bs.getD y false) ∧ fIxD (bl bs) (Nm y) = some (.bool (bs.getD y false)) := by
  have e : (bs.map PyData.bool)[y]? = some (.bool (bs.getD y false)) := by
    rw [List.getElem?_map, List.getD_eq_getElem?_getD, List.getElem?_eq_getElem h]
    rfl
  constructor
  · show ((bs.map PyData.bool)[y]?).getD .none = _
    rw [e]
    rfl
  · exact Ev.atI_nat (l := bs.map PyData.bool) e
theorem is_kept_ok (hw : Wb n cs) (hw' : Wb n' cs') : ∀ (r : Nat) (a b : List Nat), Rw' n a (5 - r) → Rw' n' b (5 - r) → a.length = b.length → r ≤ 3 → ∀ K, r + 2 ≤ K → ∀ src, (fnAt T 200 K).call "_law_is_kept" [.d (wb n cs P), .d (Rw a), .d (wb n' cs' P'), .d (Rw b), .d (Nm r)] src = some (.d (.bool (decide (rk n cs P r a = rk n' cs' P' r b))), src)
  | 0, a, b, ha, hb, hl, _, K + 1, hK, src => by
    obtain ⟨k, rfl⟩ : ∃ k, K = k + 1 := ⟨K - 1, by omega⟩
    rw [fnAt_call (d := ⟨5, 9, b__law_is_kept⟩) rfl]
    refine run_env (n := 5) (nn := 9) (s' := ⟨[some (.d (wb n cs P)), some (.d (Rw a)), some (.d (wb n' cs' P')), some (.d (Rw b)), some (.d (Nm 0)), none, none, none, none], src⟩) rfl rfl ?_
    show b__law_is_kept (fnAt T 200 (k + 1)) ⟨[some (.d (wb n cs P)), some (.d (Rw a)), some (.d (wb n' cs' P')), some (.d (Rw b)), some (.d (Nm 0)), none, none, none, none], src⟩ = _
    unfold b__law_is_kept
    have hs := pcall (F := fnAt T 200 (k + 1)) (s := ⟨[some (.d (wb n cs P)), some (.d (Rw a)), some (.d (wb n' cs' P')), some (.d (Rw b)), some (.d (Nm 0)), none, none, none, none], src⟩) (cs := [(cVar false 0), (cVar false 1), (cVar false 2), (cVar false 3)]) (xs := [.d (wb n cs P), .d (Rw a), .d (wb n' cs' P'), .d (Rw b)]) rfl (is_same_ok (P := P) (P' := P') k hw.len hw'.len ha.mem hb.mem hl (by have := ha.len; omega) src)
    have hn := bnot (btru hs)
    have e : decide (rk n cs P 0 a = rk n' cs' P' 0 b) = decide (eyeD cs P a = eyeD cs' P' b) := by
      rw [Bool.eq_iff_iff, decide_eq_true_eq, decide_eq_true_eq]
      unfold rk
      constructor
      · intro h
        exact (List.cons.inj (PyData.tuple.inj h)).1
      · intro h; rw [h]
    rw [e]
    cases hq : decide (eyeD cs P a = eyeD cs' P' b) with
    | false =>
      rw [hq] at hn
      exact e_ret (e_ifT hn (sret rfl))
    | true =>
      rw [hq] at hn
      exact e_seq (e_ifF hn rfl) (e_ret (e_ifT (s1 := ⟨[some (.d (wb n cs P)), some (.d (Rw a)), some (.d (wb n' cs' P')), some (.d (Rw b)), some (.d (Nm 0)), none, none, none, none], src⟩) rfl (sret rfl)))
  | r + 1, a, b, ha, hb, hl, h3, K + 1, hK, src => by
    obtain ⟨k, rfl⟩ : ∃ k, K = k + 1 := ⟨K - 1, by omega⟩
    rw [fnAt_call (d := ⟨5, 9, b__law_is_kept⟩) rfl]
    have hal := ha.len
    have hbl := hb.len
    have n5 := hw.n5
    have n5' := hw'.n5
    have hs := pcall (F := fnAt T 200 (k + 1)) (s := ⟨[some (.d (wb n cs P)), some (.d (Rw a)), some (.d (wb n' cs' P')), some (.d (Rw b)), some (.d (Nm (r + 1))), none, none, none, none], src⟩) (cs := [(cVar false 0), (cVar false 1), (cVar false 2), (cVar false 3)]) (xs := [.d (wb n cs P), .d (Rw a), .d (wb n' cs' P'), .d (Rw b)]) rfl (is_same_ok (P := P) (P' := P') k hw.len hw'.len ha.mem hb.mem hl (by omega) src)
    have hn := bnot (btru hs)
    rw [kept_all hw hw' ha hb (by omega)]
    cases hq : decide (eyeD cs P a = eyeD cs' P' b) with
    | false =>
      rw [hq] at hn
      refine run_env (n := 5) (nn := 9) (s' := ⟨[some (.d (wb n cs P)), some (.d (Rw a)), some (.d (wb n' cs' P')), some (.d (Rw b)), some (.d (Nm (r + 1))), none, none, none, none], src⟩) rfl rfl ?_
      show b__law_is_kept (fnAt T 200 (k + 1)) ⟨[some (.d (wb n cs P)), some (.d (Rw a)), some (.d (wb n' cs' P')), some (.d (Rw b)), some (.d (Nm (r + 1))), none, none, none, none], src⟩ = _
      unfold b__law_is_kept
      exact e_ret (e_ifT hn (sret rfl))
    | true =>
      rw [hq] at hn
      obtain ⟨tb, htb⟩ : ∃ tb, tb = tbl n n' (DD n cs P n' cs' P' r a b) := ⟨_, rfl⟩
      rw [← htb, Bool.true_and]
      have htl : tb.length = n := by rw [htb]; unfold tbl; rw [List.length_map, List.length_range]
      obtain ⟨s', hf, e6, rfl⟩ := sfor_ind (as := aName 6) (ic := (icRng1 (.e (cBin fIxD (.e (cVar false 0)) (.e (cC (.int 0))))))) (b := (sExpr (cAppend 5 (cLc [7] (aName 7) (icRng1 (.e (cBin fIxD (.e (cVar false 2)) (.e (cC (.int 0)))))) bYes (cCall "_law_is_kept" [(cVar false 0), (cBin fAdd (.e (cVar false 1)) (.e (cDisp true [(cVar false 6)]))), (cVar false 2), (cBin fAdd (.e (cVar false 3)) (.e (cDisp true [(cVar false 7)]))), (cBin fSub (.e (cVar false 4)) (.e (cC (.int 1))))])))))
        (F := fnAt T 200 (k + 1)) (ds := (List.range n).map Nm) (s := ⟨[some (.d (wb n cs P)), some (.d (Rw a)), some (.d (wb n' cs' P')), some (.d (Rw b)), some (.d (Nm (r + 1))), some (.d (.list [])), none, none, none], src⟩) (ic_n n5)
        (fun j s => ∃ e6, s = ⟨[some (.d (wb n cs P)), some (.d (Rw a)), some (.d (wb n' cs' P')), some (.d (Rw b)), some (.d (Nm (r + 1))), some (.d (.list ((tb.take j).map bl))), e6, none, none], src⟩) ⟨_, rfl⟩ (by
          rintro x d s hx ⟨e6, rfl⟩
          have hxn : x < n := by
            have := (List.getElem?_eq_some_iff.mp hx).1
            rwa [List.length_map, List.length_range] at this
          rw [List.getElem?_map, range_at hxn] at hx
          cases hx
          have hm := clc_map (own := [7]) (as := aName 7) (ic := (icRng1 (.e (cBin fIxD (.e (cVar false 2)) (.e (cC (.int 0))))))) (c := (cCall "_law_is_kept" [(cVar false 0), (cBin fAdd (.e (cVar false 1)) (.e (cDisp true [(cVar false 6)]))), (cVar false 2), (cBin fAdd (.e (cVar false 3)) (.e (cDisp true [(cVar false 7)]))), (cBin fSub (.e (cVar false 4)) (.e (cC (.int 1))))])) (F := fnAt T 200 (k + 1)) (ds := (List.range n').map Nm) (E1 := [some (.d (wb n cs P)), some (.d (Rw a)), some (.d (wb n' cs' P')), some (.d (Rw b)), some (.d (Nm (r + 1))), some (.d (.list ((tb.take x).map bl))), some (.d (Nm x)), none, none]) (src := src) (s := ⟨[some (.d (wb n cs P)), some (.d (Rw a)), some (.d (wb n' cs' P')), some (.d (Rw b)), some (.d (Nm (r + 1))), some (.d (.list ((tb.take x).map bl))), some (.d (Nm x)), none, none], src⟩) (ic_rng1 (n := n') (cbin (x := wb n' cs' P') (y := .int 0) rfl rfl rfl) (by omega)) (by rw [List.length_map, List.length_range, sizeLine_eq]; omega) (fun d => .bool (DD n cs P n' cs' P' r a b x (ofN d))) (by
            intro d hd
            obtain ⟨y, hy, rfl⟩ := List.mem_map.mp hd
            rw [List.mem_range] at hy
            rw [ofN_nm]
            obtain ⟨s, hs⟩ : ∃ s, s = (⟨[some (.d (wb n cs P)), some (.d (Rw a)), some (.d (wb n' cs' P')), some (.d (Rw b)), some (.d (Nm (r + 1))), some (.d (.list ((tb.take x).map bl))), some (.d (Nm x)), some (.d (Nm y)), none], src⟩ : S) := ⟨_, rfl⟩
            have v0 : s.env[0]? = some (some (.d (wb n cs P))) := by rw [hs]; rfl
            have v1 : s.env[1]? = some (some (.d (Rw a))) := by rw [hs]; rfl
            have v2 : s.env[2]? = some (some (.d (wb n' cs' P'))) := by rw [hs]; rfl
            have v3 : s.env[3]? = some (some (.d (Rw b))) := by rw [hs]; rfl
            have v4 : s.env[4]? = some (some (.d (Nm (r + 1)))) := by rw [hs]; rfl
            have v6 : s.env[6]? = some (some (.d (Nm x))) := by rw [hs]; rfl
            have v7 : s.env[7]? = some (some (.d (Nm y))) := by rw [hs]; rfl
            have hax := ha.add hxn
            have hby := hb.add hy
            have c1 := add_one (F := fnAt T 200 (k + 1)) (c := cVar false 6) (row := a) (x := x) (by omega) v1 (vat v6)
            have c3 := add_one (F := fnAt T 200 (k + 1)) (c := cVar false 7) (row := b) (x := y) (by omega) v3 (vat v7)
            have c4 : cBin fSub (.e (cVar false 4)) (.e (cC (.int 1))) (fnAt T 200 (k + 1)) s = some (.d (Nm r), s) := by
              refine cbin (vat v4) rfl ?_
              show some (PyData.int (((r + 1 : Nat) : Int) - 1)) = _
              rw [show ((r + 1 : Nat) : Int) - 1 = (r : Int) by omega]
            have hc := pcall (F := fnAt T 200 (k + 1)) (s := s) (nm := "_law_is_kept") (cs := [(cVar false 0), (cBin fAdd (.e (cVar false 1)) (.e (cDisp true [(cVar false 6)]))), (cVar false 2), (cBin fAdd (.e (cVar false 3)) (.e (cDisp true [(cVar false 7)]))), (cBin fSub (.e (cVar false 4)) (.e (cC (.int 1))))]) (eargs (vat v0) (eargs c1 (eargs (vat v2) (eargs c3 (eargs c4 rfl))))) (is_kept_ok hw hw' r (a ++ [x]) (b ++ [y]) ⟨hax.mem, by have := hax.len; omega⟩ ⟨hby.mem, by have := hby.len; omega⟩ (by rw [List.length_append, List.length_append, hl]; rfl) (by omega) (k + 1) (by omega) s.src)
            rw [hs] at hc
            exact ⟨_, _, rfl, hc, rfl⟩)
          have hmm : ((List.range n').map Nm).map (fun d => PyData.bool (DD n cs P n' cs' P' r a b x (ofN d))) = ((List.range n').map (DD n cs P n' cs' P' r a b x)).map PyData.bool := by
            rw [List.map_map, List.map_map]
            refine List.map_congr_left fun y _ => ?_
            show PyData.bool (DD n cs P n' cs' P' r a b x (ofN (Nm y))) = _
            rw [ofN_nm]
            rfl
          rw [hmm] at hm
          have ht : tb.take (x + 1) = tb.take x ++ [(List.range n').map (DD n cs P n' cs' P' r a b x)] := by
            have e2 : tb[x]? = some ((List.range n').map (DD n cs P n' cs' P' r a b x)) := by
              rw [htb]
              unfold tbl
              rw [List.getElem?_map, range_at hxn]
              rfl
            rw [List.take_add_one, e2]
            rfl
          refine ⟨⟨[some (.d (wb n cs P)), some (.d (Rw a)), some (.d (wb n' cs' P')), some (.d (Rw b)), some (.d (Nm (r + 1))), some (.d (.list ((tb.take x).map bl))), some (.d (Nm x)), none, none], src⟩, _, rfl, app1 (ds := (tb.take x).map bl) rfl hm (by rw [List.length_map, List.length_take]; omega), some (.d (Nm x)), ?_⟩
          rw [ht, List.map_append]
          rfl)
      rw [List.length_map, List.length_range, List.take_of_length_le (by omega)] at hf
      refine run_env (n := 5) (nn := 9) (s' := ⟨[some (.d (wb n cs P)), some (.d (Rw a)), some (.d (wb n' cs' P')), some (.d (Rw b)), some (.d (Nm (r + 1))), some (.d (.list (tb.map bl))), e6, none, none], src⟩) rfl rfl ?_
      show b__law_is_kept (fnAt T 200 (k + 1)) ⟨[some (.d (wb n cs P)), some (.d (Rw a)), some (.d (wb n' cs' P')), some (.d (Rw b)), some (.d (Nm (r + 1))), none, none, none, none], src⟩ = _
      unfold b__law_is_kept
      refine e_seq (e_ifF hn rfl) (e_seq (e_ifF (s1 := ⟨[some (.d (wb n cs P)), some (.d (Rw a)), some (.d (wb n' cs' P')), some (.d (Rw b)), some (.d (Nm (r + 1))), none, none, none, none], src⟩) ((bof' (cbin rfl rfl (feq_int _ _))).trans ?_) rfl) (e_seq (spar1 (x := .d (.list [])) (s1 := ⟨[some (.d (wb n cs P)), some (.d (Rw a)), some (.d (wb n' cs' P')), some (.d (Rw b)), some (.d (Nm (r + 1))), none, none, none, none], src⟩) rfl) (e_seq hf ?_)))
      · rw [show (((r + 1 : Nat) : Int) == 0) = false from beq_false_of_ne (by omega)]
      have hpk : ∀ e7 e8 : Option Vx, icAny (.pk 5) (fnAt T 200 (k + 1)) ⟨[some (.d (wb n cs P)), some (.d (Rw a)), some (.d (wb n' cs' P')), some (.d (Rw b)), some (.d (Nm (r + 1))), some (.d (.list (tb.map bl))), e6, e7, e8], src⟩ = some (tb.map bl, ⟨[some (.d (wb n cs P)), some (.d (Rw a)), some (.d (wb n' cs' P')), some (.d (Rw b)), some (.d (Nm (r + 1))), none, e6, e7, e8], src⟩, [(5, .list (tb.map bl))]) := fun _ _ => rfl
      have h1 := clc_filtL (own := [8]) (as := aName 8) (ic := (icAny (.pk 5))) (t := (bOf (cBin (fInD true) (.e (cC (.bool true))) (.e (cVar false 8))))) (c := (cVar false 8)) (hpk none none) (by rw [List.length_map, sizeLine_eq]; omega) pNo id (by
        intro d hd
        obtain ⟨bs, hbs, rfl⟩ := List.mem_map.mp hd
        rw [pNo_bl]
        exact ⟨⟨[some (.d (wb n cs P)), some (.d (Rw a)), some (.d (wb n' cs' P')), some (.d (Rw b)), some (.d (Nm (r + 1))), none, e6, none, some (.d (bl bs))], src⟩, ⟨[some (.d (wb n cs P)), some (.d (Rw a)), some (.d (wb n' cs' P')), some (.d (Rw b)), some (.d (Nm (r + 1))), none, e6, none, some (.d (bl bs))], src⟩, rfl, bof' (cbin (x := .bool true) (y := bl bs) rfl rfl (bl_in bs)), fun _ => ⟨rfl, rfl⟩, fun _ => ⟨_, rfl, rfl⟩⟩)
      rw [filt_bl] at h1
      have h1 : (cLc [8] (aName 8) (icAny (.pk 5)) (bOf (cBin (fInD true) (.e (cC (.bool true))) (.e (cVar false 8)))) (cVar false 8)) (fnAt T 200 (k + 1)) ⟨[some (.d (wb n cs P)), some (.d (Rw a)), some (.d (wb n' cs' P')), some (.d (Rw b)), some (.d (Nm (r + 1))), some (.d (.list (tb.map bl))), e6, none, none], src⟩ = some (.d (.list ((tb.filter fun bs => !bs.any id).map bl)), ⟨[some (.d (wb n cs P)), some (.d (Rw a)), some (.d (wb n' cs' P')), some (.d (Rw b)), some (.d (Nm (r + 1))), some (.d (.list (tb.map bl))), e6, none, none], src⟩) := h1
      have h2 := bof' (cbin h1 (cdisp (b := false) (cs := []) (xs := []) (ds := []) rfl rfl (by rw [sizeLine_eq]; simp)) (bl_fne _))
      have h3 := clc_filt (own := [7]) (as := aName 7) (ic := (icRng1 (.e (cBin fIxD (.e (cVar false 2)) (.e (cC (.int 0))))))) (t := (bOf (cBin (fInD true) (.e (cC (.bool true))) (.e (cLc [8] (aName 8) (icAny (.pk 5)) bYes (cBin fIxD (.e (cVar false 8)) (.e (cVar false 7)))))))) (c := (cVar false 7)) (F := fnAt T 200 (k + 1)) (ds := (List.range n').map Nm) (E1 := [some (.d (wb n cs P)), some (.d (Rw a)), some (.d (wb n' cs' P')), some (.d (Rw b)), some (.d (Nm (r + 1))), some (.d (.list (tb.map bl))), e6, none, none]) (src := src) (s := ⟨[some (.d (wb n cs P)), some (.d (Rw a)), some (.d (wb n' cs' P')), some (.d (Rw b)), some (.d (Nm (r + 1))), some (.d (.list (tb.map bl))), e6, none, none], src⟩) (ic_rng1 (n := n') (cbin (x := wb n' cs' P') (y := .int 0) rfl rfl rfl) (by omega)) (by rw [List.length_map, List.length_range, sizeLine_eq]; omega) (fun d => !(tb.map fun bs => bs.getD (ofN d) false).any id) id (by
        intro d hd
        obtain ⟨y, hy, rfl⟩ := List.mem_map.mp hd
        rw [List.mem_range] at hy
        rw [ofN_nm]
        have g := clc_mapL (own := [8]) (as := aName 8) (ic := (icAny (.pk 5))) (c := (cBin fIxD (.e (cVar false 8)) (.e (cVar false 7)))) (hpk (some (.d (Nm y))) none) (by rw [List.length_map, sizeLine_eq]; omega) (colF y) (by
          intro d hd
          obtain ⟨bs, hbs, rfl⟩ := List.mem_map.mp hd
          have hbl : y < bs.length := by
            rw [htb] at hbs
            unfold tbl at hbs
            obtain ⟨x, _, rfl⟩ := List.mem_map.mp hbs
            rw [List.length_map, List.length_range]
            exact hy
          refine ⟨⟨[some (.d (wb n cs P)), some (.d (Rw a)), some (.d (wb n' cs' P')), some (.d (Rw b)), some (.d (Nm (r + 1))), none, e6, some (.d (Nm y)), some (.d (bl bs))], src⟩, _, rfl, cbin (x := bl bs) (y := Nm y) (s1 := ⟨[some (.d (wb n cs P)), some (.d (Rw a)), some (.d (wb n' cs' P')), some (.d (Rw b)), some (.d (Nm (r + 1))), none, e6, some (.d (Nm y)), some (.d (bl bs))], src⟩) rfl rfl ?_, rfl⟩
          rw [(bl_at hbl).1]
          exact (bl_at hbl).2)
        have ge : (tb.map bl).map (colF y) = (tb.map fun bs => bs.getD y false).map PyData.bool := by
          rw [List.map_map, List.map_map]
          refine List.map_congr_left fun bs hbs => ?_
          have hbl : y < bs.length := by
            rw [htb] at hbs
            unfold tbl at hbs
            obtain ⟨x, _, rfl⟩ := List.mem_map.mp hbs
            rw [List.length_map, List.length_range]
            exact hy
          exact (bl_at hbl).1
        rw [ge] at g
        have g : (cLc [8] (aName 8) (icAny (.pk 5)) bYes (cBin fIxD (.e (cVar false 8)) (.e (cVar false 7)))) (fnAt T 200 (k + 1)) ⟨[some (.d (wb n cs P)), some (.d (Rw a)), some (.d (wb n' cs' P')), some (.d (Rw b)), some (.d (Nm (r + 1))), some (.d (.list (tb.map bl))), e6, some (.d (Nm y)), none], src⟩ = some (.d (bl (tb.map fun bs => bs.getD y false)), ⟨[some (.d (wb n cs P)), some (.d (Rw a)), some (.d (wb n' cs' P')), some (.d (Rw b)), some (.d (Nm (r + 1))), some (.d (.list (tb.map bl))), e6, some (.d (Nm y)), none], src⟩) := g
        exact ⟨⟨[some (.d (wb n cs P)), some (.d (Rw a)), some (.d (wb n' cs' P')), some (.d (Rw b)), some (.d (Nm (r + 1))), some (.d (.list (tb.map bl))), e6, some (.d (Nm y)), none], src⟩, ⟨[some (.d (wb n cs P)), some (.d (Rw a)), some (.d (wb n' cs' P')), some (.d (Rw b)), some (.d (Nm (r + 1))), some (.d (.list (tb.map bl))), e6, some (.d (Nm y)), none], src⟩, rfl, bof' (cbin (x := .bool true) rfl g (bl_in _)), fun _ => ⟨rfl, rfl⟩, fun _ => ⟨_, rfl, rfl⟩⟩)
      have h3e : (((List.range n').map Nm).filter fun d => !(tb.map fun bs => bs.getD (ofN d) false).any id).map id = ((List.range n').filter fun y => !(tb.map fun bs => bs.getD y false).any id).map Nm := by
        rw [List.map_id, List.filter_map]
        rfl
      rw [h3e] at h3
      have h4 := cbin h3 (cdisp (b := false) (cs := []) (xs := []) (ds := []) rfl rfl (by rw [sizeLine_eq]; simp)) (feq_nil _)
      cases hz : (tb.filter fun bs => !bs.any id).isEmpty with
      | false =>
        rw [hz] at h2
        exact e_ret (e_ifT h2 (sret rfl))
      | true =>
        rw [hz] at h2
        exact e_seq (e_ifF h2 rfl) (sret h4)
  | _, _, _, _, _, _, _, 0, h, _ => by omega
end L11
namespace L11
open PySem PySem.Spec L2 Ev PyProof.Rows
section
variable {as : PyData → S → Option S} {own : List Nat} {t : CB} {c : CE} {F : Fn} {ic : IC}
theorem lc_sub (E : List (Option Vx)) (R : Option Src → Prop) (f : PyData → PyData) : ∀ (ds : List PyData) (src : Option Src), R src →
    (∀ d ∈ ds, ∀ src, R src → ∃ s1 b E2 src2, as d ⟨E, src⟩ = some s1 ∧ t F s1 = some (b, ⟨E2, src2⟩) ∧ R src2 ∧ wipeE E2 own = E ∧ (b = true → ∃ E', c F ⟨E2, src2⟩ = some (.d (f d), ⟨E', src2⟩) ∧ wipeE E' own = E)) →
    ∀ E0, wipeE E0 own = E → ∃ ys E2 src2, lcL as own t c F ds ⟨E0, src⟩ = some (ys, ⟨E2, src2⟩) ∧ wipeE E2 own = E ∧ R src2 ∧ ys.Sublist (ds.map f)
  | [], src, h, _, E0, he => ⟨[], E0, src, rfl, he, h, .slnil⟩
  | d :: ds, src, h, st, E0, he => by
    obtain ⟨s1, b, E2, src2, h1, h2, h3, h4, h5⟩ := st d List.mem_cons_self src h
    have hw : wipeS own ⟨E0, src⟩ = ⟨E, src⟩ := by unfold wipeS; rw [he]
    cases b with
    | false =>
      obtain ⟨ys, E3, src3, g1, g2, g3, g4⟩ := lc_sub E R f ds src2 h3 (fun d' hd => st d' (List.mem_cons_of_mem _ hd)) E2 h4
      refine ⟨ys, E3, src3, ?_, g2, g3, .cons _ g4⟩
      unfold lcL
      simp only [hw, h1, h2]
      exact g1
    | true =>
      obtain ⟨E', h6, h7⟩ := h5 rfl
      obtain ⟨ys, E3, src3, g1, g2, g3, g4⟩ := lc_sub E R f ds src2 h3 (fun d' hd => st d' (List.mem_cons_of_mem _ hd)) E' h7
      refine ⟨f d :: ys, E3, src3, ?_, g2, g3, .cons₂ _ g4⟩
      exact lcL_cons (s1 := s1) (by rw [hw]; exact h1) h2 h6 g1
theorem clc_sub {ds : List PyData} {E1 : List (Option Vx)} {src : Option Src} {s : S} (hic : ic F s = some (ds, ⟨E1, src⟩, [])) (hl : ds.length ≤ sizeLine) (R : Option Src → Prop) (f : PyData → PyData) (h0 : R src)
    (st : ∀ d ∈ ds, ∀ src, R src → ∃ s1 b E2 src2, as d ⟨wipeE E1 own, src⟩ = some s1 ∧ t F s1 = some (b, ⟨E2, src2⟩) ∧ R src2 ∧ wipeE E2 own = wipeE E1 own ∧ (b = true → ∃ E', c F ⟨E2, src2⟩ = some (.d (f d), ⟨E', src2⟩) ∧ wipeE E' own = wipeE E1 own)) :
    ∃ ys src2, cLc own as ic t c F s = some (.d (.list ys), ⟨E1, src2⟩) ∧ R src2 ∧ ys.Sublist (ds.map f) := by
  obtain ⟨ys, E2, src2, g1, g2, g3, g4⟩ := lc_sub (as := as) (own := own) (t := t) (c := c) (F := F) (wipeE E1 own) R f ds src h0 st E1 rfl
  refine ⟨ys, src2, ?_, g3, g4⟩
  rw [clc_of hic hl g1]
  unfold unwipeS wipeS
  simp only [g2, unwipe_wipe]
end
theorem nats_of {M : Nat} : ∀ {ys : List PyData}, (∀ y ∈ ys, ∃ c, c < M ∧ y = Nm c) → ∃ cs : List Nat, ys = cs.map Nm ∧ cs.length = ys.length ∧ ∀ c ∈ cs, c < M
  | [], _ => ⟨[], rfl, rfl, fun c h => nomatch h⟩
  | y :: ys, h => by
    obtain ⟨c, hc, rfl⟩ := h y List.mem_cons_self
    obtain ⟨cs, rfl, hl, hm⟩ := nats_of fun y hy => h y (List.mem_cons_of_mem _ hy)
    exact ⟨c :: cs, rfl, by simp, fun x hx => by
      rcases List.mem_cons.mp hx with rfl | hx
      · exact hc
      · exact hm x hx⟩
theorem picks (k : Nat) {i m M : Nat} {ic : IC} {cm : CE} {s : S} {E1 : List (Option Vx)} {x : Src} (hic : ic (fnAt T 200 (k + 1)) s = some ((List.range m).map Nm, ⟨E1, some x⟩, [])) (hm : m ≤ 1000) (hx : x.cells.length ≤ 63) (hM : M < 1000000)
    (hc : ∀ d (y : Src), evArgs [cVar false 0, cm] (fnAt T 200 (k + 1)) ⟨(E1.set i none).set i (some (.d d)), some y⟩ = some ([.src, .d (Nm M)], ⟨(E1.set i none).set i (some (.d d)), some y⟩)) :
    ∃ (cs : List Nat) (x' : Src), cLc [i] (aName i) ic bYes (cCall "_law_pick" [cVar false 0, cm]) (fnAt T 200 (k + 1)) s = some (.d (.list (cs.map Nm)), ⟨E1, some x'⟩) ∧ cs.length = m ∧ (∀ c ∈ cs, c < max 1 M) ∧ x'.cells.length ≤ 63 := by
  obtain ⟨ys, src2, g1, ⟨x', rfl, hx'⟩, g3, g4⟩ := clc_ind (own := [i]) (as := aName i) (t := bYes) (c := (cCall "_law_pick" [cVar false 0, cm])) hic (by rw [List.length_map, List.length_range, sizeLine_eq]; omega) (fun _ src => ∃ y : Src, src = some y ∧ y.cells.length ≤ 63) (fun _ y => ∃ c, c < max 1 M ∧ y = Nm c) ⟨x, rfl, hx⟩ (by
    rintro j d src hj ⟨y, rfl, hy⟩
    obtain ⟨r, y2, e, hy2, r0, r1⟩ := pick_ok k y hy (M : Int) (by omega)
    obtain ⟨c, rfl⟩ : ∃ c : Nat, r = (c : Int) := ⟨r.toNat, by omega⟩
    refine ⟨⟨(E1.set i none).set i (some (.d d)), some y⟩, ⟨(E1.set i none).set i (some (.d d)), some y⟩, Nm c, (E1.set i none).set i (some (.d d)), some y2, rfl, rfl, ccall (hc d y) e, ?_, ⟨y2, rfl, hy2⟩, c, by omega, rfl⟩
    show ((E1.set i none).set i (some (.d d))).set i none = E1.set i none
    rw [List.set_set, List.set_set])
  obtain ⟨cs, rfl, hl, hcs⟩ := nats_of (ys := ys) (M := max 1 M) fun y hy => by
    obtain ⟨j, hj⟩ := List.mem_iff_getElem?.mp hy
    exact g4 j y hj
  exact ⟨cs, x', g1, by rw [hl, g3, List.length_map, List.length_range], hcs, hx'⟩
theorem law_row_ok (k : Nat) {n many : Nat} {cs : List Nat} {P : Nat → Nat → Bool} (hw : Wb n cs) (hm : many ≤ 10) (x : Src) (hx : x.cells.length ≤ 63) : ∃ (row : List Nat) (x' : Src), (fnAt T 200 (k + 2)).call "_law_row" [.src, .d (wb n cs P), .d (Nm many)] (some x) = some (.d (Rw row), some x') ∧ row.length = many ∧ (∀ c ∈ row, c < n) ∧ x'.cells.length ≤ 63 := by
  have n1 := hw.n1
  have n5 := hw.n5
  obtain ⟨cs', x', g1, g2, g3, g4⟩ := picks k (i := 3) (m := many) (M := n) (ic := (icRng1 (.e (cVar false 2)))) (cm := (cBin fIxD (.e (cVar false 1)) (.e (cC (.int 0))))) (s := ⟨[some .src, some (.d (wb n cs P)), some (.d (Nm many)), none], some x⟩) (ic_rng1 rfl (by omega)) (by omega) hx (by omega) (fun d y => rfl)
  refine ⟨cs', x', ?_, g2, fun c hc => by have := g3 c hc; omega, g4⟩
  rw [fnAt_call (d := ⟨3, 4, b__law_row⟩) rfl]
  refine run_env (n := 3) (nn := 4) (s' := ⟨[some .src, some (.d (wb n cs P)), some (.d (Nm many)), none], some x'⟩) rfl rfl ?_
  exact sret (cnat1 g1 rfl)
def ArOk (n B : Nat) (ar : List (Nat × Nat)) : Prop := (∀ p ∈ ar, p.1 < n ∧ p.2 < n) ∧ ar.length ≤ B

theorem web_for (k : Nat) {n most hi sh : Nat} {w : Int} (hn : n ≤ 5) (x : Src) (hx : x.cells.length ≤ 63) : ∃ (ar : List (Nat × Nat)) (e7 : Option Vx) (x' : Src), sFor (aName 7) (icRng1 (.e (cVar false 2))) (sPar [6] [(cBin fAdd (.e (cVar false 6)) (.e (cLc [8] (aName 8) (icRng1 (.e (cVar false 2))) (bAnd (bOf (cBin fNe (.e (cVar false 7)) (.e (cVar false 8)))) (bOf (cBin fLt (.e (cCall "_law_pick" [(cVar false 0), (cC (.int 4))])) (.e (cVar false 5))))) (cDisp true [(cVar false 7), (cVar false 8)]))))]) (fnAt T 200 (k + 1)) ⟨[some .src, some (.d (Nm most)), some (.d (Nm n)), some (.d (.int w)), some (.d (Nm hi)), some (.d (Nm sh)), some (.d (.list [])), none, none], some x⟩ = some (.nx, ⟨[some .src, some (.d (Nm most)), some (.d (Nm n)), some (.d (.int w)), some (.d (Nm hi)), some (.d (Nm sh)), some (.d (.list (ar.map pr))), e7, none], some x'⟩) ∧ ArOk n 40 ar ∧ x'.cells.length ≤ 63 := by
  obtain ⟨s', hfor, e7, ar, x', rfl, hx', hlt, hlen⟩ := sfor_ind (as := aName 7) (ic := icRng1 (.e (cVar false 2))) (F := fnAt T 200 (k + 1)) (b := (sPar [6] [(cBin fAdd (.e (cVar false 6)) (.e (cLc [8] (aName 8) (icRng1 (.e (cVar false 2))) (bAnd (bOf (cBin fNe (.e (cVar false 7)) (.e (cVar false 8)))) (bOf (cBin fLt (.e (cCall "_law_pick" [(cVar false 0), (cC (.int 4))])) (.e (cVar false 5))))) (cDisp true [(cVar false 7), (cVar false 8)]))))])) (s := ⟨[some .src, some (.d (Nm most)), some (.d (Nm n)), some (.d (.int w)), some (.d (Nm hi)), some (.d (Nm sh)), some (.d (.list [])), none, none], some x⟩) (ic_rng1 rfl (by omega))
    (fun j s => ∃ e7, ∃ ar : List (Nat × Nat), ∃ x', s = ⟨[some .src, some (.d (Nm most)), some (.d (Nm n)), some (.d (.int w)), some (.d (Nm hi)), some (.d (Nm sh)), some (.d (.list (ar.map pr))), e7, none], some x'⟩ ∧ x'.cells.length ≤ 63 ∧ (∀ p ∈ ar, p.1 < n ∧ p.2 < n) ∧ ar.length ≤ 5 * j) ⟨none, [], x, rfl, hx, (by intro p hp; cases hp), Nat.le_refl _⟩ (by
      rintro j d s hj ⟨e7, ar, x', rfl, hx', hlt, hlen⟩
      have hjn : j < n := by
        have := (List.getElem?_eq_some_iff.mp hj).1
        rwa [List.length_map, List.length_range] at this
      rw [List.getElem?_map, range_at hjn] at hj
      cases hj
      obtain ⟨ys, src2, g1, ⟨x3, rfl, hx3⟩, g3⟩ := clc_sub (own := [8]) (as := aName 8) (ic := (icRng1 (.e (cVar false 2)))) (t := (bAnd (bOf (cBin fNe (.e (cVar false 7)) (.e (cVar false 8)))) (bOf (cBin fLt (.e (cCall "_law_pick" [(cVar false 0), (cC (.int 4))])) (.e (cVar false 5)))))) (c := (cDisp true [(cVar false 7), (cVar false 8)])) (F := fnAt T 200 (k + 1)) (ds := (List.range n).map Nm) (E1 := [some .src, some (.d (Nm most)), some (.d (Nm n)), some (.d (.int w)), some (.d (Nm hi)), some (.d (Nm sh)), some (.d (.list (ar.map pr))), some (.d (Nm j)), none]) (src := some x') (s := ⟨[some .src, some (.d (Nm most)), some (.d (Nm n)), some (.d (.int w)), some (.d (Nm hi)), some (.d (Nm sh)), some (.d (.list (ar.map pr))), some (.d (Nm j)), none], some x'⟩) (ic_rng1 rfl (by omega)) (by rw [List.length_map, List.length_range, sizeLine_eq]; omega)
        (fun src => ∃ y : Src, src = some y ∧ y.cells.length ≤ 63) (fun d => .tuple [Nm j, d]) ⟨x', rfl, hx'⟩ (by
          rintro d hd src ⟨y, rfl, hy⟩
          obtain ⟨b, hb, rfl⟩ := List.mem_map.mp hd
          obtain ⟨r, y2, e3, hy2, r0, r1⟩ := pick_ok k y hy 4 (by decide)
          have t1 : (bOf (cBin fNe (.e (cVar false 7)) (.e (cVar false 8)))) (fnAt T 200 (k + 1)) ⟨[some .src, some (.d (Nm most)), some (.d (Nm n)), some (.d (.int w)), some (.d (Nm hi)), some (.d (Nm sh)), some (.d (.list (ar.map pr))), some (.d (Nm j)), some (.d (Nm b))], some y⟩ = some (!((j : Int) == (b : Int)), ⟨[some .src, some (.d (Nm most)), some (.d (Nm n)), some (.d (.int w)), some (.d (Nm hi)), some (.d (Nm sh)), some (.d (.list (ar.map pr))), some (.d (Nm j)), some (.d (Nm b))], some y⟩) := bof' (cbin (x := Nm j) (y := Nm b) rfl rfl (fne_int _ _))
          cases hq : (!((j : Int) == (b : Int))) with
          | false =>
            rw [hq] at t1
            refine ⟨⟨[some .src, some (.d (Nm most)), some (.d (Nm n)), some (.d (.int w)), some (.d (Nm hi)), some (.d (Nm sh)), some (.d (.list (ar.map pr))), some (.d (Nm j)), some (.d (Nm b))], some y⟩, false, [some .src, some (.d (Nm most)), some (.d (Nm n)), some (.d (.int w)), some (.d (Nm hi)), some (.d (Nm sh)), some (.d (.list (ar.map pr))), some (.d (Nm j)), some (.d (Nm b))], some y, rfl, ?_, ⟨y, rfl, hy⟩, rfl, fun z => nomatch z⟩
            unfold bAnd
            rw [t1]
          | true =>
            rw [hq] at t1
            refine ⟨⟨[some .src, some (.d (Nm most)), some (.d (Nm n)), some (.d (.int w)), some (.d (Nm hi)), some (.d (Nm sh)), some (.d (.list (ar.map pr))), some (.d (Nm j)), some (.d (Nm b))], some y⟩, decide (r < (sh : Int)), [some .src, some (.d (Nm most)), some (.d (Nm n)), some (.d (.int w)), some (.d (Nm hi)), some (.d (Nm sh)), some (.d (.list (ar.map pr))), some (.d (Nm j)), some (.d (Nm b))], some y2, rfl, ?_, ⟨y2, rfl, hy2⟩, rfl, fun _ => ⟨_, cdisp (b := true) (xs := [.d (Nm j), .d (Nm b)]) rfl rfl (by rw [sizeLine_eq]; simp), rfl⟩⟩
            unfold bAnd
            rw [t1]
            exact bof' (cbin (y := Nm sh) (ccall (s1 := ⟨[some .src, some (.d (Nm most)), some (.d (Nm n)), some (.d (.int w)), some (.d (Nm hi)), some (.d (Nm sh)), some (.d (.list (ar.map pr))), some (.d (Nm j)), some (.d (Nm b))], some y⟩) (xs := [.src, .d (.int 4)]) rfl e3) rfl rfl))
      have hmap : ((List.range n).map Nm).map (fun d => PyData.tuple [Nm j, d]) = ((List.range n).map fun i => (j, i)).map pr := by
        rw [List.map_map, List.map_map]
        rfl
      rw [hmap] at g3
      obtain ⟨zs, hz, rfl⟩ := List.sublist_map_iff.mp g3
      have hzm : ∀ p ∈ zs, p.1 < n ∧ p.2 < n := fun p hp => by
        obtain ⟨i, hi, rfl⟩ := List.mem_map.mp (hz.subset hp)
        exact ⟨hjn, List.mem_range.mp hi⟩
      have hzl : zs.length ≤ 5 := by
        have := hz.length_le
        rw [List.length_map, List.length_range] at this
        omega
      refine ⟨⟨[some .src, some (.d (Nm most)), some (.d (Nm n)), some (.d (.int w)), some (.d (Nm hi)), some (.d (Nm sh)), some (.d (.list (ar.map pr))), some (.d (Nm j)), none], some x'⟩, _, rfl, spar1 (x := .d (.list ((ar ++ zs).map pr))) (s1 := ⟨[some .src, some (.d (Nm most)), some (.d (Nm n)), some (.d (.int w)), some (.d (Nm hi)), some (.d (Nm sh)), some (.d (.list (ar.map pr))), some (.d (Nm j)), none], some x3⟩) ?_, some (.d (Nm j)), ar ++ zs, x3, rfl, hx3, ?_, by rw [List.length_append]; omega⟩
      · rw [List.map_append]
        exact cbin rfl g1 (fadd_list (by rw [List.length_map, List.length_map]; omega))
      · intro p hp
        rcases List.mem_append.mp hp with h | h
        · exact hlt p h
        · exact hzm p h)
  rw [List.length_map, List.length_range] at hlen
  exact ⟨ar, e7, x', hfor, ⟨hlt, by omega⟩, hx'⟩

theorem web_way1 (F : Fn) {n most hi sh B : Nat} {w : Int} (n1 : 1 ≤ n) (hn : n ≤ 5) (e7 : Option Vx) (x : Src) {ar : List (Nat × Nat)} (ha : ArOk n 40 ar) : ∃ ar' : List (Nat × Nat), (sIf (bOf (cBin fEq (.e (cVar false 3)) (.e (cC (.int 1))))) (sPar [6] [(cBin fAdd (.e (cVar false 6)) (.e (cLc [7, 8] (aTup 2 (aCons (aName 7) (aCons (aName 8) aNil))) (icAny (.e (cVar false 6))) bYes (cDisp true [(cVar false 8), (cVar false 7)]))))]) sPass) F ⟨[some .src, some (.d (Nm most)), some (.d (Nm n)), some (.d (.int w)), some (.d (Nm hi)), some (.d (Nm sh)), some (.d (.list (ar.map pr))), e7, none], some x⟩ = some (.nx, ⟨[some .src, some (.d (Nm most)), some (.d (Nm n)), some (.d (.int w)), some (.d (Nm hi)), some (.d (Nm sh)), some (.d (.list (ar'.map pr))), e7, none], some x⟩) ∧ ArOk n 80 ar' := by
  have ht : (bOf (cBin fEq (.e (cVar false 3)) (.e (cC (.int 1))))) F ⟨[some .src, some (.d (Nm most)), some (.d (Nm n)), some (.d (.int w)), some (.d (Nm hi)), some (.d (Nm sh)), some (.d (.list (ar.map pr))), e7, none], some x⟩ = some ((w == 1), ⟨[some .src, some (.d (Nm most)), some (.d (Nm n)), some (.d (.int w)), some (.d (Nm hi)), some (.d (Nm sh)), some (.d (.list (ar.map pr))), e7, none], some x⟩) := bof' (cbin (x := .int w) (y := .int 1) rfl rfl (feq_int _ _))
  have hlen := ha.2
  cases hq : (w == 1) with
  | false =>
    rw [hq] at ht
    exact ⟨ar, e_ifF ht rfl, ha.1, by omega⟩
  | true =>
    rw [hq] at ht
    have hm := clc_map (own := [7, 8]) (as := (aTup 2 (aCons (aName 7) (aCons (aName 8) aNil)))) (ic := (icAny (.e (cVar false 6)))) (c := (cDisp true [(cVar false 8), (cVar false 7)])) (F := F) (ds := ar.map pr) (E1 := [some .src, some (.d (Nm most)), some (.d (Nm n)), some (.d (.int w)), some (.d (Nm hi)), some (.d (Nm sh)), some (.d (.list (ar.map pr))), e7, none]) (src := some x) (s := ⟨[some .src, some (.d (Nm most)), some (.d (Nm n)), some (.d (.int w)), some (.d (Nm hi)), some (.d (Nm sh)), some (.d (.list (ar.map pr))), e7, none], some x⟩) (ic_any rfl) (by rw [List.length_map, sizeLine_eq]; omega) (fun d => match d with | .tuple [a, b] => .tuple [b, a] | _ => .none) (by
      intro d hd
      obtain ⟨p, hp, rfl⟩ := List.mem_map.mp hd
      exact ⟨⟨[some .src, some (.d (Nm most)), some (.d (Nm n)), some (.d (.int w)), some (.d (Nm hi)), some (.d (Nm sh)), some (.d (.list (ar.map pr))), some (.d (Nm p.1)), some (.d (Nm p.2))], some x⟩, _, rfl, cdisp (b := true) (xs := [.d (Nm p.2), .d (Nm p.1)]) rfl rfl (by rw [sizeLine_eq]; simp), rfl⟩)
    have he : (ar.map pr).map (fun d => match d with | .tuple [a, b] => .tuple [b, a] | _ => PyData.none) = (ar.map sw).map pr := by
      rw [List.map_map, List.map_map]
      rfl
    rw [he] at hm
    refine ⟨ar ++ ar.map sw, e_ifT ht (spar1 (x := .d (.list ((ar ++ ar.map sw).map pr))) (s1 := ⟨[some .src, some (.d (Nm most)), some (.d (Nm n)), some (.d (.int w)), some (.d (Nm hi)), some (.d (Nm sh)), some (.d (.list (ar.map pr))), e7, none], some x⟩) ?_), fun p hp => ?_, by rw [List.length_append, List.length_map]; omega⟩
    · rw [List.map_append]
      exact cbin rfl hm (fadd_list (by rw [List.length_map, List.length_map, List.length_map]; omega))
    · rcases List.mem_append.mp hp with h | h
      · exact ha.1 p h
      · obtain ⟨q, hq, rfl⟩ := List.mem_map.mp h
        have := ha.1 q hq
        exact ⟨this.2, this.1⟩

theorem web_way2 (F : Fn) {n most hi sh B : Nat} {w : Int} (n1 : 1 ≤ n) (hn : n ≤ 5) (e7 : Option Vx) (x : Src) {ar : List (Nat × Nat)} (ha : ArOk n 80 ar) : ∃ ar' : List (Nat × Nat), (sIf (bOf (cBin fEq (.e (cVar false 3)) (.e (cC (.int 2))))) (sPar [6] [(cLc [7] (aName 7) (icRng1 (.e (cVar false 2))) (bOf (cBin fGt (.e (cVar false 2)) (.e (cC (.int 1))))) (cDisp true [(cVar false 7), (cBin fMod (.e (cNat fInt [(.e (cBin fAdd (.e (cVar false 7)) (.e (cC (.int 1)))))])) (.e (cVar false 2)))]))]) sPass) F ⟨[some .src, some (.d (Nm most)), some (.d (Nm n)), some (.d (.int w)), some (.d (Nm hi)), some (.d (Nm sh)), some (.d (.list (ar.map pr))), e7, none], some x⟩ = some (.nx, ⟨[some .src, some (.d (Nm most)), some (.d (Nm n)), some (.d (.int w)), some (.d (Nm hi)), some (.d (Nm sh)), some (.d (.list (ar'.map pr))), e7, none], some x⟩) ∧ ArOk n 80 ar' := by
  have ht : (bOf (cBin fEq (.e (cVar false 3)) (.e (cC (.int 2))))) F ⟨[some .src, some (.d (Nm most)), some (.d (Nm n)), some (.d (.int w)), some (.d (Nm hi)), some (.d (Nm sh)), some (.d (.list (ar.map pr))), e7, none], some x⟩ = some ((w == 2), ⟨[some .src, some (.d (Nm most)), some (.d (Nm n)), some (.d (.int w)), some (.d (Nm hi)), some (.d (Nm sh)), some (.d (.list (ar.map pr))), e7, none], some x⟩) := bof' (cbin (x := .int w) (y := .int 2) rfl rfl (feq_int _ _))
  have hlen := ha.2
  cases hq : (w == 2) with
  | false =>
    rw [hq] at ht
    exact ⟨ar, e_ifF ht rfl, ha.1, by omega⟩
  | true =>
    rw [hq] at ht
    have hm := clc_filt (own := [7]) (as := aName 7) (ic := (icRng1 (.e (cVar false 2)))) (t := (bOf (cBin fGt (.e (cVar false 2)) (.e (cC (.int 1)))))) (c := (cDisp true [(cVar false 7), (cBin fMod (.e (cNat fInt [(.e (cBin fAdd (.e (cVar false 7)) (.e (cC (.int 1)))))])) (.e (cVar false 2)))])) (F := F) (ds := (List.range n).map Nm) (E1 := [some .src, some (.d (Nm most)), some (.d (Nm n)), some (.d (.int w)), some (.d (Nm hi)), some (.d (Nm sh)), some (.d (.list (ar.map pr))), e7, none]) (src := some x) (s := ⟨[some .src, some (.d (Nm most)), some (.d (Nm n)), some (.d (.int w)), some (.d (Nm hi)), some (.d (Nm sh)), some (.d (.list (ar.map pr))), e7, none], some x⟩) (ic_rng1 rfl (by omega)) (by rw [List.length_map, List.length_range, sizeLine_eq]; omega) (fun _ => decide ((n : Int) > 1)) (fun d => pr (ofN d, (ofN d + 1) % n)) (by
      intro d hd
      obtain ⟨a, hp, rfl⟩ := List.mem_map.mp hd
      refine ⟨⟨[some .src, some (.d (Nm most)), some (.d (Nm n)), some (.d (.int w)), some (.d (Nm hi)), some (.d (Nm sh)), some (.d (.list (ar.map pr))), some (.d (Nm a)), none], some x⟩, ⟨[some .src, some (.d (Nm most)), some (.d (Nm n)), some (.d (.int w)), some (.d (Nm hi)), some (.d (Nm sh)), some (.d (.list (ar.map pr))), some (.d (Nm a)), none], some x⟩, rfl, bof' (cbin (x := Nm n) (y := .int 1) rfl rfl rfl), fun _ => ⟨rfl, rfl⟩, fun _ => ⟨[some .src, some (.d (Nm most)), some (.d (Nm n)), some (.d (.int w)), some (.d (Nm hi)), some (.d (Nm sh)), some (.d (.list (ar.map pr))), some (.d (Nm a)), none], cdisp (b := true) (xs := [.d (Nm a), .d (Nm ((a + 1) % n))]) (eargs (x := .d (Nm a)) rfl (eargs (cs := []) (x := .d (Nm ((a + 1) % n))) ?_ rfl)) rfl (by rw [sizeLine_eq]; simp), rfl⟩⟩
      refine cbin (x := Nm (a + 1)) (y := Nm n) (cnat1 (x := Nm (a + 1)) (cbin (x := Nm a) (y := .int 1) rfl rfl rfl) rfl) rfl ((mod_ok _ _ (by omega)).trans ?_)
      show some (PyData.int (((a + 1 : Nat) : Int) % (n : Int))) = some (PyData.int (((a + 1) % n : Nat) : Int))
      rw [Int.natCast_emod])
    have he : (((List.range n).map Nm).filter (fun _ => decide ((n : Int) > 1))).map (fun d => pr (ofN d, (ofN d + 1) % n)) = (((List.range n).filter (fun _ => decide ((n : Int) > 1))).map fun a => (a, (a + 1) % n)).map pr := by
      rw [List.filter_map, List.map_map, List.map_map]
      rfl
    rw [he] at hm
    refine ⟨_, e_ifT ht (spar1 (s1 := ⟨[some .src, some (.d (Nm most)), some (.d (Nm n)), some (.d (.int w)), some (.d (Nm hi)), some (.d (Nm sh)), some (.d (.list (ar.map pr))), e7, none], some x⟩) hm), fun p hp => ?_, ?_⟩
    · obtain ⟨q, hq, rfl⟩ := List.mem_map.mp hp
      exact ⟨List.mem_range.mp (List.mem_filter.mp hq).1, Nat.mod_lt _ (by omega)⟩
    · rw [List.length_map]
      have := List.length_filter_le (fun _ => decide ((n : Int) > 1)) (List.range n)
      rw [List.length_range] at this
      omega

theorem web_way3 (F : Fn) {n most hi sh B : Nat} {w : Int} (n1 : 1 ≤ n) (hn : n ≤ 5) (e7 : Option Vx) (x : Src) {ar : List (Nat × Nat)} (ha : ArOk n 80 ar) : ∃ ar' : List (Nat × Nat), (sIf (bOf (cBin fEq (.e (cVar false 3)) (.e (cC (.int 3))))) (sPar [6] [(cLc [7] (aName 7) (icRng1 (.e (cBin fSub (.e (cVar false 2)) (.e (cC (.int 1)))))) bYes (cDisp true [(cVar false 7), (cBin fAdd (.e (cVar false 7)) (.e (cC (.int 1))))]))]) sPass) F ⟨[some .src, some (.d (Nm most)), some (.d (Nm n)), some (.d (.int w)), some (.d (Nm hi)), some (.d (Nm sh)), some (.d (.list (ar.map pr))), e7, none], some x⟩ = some (.nx, ⟨[some .src, some (.d (Nm most)), some (.d (Nm n)), some (.d (.int w)), some (.d (Nm hi)), some (.d (Nm sh)), some (.d (.list (ar'.map pr))), e7, none], some x⟩) ∧ ArOk n 80 ar' := by
  have ht : (bOf (cBin fEq (.e (cVar false 3)) (.e (cC (.int 3))))) F ⟨[some .src, some (.d (Nm most)), some (.d (Nm n)), some (.d (.int w)), some (.d (Nm hi)), some (.d (Nm sh)), some (.d (.list (ar.map pr))), e7, none], some x⟩ = some ((w == 3), ⟨[some .src, some (.d (Nm most)), some (.d (Nm n)), some (.d (.int w)), some (.d (Nm hi)), some (.d (Nm sh)), some (.d (.list (ar.map pr))), e7, none], some x⟩) := bof' (cbin (x := .int w) (y := .int 3) rfl rfl (feq_int _ _))
  have hlen := ha.2
  cases hq : (w == 3) with
  | false =>
    rw [hq] at ht
    exact ⟨ar, e_ifF ht rfl, ha.1, by omega⟩
  | true =>
    rw [hq] at ht
    have hm := clc_map (own := [7]) (as := aName 7) (ic := (icRng1 (.e (cBin fSub (.e (cVar false 2)) (.e (cC (.int 1))))))) (c := (cDisp true [(cVar false 7), (cBin fAdd (.e (cVar false 7)) (.e (cC (.int 1))))])) (F := F) (ds := (List.range (n - 1)).map Nm) (E1 := [some .src, some (.d (Nm most)), some (.d (Nm n)), some (.d (.int w)), some (.d (Nm hi)), some (.d (Nm sh)), some (.d (.list (ar.map pr))), e7, none]) (src := some x) (s := ⟨[some .src, some (.d (Nm most)), some (.d (Nm n)), some (.d (.int w)), some (.d (Nm hi)), some (.d (Nm sh)), some (.d (.list (ar.map pr))), e7, none], some x⟩) (ic_rng1 (n := n - 1) (cbin (x := Nm n) (y := .int 1) rfl rfl (by show some (PyData.int ((n : Int) - 1)) = _; rw [show (n : Int) - 1 = ((n - 1 : Nat) : Int) by omega])) (by omega)) (by rw [List.length_map, List.length_range, sizeLine_eq]; omega) (fun d => pr (ofN d, ofN d + 1)) (by
      intro d hd
      obtain ⟨a, hp, rfl⟩ := List.mem_map.mp hd
      exact ⟨⟨[some .src, some (.d (Nm most)), some (.d (Nm n)), some (.d (.int w)), some (.d (Nm hi)), some (.d (Nm sh)), some (.d (.list (ar.map pr))), some (.d (Nm a)), none], some x⟩, _, rfl, cdisp (b := true) (xs := [.d (Nm a), .d (Nm (a + 1))]) rfl rfl (by rw [sizeLine_eq]; simp), rfl⟩)
    have he : ((List.range (n - 1)).map Nm).map (fun d => pr (ofN d, ofN d + 1)) = ((List.range (n - 1)).map fun a => (a, a + 1)).map pr := by
      rw [List.map_map, List.map_map]
      rfl
    rw [he] at hm
    refine ⟨_, e_ifT ht (spar1 (s1 := ⟨[some .src, some (.d (Nm most)), some (.d (Nm n)), some (.d (.int w)), some (.d (Nm hi)), some (.d (Nm sh)), some (.d (.list (ar.map pr))), e7, none], some x⟩) hm), fun p hp => ?_, ?_⟩
    · obtain ⟨q, hq, rfl⟩ := List.mem_map.mp hp
      rw [List.mem_range] at hq
      exact ⟨by show q < n; omega, by show q + 1 < n; omega⟩
    · rw [List.length_map, List.length_range]
      omega

theorem law_web_ok (k : Nat) {most : Nat} (h1 : 1 ≤ most) (h5 : most ≤ 5) (x : Src) (hx : x.cells.length ≤ 63) : ∃ (n : Nat) (cs : List Nat) (P : Nat → Nat → Bool) (x' : Src), (fnAt T 200 (k + 3)).call "_law_web" [.src, .d (Nm most)] (some x) = some (.d (wb n cs P), some x') ∧ Wb n cs ∧ n ≤ most ∧ x'.cells.length ≤ 63 := by
  obtain ⟨r1, x1, e1, hx1, a0, a1⟩ := pick_ok (k + 1) x hx (most : Int) (by omega)
  obtain ⟨w, x2, e2, hx2, b0, b1⟩ := pick_ok (k + 1) x1 hx1 5 (by decide)
  obtain ⟨hd, x3, hm3, e3, hx3⟩ := law_of_ok k x2 hx2 (ds := [.int 1, .int 1, .int 2]) (by simp) (by simp)
  obtain ⟨sh', x4, e4, hx4, c0, c1⟩ := pick_ok (k + 1) x3 hx3 5 (by decide)
  obtain ⟨n, hn⟩ : ∃ n : Nat, 1 + r1 = (n : Int) := ⟨(1 + r1).toNat, by omega⟩
  obtain ⟨sh, rfl⟩ : ∃ n : Nat, sh' = (n : Int) := ⟨sh'.toNat, by omega⟩
  obtain ⟨hi, rfl, hhi⟩ : ∃ n : Nat, hd = Nm n ∧ n ≤ 2 := by
    simp only [List.mem_cons, List.not_mem_nil, or_false] at hm3
    rcases hm3 with rfl | rfl | rfl
    · exact ⟨1, rfl, by omega⟩
    · exact ⟨1, rfl, by omega⟩
    · exact ⟨2, rfl, by omega⟩
  obtain ⟨ar0, e7, x5, hfor, ha0, hx5⟩ := web_for (k + 1) (n := n) (most := most) (hi := hi) (sh := sh) (w := w) (by omega) x4 hx4
  obtain ⟨ar1, hw1, ha1⟩ := web_way1 (B := 0) (fnAt T 200 (k + 2)) (n := n) (most := most) (hi := hi) (sh := sh) (w := w) (by omega) (by omega) e7 x5 ha0
  obtain ⟨ar2, hw2, ha2⟩ := web_way2 (B := 0) (fnAt T 200 (k + 2)) (n := n) (most := most) (hi := hi) (sh := sh) (w := w) (by omega) (by omega) e7 x5 ha1
  obtain ⟨ar, hw3, ha⟩ := web_way3 (B := 0) (fnAt T 200 (k + 2)) (n := n) (most := most) (hi := hi) (sh := sh) (w := w) (by omega) (by omega) e7 x5 ha2
  obtain ⟨cs, x6, g1, g2, g3, hx6⟩ := picks (k + 1) (i := 7) (m := n) (M := hi) (ic := (icRng1 (.e (cVar false 2)))) (cm := (cVar false 4)) (s := ⟨[some .src, some (.d (Nm most)), some (.d (Nm n)), some (.d (.int w)), some (.d (Nm hi)), some (.d (Nm sh)), some (.d (.list (ar.map pr))), e7, none], some x5⟩) (ic_rng1 rfl (by omega)) (by omega) hx5 (by omega) (fun d y => rfl)
  have hcall := told_ok (k + 1) (n := n) cs (ar := ar) (cd := .list (cs.map Nm)) (.inl rfl) (by have := ha.2; omega) ha.1 (some x6)
  refine ⟨n, cs, memP ar, x6, ?_, ⟨by omega, by omega, g2, fun c hc => by have := g3 c hc; omega⟩, by omega, hx6⟩
  rw [fnAt_call (d := ⟨2, 9, b__law_web⟩) rfl]
  refine run_env (n := 2) (nn := 9) (s' := ⟨[some .src, some (.d (Nm most)), some (.d (Nm n)), some (.d (.int w)), some (.d (Nm hi)), some (.d (Nm sh)), some (.d (.list (ar.map pr))), e7, none], some x6⟩) rfl rfl ?_
  show b__law_web (fnAt T 200 (k + 2)) ⟨[some .src, some (.d (Nm most)), none, none, none, none, none, none, none], some x⟩ = _
  unfold b__law_web
  have p1 : (cBin fAdd (.e (cC (.int 1))) (.e (cCall "_law_pick" [(cVar false 0), (cVar false 1)]))) (fnAt T 200 (k + 2)) ⟨[some .src, some (.d (Nm most)), none, none, none, none, none, none, none], some x⟩ = some (.d (Nm n), ⟨[some .src, some (.d (Nm most)), none, none, none, none, none, none, none], some x1⟩) := by
    show _ = some (Vx.d (.int (n : Int)), _)
    rw [← hn]
    exact cbin (x := .int 1) (y := .int r1) rfl (ccall (s1 := ⟨[some .src, some (.d (Nm most)), none, none, none, none, none, none, none], some x⟩) (xs := [.src, .d (Nm most)]) rfl e1) rfl
  have p2 : (cCall "_law_pick" [(cVar false 0), (cC (.int 5))]) (fnAt T 200 (k + 2)) ⟨[some .src, some (.d (Nm most)), none, none, none, none, none, none, none], some x1⟩ = some (.d (.int w), ⟨[some .src, some (.d (Nm most)), none, none, none, none, none, none, none], some x2⟩) := ccall (s1 := ⟨[some .src, some (.d (Nm most)), none, none, none, none, none, none, none], some x1⟩) (xs := [.src, .d (.int 5)]) rfl e2
  have p3 : (cCall "_law_of" [(cVar false 0), (cDisp false [(cC (.int 1)), (cC (.int 1)), (cC (.int 2))])]) (fnAt T 200 (k + 2)) ⟨[some .src, some (.d (Nm most)), some (.d (Nm n)), some (.d (.int w)), none, none, none, none, none], some x2⟩ = some (.d (Nm hi), ⟨[some .src, some (.d (Nm most)), some (.d (Nm n)), some (.d (.int w)), none, none, none, none, none], some x3⟩) := ccall (s1 := ⟨[some .src, some (.d (Nm most)), some (.d (Nm n)), some (.d (.int w)), none, none, none, none, none], some x2⟩) (xs := [.src, .d (.list [.int 1, .int 1, .int 2])]) rfl e3
  have p4 : (cCall "_law_pick" [(cVar false 0), (cC (.int 5))]) (fnAt T 200 (k + 2)) ⟨[some .src, some (.d (Nm most)), some (.d (Nm n)), some (.d (.int w)), none, none, none, none, none], some x3⟩ = some (.d (Nm sh), ⟨[some .src, some (.d (Nm most)), some (.d (Nm n)), some (.d (.int w)), none, none, none, none, none], some x4⟩) := ccall (s1 := ⟨[some .src, some (.d (Nm most)), some (.d (Nm n)), some (.d (.int w)), none, none, none, none, none], some x3⟩) (xs := [.src, .d (.int 5)]) rfl e4
  have q : sPar [4, 5, 6] [(cCall "_law_of" [(cVar false 0), (cDisp false [(cC (.int 1)), (cC (.int 1)), (cC (.int 2))])]), (cCall "_law_pick" [(cVar false 0), (cC (.int 5))]), (cDisp false [])] (fnAt T 200 (k + 2)) ⟨[some .src, some (.d (Nm most)), some (.d (Nm n)), some (.d (.int w)), none, none, none, none, none], some x2⟩ = some (.nx, ⟨[some .src, some (.d (Nm most)), some (.d (Nm n)), some (.d (.int w)), some (.d (Nm hi)), some (.d (Nm sh)), some (.d (.list [])), none, none], some x4⟩) := by
    unfold sPar
    rw [eargs p3 (eargs p4 (eargs (cs := []) (x := .d (.list [])) (cdisp (b := false) (cs := []) (xs := []) (ds := []) rfl rfl (by rw [sizeLine_eq]; simp)) rfl))]
    rfl
  refine e_seq (spar2 p1 p2) (e_seq (s1 := ⟨[some .src, some (.d (Nm most)), some (.d (Nm n)), some (.d (.int w)), some (.d (Nm hi)), some (.d (Nm sh)), some (.d (.list [])), none, none], some x4⟩) ?_ (e_seq hfor (e_seq hw1 (e_seq hw2 (e_seq hw3 (sret ?_))))))
  · exact q
  · exact ccall (s1 := ⟨[some .src, some (.d (Nm most)), some (.d (Nm n)), some (.d (.int w)), some (.d (Nm hi)), some (.d (Nm sh)), some (.d (.list (ar.map pr))), e7, none], some x6⟩) (xs := [.d (Nm n), .d (.list (cs.map Nm)), .d (.list (ar.map pr))]) (eargs (x := .d (Nm n)) rfl (eargs g1 (eargs (cs := []) (x := .d (.list (ar.map pr))) rfl rfl))) hcall
end L11
namespace L11
open PySem PySem.Spec L2 Ev PyProof.Rows
theorem clrng {F : Fn} {s : S} {c : CE} {n : Nat} (h : c F s = some (.d (Nm n), s)) (hn : n ≤ 1000000) : cLRng (.e c) F s = some (.d (.list ((List.range n).map Nm)), s) := by
  unfold cLRng Opd.ev
  simp only [h]
  rw [if_pos (by omega), Int.toNat_natCast, ints0]
  rfl
theorem rep_flat (c : Nat) : ∀ n : Nat, (List.replicate n [Nm c]).flatten = (List.replicate n c).map Nm
  | 0 => rfl
  | n + 1 => by
    rw [List.replicate_succ, List.flatten_cons, rep_flat c n]
    rfl
theorem fmul_list {c n : Nat} (h : n ≤ 1000) : fMul (.list [Nm c]) (Nm n) = some (.list ((List.replicate n c).map Nm)) := by
  have hz : (small63 (n : Int) && decide ([Nm c].length * (n : Int).toNat ≤ sizeLine)) = true := by
    unfold small63
    simp only [Bool.and_eq_true, decide_eq_true_eq, sizeLine_eq, List.length_cons, List.length_nil, Int.toNat_natCast]
    omega
  have e : fMul (.list [Nm c]) (Nm n) = if (small63 (n : Int) && decide ([Nm c].length * (n : Int).toNat ≤ sizeLine)) = true then some (PyData.list (List.replicate (n : Int).toNat [Nm c]).flatten) else none := by
    unfold fMul
    rfl
  rw [e, if_pos hz, Int.toNat_natCast, rep_flat]
theorem list_at {l : List Nat} {i : Nat} (h : i < l.length) : fIxD (.list (l.map Nm)) (Nm i) = some (Nm (l.getD i 0)) := by
  refine Ev.atI_nat (l := l.map Nm) ?_
  rw [List.getElem?_map, List.getElem?_eq_getElem h, List.getD_eq_getElem?_getD, List.getElem?_eq_getElem h]
  rfl
theorem sset_at {F : Fn} {s : S} {i j : Nat} {cv ck : CE} {l : List Nat} {y : Nat} (hv : cv F s = some (.d (Nm y), s)) (hi : s.env[i]? = some (some (.d (.list (l.map Nm))))) (hk : ck F s = some (.d (Nm j), s)) (hj : j < l.length) :
    sSetS i cv ck F s = some (.nx, { s with env := s.env.set i (some (.d (.list ((l.set j y).map Nm)))) }) := by
  unfold sSetS
  simp only [hv, hi, hk]
  have : ixN (l.map Nm).length (j : Int) = some j := by
    unfold ixN
    rw [List.length_map, if_pos (by omega), if_pos (by omega), Int.toNat_natCast]
  rw [this, List.map_set]
theorem sasg {F : Fn} {s s1 s2 : S} {a : PyData → S → Option S} {c : CE} {d : PyData} (h : c F s = some (.d d, s1)) (h2 : a d s1 = some s2) : sAsg a c F s = some (.nx, s2) := by
  unfold sAsg
  simp only [h, h2]
theorem canon_len5 {n : Nat} (h : n ≤ 5) {P : Nat → Nat → Bool} : (canon n P).length ≤ 25 := by
  have := cpre_len n P n
  rw [cpre_all] at this
  exact Nat.le_trans this (Nat.mul_le_mul h h)
def named (ns : List Nat) : PyData → PyData
  | .tuple [.int a, .int b] => pr (ns.getD a.toNat 0, ns.getD b.toNat 0)
  | _ => .none

theorem called_ok (k : Nat) {n : Nat} {cs : List Nat} {P : Nat → Nat → Bool} (hw : Wb n cs) (x : Src) (hx : x.cells.length ≤ 63) : ∃ (cs' : List Nat) (P' : Nat → Nat → Bool) (x' : Src), (fnAt T 200 (k + 3)).call "_law_called" [.src, .d (wb n cs P)] (some x) = some (.d (wb n cs' P'), some x') ∧ Wb n cs' ∧ x'.cells.length ≤ 63 := by
  have n1 := hw.n1
  have n5 := hw.n5
  have hcl := hw.len
  obtain ⟨ys, x', g1, g2, hx'⟩ := mixed_ok k x hx (ds := (List.range n).map Nm) (c := .list ((List.range n).map Nm)) (.inl rfl) (by rw [List.length_map, List.length_range]; omega)
  obtain ⟨ns, rfl, hnl, hns⟩ := nats_of (ys := ys) (M := n) fun y hy => by
    obtain ⟨a, ha, rfl⟩ := List.mem_map.mp (g2.mem_iff.mp hy)
    exact ⟨a, List.mem_range.mp ha, rfl⟩
  rw [g2.length_eq, List.length_map, List.length_range] at hnl
  have hat : ∀ a, a < n → ns.getD a 0 < n := fun a ha => hns _ (getD_mem (by omega))
  have e0 : (cBin fIxD (.e (cVar false 1)) (.e (cC (.int 0)))) (fnAt T 200 (k + 2)) ⟨[some .src, some (.d (wb n cs P)), none, none, none, none, none], some x⟩ = some (.d (Nm n), ⟨[some .src, some (.d (wb n cs P)), none, none, none, none, none], some x⟩) := rfl
  have e0' : (cBin fIxD (.e (cVar false 1)) (.e (cC (.int 0)))) (fnAt T 200 (k + 2)) ⟨[some .src, some (.d (wb n cs P)), none, none, none, none, none], some x'⟩ = some (.d (Nm n), ⟨[some .src, some (.d (wb n cs P)), none, none, none, none, none], some x'⟩) := rfl
  have p1 : (cCall "_law_mixed" [(cVar false 0), (cLRng (.e (cBin fIxD (.e (cVar false 1)) (.e (cC (.int 0))))))]) (fnAt T 200 (k + 2)) ⟨[some .src, some (.d (wb n cs P)), none, none, none, none, none], some x⟩ = some (.d (.list (ns.map Nm)), ⟨[some .src, some (.d (wb n cs P)), none, none, none, none, none], some x'⟩) :=
    ccall (s1 := ⟨[some .src, some (.d (wb n cs P)), none, none, none, none, none], some x⟩) (xs := [.src, .d (.list ((List.range n).map Nm))]) (eargs (x := .src) rfl (eargs (clrng e0 (by omega)) rfl)) g1
  have p2 : (cBin fMul (.e (cDisp false [(cC (.int 0))])) (.e (cBin fIxD (.e (cVar false 1)) (.e (cC (.int 0)))))) (fnAt T 200 (k + 2)) ⟨[some .src, some (.d (wb n cs P)), none, none, none, none, none], some x'⟩ = some (.d (.list ((List.replicate n 0).map Nm)), ⟨[some .src, some (.d (wb n cs P)), none, none, none, none, none], some x'⟩) := cbin (f := fMul) (x := .list [Nm 0]) (y := Nm n) (z := .list ((List.replicate n 0).map Nm)) (cdisp (b := false) (cs := [cC (.int 0)]) (xs := [.d (Nm 0)]) (ds := [Nm 0]) rfl rfl (by rw [sizeLine_eq]; simp)) e0' (fmul_list (c := 0) (by omega))
  obtain ⟨s', hfor, a4, a5, cl, rfl, hcll, hclm⟩ := sfor_ind (as := (aTup 2 (aCons (aName 4) (aCons (aName 5) aNil)))) (ic := (icEnum (.e (cBin fIxD (.e (cVar false 1)) (.e (cC (.int 1))))))) (b := (sSetS 3 (cVar false 5) (cBin fIxD (.e (cVar false 2)) (.e (cVar false 4))))) (F := fnAt T 200 (k + 2)) (ds := pairUp 0 (cs.map Nm)) (s := ⟨[some .src, some (.d (wb n cs P)), some (.d (.list (ns.map Nm))), some (.d (.list ((List.replicate n 0).map Nm))), none, none, none], some x'⟩) (s0 := ⟨[some .src, some (.d (wb n cs P)), some (.d (.list (ns.map Nm))), some (.d (.list ((List.replicate n 0).map Nm))), none, none, none], some x'⟩) rfl
    (fun j s => ∃ a4 a5 cl, s = ⟨[some .src, some (.d (wb n cs P)), some (.d (.list (ns.map Nm))), some (.d (.list (cl.map Nm))), a4, a5, none], some x'⟩ ∧ cl.length = n ∧ ∀ c ∈ cl, c < 100) ⟨none, none, List.replicate n 0, rfl, List.length_replicate, fun c hc => by rw [(List.mem_replicate.mp hc).2]; omega⟩ (by
      rintro j d s hj ⟨a4, a5, cl, rfl, hcll, hclm⟩
      rw [pair0] at hj
      have hjn : j < cs.length := by
        have := (List.getElem?_eq_some_iff.mp hj).1
        rwa [List.length_map, List.length_range] at this
      rw [List.getElem?_map, range_at hjn] at hj
      cases hj
      have hjj := hat j (by omega)
      refine ⟨⟨[some .src, some (.d (wb n cs P)), some (.d (.list (ns.map Nm))), some (.d (.list (cl.map Nm))), some (.d (Nm j)), some (.d (Nm (cs.getD j 0))), none], some x'⟩, _, rfl, sset_at (l := cl) (y := cs.getD j 0) (j := ns.getD j 0) rfl rfl (cbin (x := .list (ns.map Nm)) (y := Nm j) rfl rfl (list_at (by omega))) (by omega), _, _, cl.set (ns.getD j 0) (cs.getD j 0), rfl, by rw [List.length_set]; exact hcll, fun c hc => ?_⟩
      rcases List.mem_or_eq_of_mem_set hc with h | h
      · exact hclm c h
      · rw [h]; exact hw.col _ (getD_mem hjn))
  have hm := clc_map (own := [4, 6]) (as := (aTup 2 (aCons (aName 4) (aCons (aName 6) aNil)))) (ic := (icAny (.e (cBin fIxD (.e (cVar false 1)) (.e (cC (.int 2))))))) (c := (cDisp true [(cBin fIxD (.e (cVar false 2)) (.e (cVar false 4))), (cBin fIxD (.e (cVar false 2)) (.e (cVar false 6)))])) (F := fnAt T 200 (k + 2)) (ds := (canon n P).map pr) (E1 := [some .src, some (.d (wb n cs P)), some (.d (.list (ns.map Nm))), some (.z (.list (cl.map Nm))), a4, a5, none]) (src := some x') (s := ⟨[some .src, some (.d (wb n cs P)), some (.d (.list (ns.map Nm))), some (.z (.list (cl.map Nm))), a4, a5, none], some x'⟩) rfl (by rw [List.length_map, sizeLine_eq]; have := canon_len5 n5 (P := P); omega) (named ns) (by
    intro d hd
    obtain ⟨q, hq, rfl⟩ := List.mem_map.mp hd
    have hc := canon_mem.mp hq
    refine ⟨⟨[some .src, some (.d (wb n cs P)), some (.d (.list (ns.map Nm))), some (.z (.list (cl.map Nm))), some (.d (Nm q.1)), a5, some (.d (Nm q.2))], some x'⟩, [some .src, some (.d (wb n cs P)), some (.d (.list (ns.map Nm))), some (.z (.list (cl.map Nm))), some (.d (Nm q.1)), a5, some (.d (Nm q.2))], rfl, ?_, rfl⟩
    show _ = some (Vx.d (pr (ns.getD (q.1 : Int).toNat 0, ns.getD (q.2 : Int).toNat 0)), _)
    rw [Int.toNat_natCast, Int.toNat_natCast]
    exact cdisp (b := true) (xs := [.d (Nm (ns.getD q.1 0)), .d (Nm (ns.getD q.2 0))]) (eargs (cbin (x := .list (ns.map Nm)) (y := Nm q.1) rfl rfl (list_at (by omega))) (eargs (cs := []) (cbin (x := .list (ns.map Nm)) (y := Nm q.2) rfl rfl (list_at (by omega))) rfl)) rfl (by rw [sizeLine_eq]; simp))
  have he : ((canon n P).map pr).map (named ns) = ((canon n P).map fun q => (ns.getD q.1 0, ns.getD q.2 0)).map pr := by
    rw [List.map_map, List.map_map]
    rfl
  rw [he] at hm
  obtain ⟨ar, har⟩ : ∃ ar : List (Nat × Nat), ar = (canon n P).map fun q => (ns.getD q.1 0, ns.getD q.2 0) := ⟨_, rfl⟩
  rw [← har] at hm
  have hcall := told_ok (k + 1) (n := n) cl (ar := ar) (cd := .list (cl.map Nm)) (.inl rfl) (by rw [har, List.length_map]; have := canon_len5 n5 (P := P); omega) (fun q hq => by
    rw [har] at hq
    obtain ⟨r, hr, rfl⟩ := List.mem_map.mp hq
    have hc := canon_mem.mp hr
    exact ⟨hat _ hc.1, hat _ hc.2.1⟩) (some x')
  refine ⟨cl, memP ar, x', ?_, ⟨n1, n5, hcll, hclm⟩, hx'⟩
  rw [fnAt_call (d := ⟨2, 7, b__law_called⟩) rfl]
  refine run_env (n := 2) (nn := 7) (s' := ⟨[some .src, some (.d (wb n cs P)), some (.d (.list (ns.map Nm))), some (.z (.list (cl.map Nm))), a4, a5, none], some x'⟩) rfl rfl ?_
  show b__law_called (fnAt T 200 (k + 2)) ⟨[some .src, some (.d (wb n cs P)), none, none, none, none, none], some x⟩ = _
  unfold b__law_called
  have a0 : evArgs [(cBin fIxD (.e (cVar false 1)) (.e (cC (.int 0)))), (cSh 3), (cLc [4, 6] (aTup 2 (aCons (aName 4) (aCons (aName 6) aNil))) (icAny (.e (cBin fIxD (.e (cVar false 1)) (.e (cC (.int 2)))))) bYes (cDisp true [(cBin fIxD (.e (cVar false 2)) (.e (cVar false 4))), (cBin fIxD (.e (cVar false 2)) (.e (cVar false 6)))]))] (fnAt T 200 (k + 2)) ⟨[some .src, some (.d (wb n cs P)), some (.d (.list (ns.map Nm))), some (.d (.list (cl.map Nm))), a4, a5, none], some x'⟩ = some ([.d (Nm n), .d (.list (cl.map Nm)), .d (.list (ar.map pr))], ⟨[some .src, some (.d (wb n cs P)), some (.d (.list (ns.map Nm))), some (.z (.list (cl.map Nm))), a4, a5, none], some x'⟩) := eargs (x := .d (Nm n)) (s1 := ⟨[some .src, some (.d (wb n cs P)), some (.d (.list (ns.map Nm))), some (.d (.list (cl.map Nm))), a4, a5, none], some x'⟩) rfl (eargs (x := .d (.list (cl.map Nm))) (s1 := ⟨[some .src, some (.d (wb n cs P)), some (.d (.list (ns.map Nm))), some (.z (.list (cl.map Nm))), a4, a5, none], some x'⟩) rfl (eargs (cs := []) hm rfl))
  have hr := sret (ccall a0 hcall)
  exact e_seq (spar2 p1 p2) (e_seq hfor hr)
end L11
namespace L11
open PySem PySem.Spec L2 Ev PyProof.Rows
theorem ccutT {c h : CE} {F : Fn} {s : S} {ys : List PyData} {j : Nat} (hc : c F s = some (.d (.tuple ys), s)) (hh : h F s = some (.d (Nm j), s)) : cCut (.e c) none (some (.e h)) F s = some (.d (.tuple (ys.take j)), s) := by
  unfold cCut Opd.ev evPart Opd.ev
  simp only [hc, hh]
  show some (Vx.d (.tuple (cutD ys none (some (j : Int)))), _) = _
  rw [cut_take]
  rfl
theorem ccutL {c h : CE} {F : Fn} {s s1 : S} {ys : List PyData} {j : Nat} (hc : c F s = some (.d (.list ys), s1)) (hh : h F s1 = some (.d (Nm j), s1)) : cCut (.e c) none (some (.e h)) F s = some (.d (.list (ys.take j)), s1) := by
  unfold cCut Opd.ev evPart Opd.ev
  simp only [hc, hh]
  show some (Vx.d (.list (cutD ys none (some (j : Int)))), _) = _
  rw [cut_take]
  rfl
theorem ccutD {c h : CE} {F : Fn} {s : S} {ys : List PyData} {j : Nat} (hc : c F s = some (.d (.tuple ys), s)) (hh : h F s = some (.d (Nm j), s)) : cCut (.e c) (some (.e h)) none F s = some (.d (.tuple (ys.drop j)), s) := by
  unfold cCut Opd.ev evPart Opd.ev
  simp only [hc, hh]
  show some (Vx.d (.tuple (cutD ys (some (j : Int)) none)), _) = _
  rw [cut_drop]
  rfl
theorem more_name {n : Nat} {P : Nat → Nat → Bool} : canon (n + 1) (fun a b => decide (a < n) && (decide (b < n) && P a b)) = canon n P := by
  unfold canon
  have hin : ∀ a, a < n → (List.range (n + 1)).filter (fun b => decide (a < n) && (decide (b < n) && P a b)) = (List.range n).filter (P a) := fun a ha => by
    rw [List.range_succ, List.filter_append]
    have e1 : (List.range n).filter (fun b => decide (a < n) && (decide (b < n) && P a b)) = (List.range n).filter (P a) := List.filter_congr fun b hb => by
      rw [decide_eq_true ha, decide_eq_true (List.mem_range.mp hb), Bool.true_and, Bool.true_and]
    have e2 : [n].filter (fun b => decide (a < n) && (decide (b < n) && P a b)) = [] := by
      rw [List.filter_eq_nil_iff]
      intro b hb
      rw [List.mem_singleton.mp hb]
      simp
    rw [e1, e2, List.append_nil]
  have hl : (List.range (n + 1)).filter (fun b => decide (n < n) && (decide (b < n) && P n b)) = [] := by
    rw [List.filter_eq_nil_iff]
    intro b hb
    simp
  rw [List.range_succ, List.flatMap_append, ← List.range_succ, List.flatMap_cons, List.flatMap_nil, hl, List.map_nil, List.append_nil, List.append_nil]
  have key : ∀ l : List Nat, (∀ a ∈ l, a < n) → (l.flatMap fun a => ((List.range (n + 1)).filter (fun b => decide (a < n) && (decide (b < n) && P a b))).map fun b => (a, b)) = l.flatMap fun a => ((List.range n).filter (P a)).map fun b => (a, b) := by
    intro l
    induction l with
    | nil => intro _; rfl
    | cons a l ih =>
      intro h
      rw [List.flatMap_cons, List.flatMap_cons, ih fun x hx => h x (List.mem_cons_of_mem _ hx), hin a (h a List.mem_cons_self)]
  exact key _ fun a ha => List.mem_range.mp ha

theorem otherB (k : Nat) {n most : Nat} {cs : List Nat} {P : Nat → Nat → Bool} (hw : Wb n cs) (h2 : 2 ≤ n) (c1 : Option Vx) (w : Int) (x : Src) (hx : x.cells.length ≤ 63) : ∃ (P' : Nat → Nat → Bool) (x' : Src) (s' : S), (sSeq (sAsg (aUnp 2 (aCons (aName 7) (aCons (aName 8) aNil))) (cCut (.e (cCall "_law_mixed" [(cVar false 0), (cLRng (.e (cVar false 4)))])) none (some (.e (cC (.int 2))))))
    (sSeq (sPar [9] [(cLc [11] (aName 11) (icAny (.e (cVar false 6))) (bOf (cBin fNe (.e (cVar false 11)) (.e (cDisp true [(cVar false 7), (cVar false 8)])))) (cVar false 11))])
    (sRet (cCall "_law_told_web" [(cVar false 4), (cVar false 5), (cIf (bOf (cBin (fInD false) (.e (cDisp true [(cVar false 7), (cVar false 8)])) (.e (cVar false 6)))) (cVar false 9) (cBin fAdd (.e (cVar false 9)) (.e (cDisp false [(cDisp true [(cVar false 7), (cVar false 8)])]))))])))) (fnAt T 200 (k + 2)) ⟨[some .src, c1, some (.d (Nm most)), some (.d (.int w)), some (.d (Nm n)), some (.d (.tuple (cs.map Nm))), some (.d (.tuple ((canon n P).map pr))), none, none, none, none, none], some x⟩ = some (.rt (.d (wb n cs P')), s') ∧ s'.src = some x' ∧ x'.cells.length ≤ 63 := by
  have n5 := hw.n5
  obtain ⟨ys, x', g1, g2, hx'⟩ := mixed_ok k x hx (ds := (List.range n).map Nm) (c := .list ((List.range n).map Nm)) (.inl rfl) (by rw [List.length_map, List.length_range]; omega)
  obtain ⟨ns, rfl, hnl, hns⟩ := nats_of (ys := ys) (M := n) fun y hy => by
    obtain ⟨a, ha, rfl⟩ := List.mem_map.mp (g2.mem_iff.mp hy)
    exact ⟨a, List.mem_range.mp ha, rfl⟩
  rw [g2.length_eq, List.length_map, List.length_range] at hnl
  obtain ⟨a, b, rest, rfl⟩ : ∃ a b rest, ns = a :: b :: rest := by
    cases ns with
    | nil => simp at hnl; omega
    | cons a ns => cases ns with
      | nil => simp at hnl; omega
      | cons b rest => exact ⟨a, b, rest, rfl⟩
  have han : a < n := hns a (by simp)
  have hbn : b < n := hns b (by simp)
  have q1 : (cCall "_law_mixed" [(cVar false 0), (cLRng (.e (cVar false 4)))]) (fnAt T 200 (k + 2)) ⟨[some .src, c1, some (.d (Nm most)), some (.d (.int w)), some (.d (Nm n)), some (.d (.tuple (cs.map Nm))), some (.d (.tuple ((canon n P).map pr))), none, none, none, none, none], some x⟩ = some (.d (.list ((a :: b :: rest).map Nm)), ⟨[some .src, c1, some (.d (Nm most)), some (.d (.int w)), some (.d (Nm n)), some (.d (.tuple (cs.map Nm))), some (.d (.tuple ((canon n P).map pr))), none, none, none, none, none], some x'⟩) := ccall (s1 := ⟨[some .src, c1, some (.d (Nm most)), some (.d (.int w)), some (.d (Nm n)), some (.d (.tuple (cs.map Nm))), some (.d (.tuple ((canon n P).map pr))), none, none, none, none, none], some x⟩) (xs := [.src, .d (.list ((List.range n).map Nm))]) (eargs (x := .src) rfl (eargs (cs := []) (clrng (n := n) rfl (by omega)) rfl)) g1
  have q2 := ccutL (j := 2) (h := cC (.int 2)) q1 rfl
  have s1 : (sAsg (aUnp 2 (aCons (aName 7) (aCons (aName 8) aNil))) (cCut (.e (cCall "_law_mixed" [(cVar false 0), (cLRng (.e (cVar false 4)))])) none (some (.e (cC (.int 2)))))) (fnAt T 200 (k + 2)) ⟨[some .src, c1, some (.d (Nm most)), some (.d (.int w)), some (.d (Nm n)), some (.d (.tuple (cs.map Nm))), some (.d (.tuple ((canon n P).map pr))), none, none, none, none, none], some x⟩ = some (.nx, ⟨[some .src, c1, some (.d (Nm most)), some (.d (.int w)), some (.d (Nm n)), some (.d (.tuple (cs.map Nm))), some (.d (.tuple ((canon n P).map pr))), some (.d (Nm a)), some (.d (Nm b)), none, none, none], some x'⟩) := sasg q2 rfl
  have hm := clc_filt (own := [11]) (as := aName 11) (ic := (icAny (.e (cVar false 6)))) (t := (bOf (cBin fNe (.e (cVar false 11)) (.e (cDisp true [(cVar false 7), (cVar false 8)]))))) (c := (cVar false 11)) (F := fnAt T 200 (k + 2)) (ds := (canon n P).map pr) (E1 := [some .src, c1, some (.d (Nm most)), some (.d (.int w)), some (.d (Nm n)), some (.d (.tuple (cs.map Nm))), some (.d (.tuple ((canon n P).map pr))), some (.d (Nm a)), some (.d (Nm b)), none, none, none]) (src := some x') (s := ⟨[some .src, c1, some (.d (Nm most)), some (.d (.int w)), some (.d (Nm n)), some (.d (.tuple (cs.map Nm))), some (.d (.tuple ((canon n P).map pr))), some (.d (Nm a)), some (.d (Nm b)), none, none, none], some x'⟩) rfl (by rw [List.length_map, sizeLine_eq]; have := canon_len5 n5 (P := P); omega) (fun d => !@decide (d = pr (a, b)) (Classical.propDecidable _)) id (by
    intro d hd
    obtain ⟨q, hq, rfl⟩ := List.mem_map.mp hd
    refine ⟨⟨[some .src, c1, some (.d (Nm most)), some (.d (.int w)), some (.d (Nm n)), some (.d (.tuple (cs.map Nm))), some (.d (.tuple ((canon n P).map pr))), some (.d (Nm a)), some (.d (Nm b)), none, none, some (.d (pr q))], some x'⟩, ⟨[some .src, c1, some (.d (Nm most)), some (.d (.int w)), some (.d (Nm n)), some (.d (.tuple (cs.map Nm))), some (.d (.tuple ((canon n P).map pr))), some (.d (Nm a)), some (.d (Nm b)), none, none, some (.d (pr q))], some x'⟩, rfl, bof' (cbin (x := pr q) (y := pr (a, b)) rfl (cdisp (b := true) (xs := [.d (Nm a), .d (Nm b)]) rfl rfl (by rw [sizeLine_eq]; simp)) (fne_itr (itr_pr q) (itr_pr _) (by have := pr_depth q; omega) (by have := pr_depth (a, b); omega))), fun _ => ⟨rfl, rfl⟩, fun _ => ⟨_, rfl, rfl⟩⟩)
  obtain ⟨ar, har, hsub⟩ : ∃ ar : List (Nat × Nat), (((canon n P).map pr).filter fun d => !@decide (d = pr (a, b)) (Classical.propDecidable _)).map id = ar.map pr ∧ ar.Sublist (canon n P) := by
    rw [List.map_id, List.filter_map]
    exact ⟨_, rfl, List.filter_sublist⟩
  rw [har] at hm
  have hal : ar.length ≤ 25 := Nat.le_trans hsub.length_le (canon_len5 n5)
  have ham : ∀ p ∈ ar, p.1 < n ∧ p.2 < n := fun p hp => by have := canon_mem.mp (hsub.subset hp); exact ⟨this.1, this.2.1⟩
  have hpr : (cDisp true [(cVar false 7), (cVar false 8)]) (fnAt T 200 (k + 2)) ⟨[some .src, c1, some (.d (Nm most)), some (.d (.int w)), some (.d (Nm n)), some (.d (.tuple (cs.map Nm))), some (.d (.tuple ((canon n P).map pr))), some (.d (Nm a)), some (.d (Nm b)), some (.d (.list (ar.map pr))), none, none], some x'⟩ = some (.d (pr (a, b)), ⟨[some .src, c1, some (.d (Nm most)), some (.d (.int w)), some (.d (Nm n)), some (.d (.tuple (cs.map Nm))), some (.d (.tuple ((canon n P).map pr))), some (.d (Nm a)), some (.d (Nm b)), some (.d (.list (ar.map pr))), none, none], some x'⟩) := cdisp (b := true) (xs := [.d (Nm a), .d (Nm b)]) rfl rfl (by rw [sizeLine_eq]; simp)
  have ht := bof' (cbin hpr (b := cVar false 6) (y := .tuple ((canon n P).map pr)) rfl (inD_tw (P := P) han hbn))
  obtain ⟨ar', hl', hm', hif⟩ : ∃ ar' : List (Nat × Nat), ar'.length ≤ 26 ∧ (∀ p ∈ ar', p.1 < n ∧ p.2 < n) ∧ (cIf (bOf (cBin (fInD false) (.e (cDisp true [(cVar false 7), (cVar false 8)])) (.e (cVar false 6)))) (cVar false 9) (cBin fAdd (.e (cVar false 9)) (.e (cDisp false [(cDisp true [(cVar false 7), (cVar false 8)])])))) (fnAt T 200 (k + 2)) ⟨[some .src, c1, some (.d (Nm most)), some (.d (.int w)), some (.d (Nm n)), some (.d (.tuple (cs.map Nm))), some (.d (.tuple ((canon n P).map pr))), some (.d (Nm a)), some (.d (Nm b)), some (.d (.list (ar.map pr))), none, none], some x'⟩ = some (.d (.list (ar'.map pr)), ⟨[some .src, c1, some (.d (Nm most)), some (.d (.int w)), some (.d (Nm n)), some (.d (.tuple (cs.map Nm))), some (.d (.tuple ((canon n P).map pr))), some (.d (Nm a)), some (.d (Nm b)), some (.d (.list (ar.map pr))), none, none], some x'⟩) := by
    cases hP : P a b with
    | true =>
      rw [hP] at ht
      refine ⟨ar, by omega, ham, ?_⟩
      unfold cIf
      rw [ht]
      rfl
    | false =>
      rw [hP] at ht
      refine ⟨ar ++ [(a, b)], by rw [List.length_append]; simp; omega, fun p hp => ?_, ?_⟩
      · rcases List.mem_append.mp hp with h | h
        · exact ham p h
        · rw [List.mem_singleton.mp h]; exact ⟨han, hbn⟩
      · unfold cIf
        rw [ht]
        refine cbin (x := .list (ar.map pr)) (y := .list [pr (a, b)]) rfl (cdisp (b := false) (cs := [(cDisp true [(cVar false 7), (cVar false 8)])]) (eargs (cs := []) hpr rfl) rfl (by rw [sizeLine_eq]; simp)) ?_
        rw [fadd_list (by rw [List.length_map]; simp; omega), List.map_append]
        rfl
  have hcall := told_ok (k + 1) (n := n) cs (ar := ar') (cd := .tuple (cs.map Nm)) (.inr rfl) (by omega) hm' (some x')
  have hr := sret (pcall (s := ⟨[some .src, c1, some (.d (Nm most)), some (.d (.int w)), some (.d (Nm n)), some (.d (.tuple (cs.map Nm))), some (.d (.tuple ((canon n P).map pr))), some (.d (Nm a)), some (.d (Nm b)), some (.d (.list (ar.map pr))), none, none], some x'⟩) (cs := [(cVar false 4), (cVar false 5), (cIf (bOf (cBin (fInD false) (.e (cDisp true [(cVar false 7), (cVar false 8)])) (.e (cVar false 6)))) (cVar false 9) (cBin fAdd (.e (cVar false 9)) (.e (cDisp false [(cDisp true [(cVar false 7), (cVar false 8)])]))))]) (eargs (x := .d (Nm n)) rfl (eargs (x := .d (.tuple (cs.map Nm))) rfl (eargs (cs := []) hif rfl))) hcall)
  exact ⟨memP ar', x', ⟨[some .src, c1, some (.d (Nm most)), some (.d (.int w)), some (.d (Nm n)), some (.d (.tuple (cs.map Nm))), some (.d (.tuple ((canon n P).map pr))), some (.d (Nm a)), some (.d (Nm b)), some (.d (.list (ar.map pr))), none, none], some x'⟩, e_seq s1 (e_seq (spar1 hm) hr), rfl, hx'⟩

theorem otherC (k : Nat) {n most : Nat} {cs : List Nat} {P : Nat → Nat → Bool} (hw : Wb n cs) (c1 : Option Vx) (w : Int) (x : Src) (hx : x.cells.length ≤ 63) : ∃ (cs' : List Nat) (x' : Src) (s' : S), (sSeq (sPar [10] [(cCall "_law_pick" [(cVar false 0), (cVar false 4)])])
    (sRet (cDisp true [(cVar false 4), (cBin fAdd (.e (cBin fAdd (.e (cCut (.e (cVar false 5)) none (some (.e (cVar false 10))))) (.e (cDisp true [(cCall "_law_pick" [(cVar false 0), (cC (.int 2))])])))) (.e (cCut (.e (cVar false 5)) (some (.e (cBin fAdd (.e (cVar false 10)) (.e (cC (.int 1)))))) none))), (cVar false 6)]))) (fnAt T 200 (k + 1)) ⟨[some .src, c1, some (.d (Nm most)), some (.d (.int w)), some (.d (Nm n)), some (.d (.tuple (cs.map Nm))), some (.d (.tuple ((canon n P).map pr))), none, none, none, none, none], some x⟩ = some (.rt (.d (wb n cs' P)), s') ∧ s'.src = some x' ∧ x'.cells.length ≤ 63 ∧ Wb n cs' := by
  have n1 := hw.n1
  have n5 := hw.n5
  have hcl := hw.len
  obtain ⟨r1, x1, e1, hx1, a0, a1⟩ := pick_ok k x hx (n : Int) (by omega)
  obtain ⟨r2, x2, e2, hx2, b0, b1⟩ := pick_ok k x1 hx1 2 (by decide)
  obtain ⟨i, rfl⟩ : ∃ n : Nat, r1 = (n : Int) := ⟨r1.toNat, by omega⟩
  obtain ⟨c, rfl⟩ : ∃ n : Nat, r2 = (n : Int) := ⟨r2.toNat, by omega⟩
  have p1 : (cCall "_law_pick" [(cVar false 0), (cVar false 4)]) (fnAt T 200 (k + 1)) ⟨[some .src, c1, some (.d (Nm most)), some (.d (.int w)), some (.d (Nm n)), some (.d (.tuple (cs.map Nm))), some (.d (.tuple ((canon n P).map pr))), none, none, none, none, none], some x⟩ = some (.d (Nm i), ⟨[some .src, c1, some (.d (Nm most)), some (.d (.int w)), some (.d (Nm n)), some (.d (.tuple (cs.map Nm))), some (.d (.tuple ((canon n P).map pr))), none, none, none, none, none], some x1⟩) := ccall (s1 := ⟨[some .src, c1, some (.d (Nm most)), some (.d (.int w)), some (.d (Nm n)), some (.d (.tuple (cs.map Nm))), some (.d (.tuple ((canon n P).map pr))), none, none, none, none, none], some x⟩) (xs := [.src, .d (Nm n)]) rfl e1
  have p2 : (cCall "_law_pick" [(cVar false 0), (cC (.int 2))]) (fnAt T 200 (k + 1)) ⟨[some .src, c1, some (.d (Nm most)), some (.d (.int w)), some (.d (Nm n)), some (.d (.tuple (cs.map Nm))), some (.d (.tuple ((canon n P).map pr))), none, none, none, some (.d (Nm i)), none], some x1⟩ = some (.d (Nm c), ⟨[some .src, c1, some (.d (Nm most)), some (.d (.int w)), some (.d (Nm n)), some (.d (.tuple (cs.map Nm))), some (.d (.tuple ((canon n P).map pr))), none, none, none, some (.d (Nm i)), none], some x2⟩) := ccall (s1 := ⟨[some .src, c1, some (.d (Nm most)), some (.d (.int w)), some (.d (Nm n)), some (.d (.tuple (cs.map Nm))), some (.d (.tuple ((canon n P).map pr))), none, none, none, some (.d (Nm i)), none], some x1⟩) (xs := [.src, .d (.int 2)]) rfl e2
  have qa := ccutT (F := fnAt T 200 (k + 1)) (s := ⟨[some .src, c1, some (.d (Nm most)), some (.d (.int w)), some (.d (Nm n)), some (.d (.tuple (cs.map Nm))), some (.d (.tuple ((canon n P).map pr))), none, none, none, some (.d (Nm i)), none], some x1⟩) (c := cVar false 5) (h := cVar false 10) (ys := cs.map Nm) (j := i) rfl rfl
  have qb := cdisp (b := true) (cs := [(cCall "_law_pick" [(cVar false 0), (cC (.int 2))])]) (eargs (cs := []) p2 rfl) rfl (by rw [sizeLine_eq]; simp)
  have qi : (cBin fAdd (.e (cVar false 10)) (.e (cC (.int 1)))) (fnAt T 200 (k + 1)) ⟨[some .src, c1, some (.d (Nm most)), some (.d (.int w)), some (.d (Nm n)), some (.d (.tuple (cs.map Nm))), some (.d (.tuple ((canon n P).map pr))), none, none, none, some (.d (Nm i)), none], some x2⟩ = some (.d (Nm (i + 1)), ⟨[some .src, c1, some (.d (Nm most)), some (.d (.int w)), some (.d (Nm n)), some (.d (.tuple (cs.map Nm))), some (.d (.tuple ((canon n P).map pr))), none, none, none, some (.d (Nm i)), none], some x2⟩) := rfl
  have qc := ccutD (c := cVar false 5) (ys := cs.map Nm) rfl qi
  have t1 : ((cs.map Nm).take i).length ≤ 5 := by rw [List.length_take, List.length_map]; omega
  have t2 : ((cs.map Nm).drop (i + 1)).length ≤ 5 := by rw [List.length_drop, List.length_map]; omega
  have qq := cbin (f := fAdd) (cbin (f := fAdd) qa qb (fadd_tup (by simp only [List.length_cons, List.length_nil]; omega))) qc (fadd_tup (by rw [List.length_append]; simp only [List.length_cons, List.length_nil]; omega))
  have ee : (cs.map Nm).take i ++ [Nm c] ++ (cs.map Nm).drop (i + 1) = (cs.take i ++ [c] ++ cs.drop (i + 1)).map Nm := by
    rw [List.map_append, List.map_append, List.map_take, List.map_drop]
    rfl
  have qq : (cBin fAdd (.e (cBin fAdd (.e (cCut (.e (cVar false 5)) none (some (.e (cVar false 10))))) (.e (cDisp true [(cCall "_law_pick" [(cVar false 0), (cC (.int 2))])])))) (.e (cCut (.e (cVar false 5)) (some (.e (cBin fAdd (.e (cVar false 10)) (.e (cC (.int 1)))))) none))) (fnAt T 200 (k + 1)) ⟨[some .src, c1, some (.d (Nm most)), some (.d (.int w)), some (.d (Nm n)), some (.d (.tuple (cs.map Nm))), some (.d (.tuple ((canon n P).map pr))), none, none, none, some (.d (Nm i)), none], some x1⟩ = some (.d (.tuple ((cs.take i ++ [c] ++ cs.drop (i + 1)).map Nm)), ⟨[some .src, c1, some (.d (Nm most)), some (.d (.int w)), some (.d (Nm n)), some (.d (.tuple (cs.map Nm))), some (.d (.tuple ((canon n P).map pr))), none, none, none, some (.d (Nm i)), none], some x2⟩) := by
    rw [← ee]
    exact qq
  have hr := sret (cdisp (b := true) (cs := [(cVar false 4), (cBin fAdd (.e (cBin fAdd (.e (cCut (.e (cVar false 5)) none (some (.e (cVar false 10))))) (.e (cDisp true [(cCall "_law_pick" [(cVar false 0), (cC (.int 2))])])))) (.e (cCut (.e (cVar false 5)) (some (.e (cBin fAdd (.e (cVar false 10)) (.e (cC (.int 1)))))) none))), (cVar false 6)]) (eargs (x := .d (Nm n)) (s := ⟨[some .src, c1, some (.d (Nm most)), some (.d (.int w)), some (.d (Nm n)), some (.d (.tuple (cs.map Nm))), some (.d (.tuple ((canon n P).map pr))), none, none, none, some (.d (Nm i)), none], some x1⟩) (s1 := ⟨[some .src, c1, some (.d (Nm most)), some (.d (.int w)), some (.d (Nm n)), some (.d (.tuple (cs.map Nm))), some (.d (.tuple ((canon n P).map pr))), none, none, none, some (.d (Nm i)), none], some x1⟩) rfl (eargs qq (eargs (cs := []) (x := .d (.tuple ((canon n P).map pr))) rfl rfl))) rfl (by rw [sizeLine_eq]; simp))
  refine ⟨cs.take i ++ [c] ++ cs.drop (i + 1), x2, ⟨[some .src, c1, some (.d (Nm most)), some (.d (.int w)), some (.d (Nm n)), some (.d (.tuple (cs.map Nm))), some (.d (.tuple ((canon n P).map pr))), none, none, none, some (.d (Nm i)), none], some x2⟩, e_seq (spar1 p1) hr, rfl, hx2, n1, n5, ?_, fun d hd => ?_⟩
  · rw [List.length_append, List.length_append, List.length_take, List.length_drop]
    simp only [List.length_cons, List.length_nil]
    omega
  · rcases List.mem_append.mp hd with h | h
    · rcases List.mem_append.mp h with h | h
      · exact hw.col d (List.mem_of_mem_take h)
      · rw [List.mem_singleton.mp h]; omega
    · exact hw.col d (List.mem_of_mem_drop h)

theorem otherD (F : Fn) {n most : Nat} {cs : List Nat} {P : Nat → Nat → Bool} (hw : Wb n cs) (h5 : n < most) (hm : most ≤ 5) (c1 : Option Vx) (w : Int) (x : Src) : ∃ (cs' : List Nat) (P' : Nat → Nat → Bool), (sRet (cDisp true [(cBin fAdd (.e (cVar false 4)) (.e (cC (.int 1)))), (cBin fAdd (.e (cVar false 5)) (.e (cCut (.e (cVar false 5)) none (some (.e (cC (.int 1))))))), (cVar false 6)])) F ⟨[some .src, c1, some (.d (Nm most)), some (.d (.int w)), some (.d (Nm n)), some (.d (.tuple (cs.map Nm))), some (.d (.tuple ((canon n P).map pr))), none, none, none, none, none], some x⟩ = some (.rt (.d (wb (n + 1) cs' P')), ⟨[some .src, c1, some (.d (Nm most)), some (.d (.int w)), some (.d (Nm n)), some (.d (.tuple (cs.map Nm))), some (.d (.tuple ((canon n P).map pr))), none, none, none, none, none], some x⟩) ∧ Wb (n + 1) cs' := by
  have n1 := hw.n1
  have hcl := hw.len
  have qa := ccutT (F := F) (s := ⟨[some .src, c1, some (.d (Nm most)), some (.d (.int w)), some (.d (Nm n)), some (.d (.tuple (cs.map Nm))), some (.d (.tuple ((canon n P).map pr))), none, none, none, none, none], some x⟩) (c := cVar false 5) (h := cC (.int 1)) (ys := cs.map Nm) (j := 1) rfl rfl
  have t1 : ((cs.map Nm).take 1).length ≤ 5 := by rw [List.length_take, List.length_map]; omega
  have qq := cbin (f := fAdd) (a := cVar false 5) (s := ⟨[some .src, c1, some (.d (Nm most)), some (.d (.int w)), some (.d (Nm n)), some (.d (.tuple (cs.map Nm))), some (.d (.tuple ((canon n P).map pr))), none, none, none, none, none], some x⟩) (x := .tuple (cs.map Nm)) rfl qa (fadd_tup (by rw [List.length_map]; omega))
  have ee : cs.map Nm ++ (cs.map Nm).take 1 = (cs ++ cs.take 1).map Nm := by rw [List.map_append, List.map_take]
  rw [ee] at qq
  have hr := sret (cdisp (b := true) (cs := [(cBin fAdd (.e (cVar false 4)) (.e (cC (.int 1)))), (cBin fAdd (.e (cVar false 5)) (.e (cCut (.e (cVar false 5)) none (some (.e (cC (.int 1))))))), (cVar false 6)]) (eargs (x := .d (Nm (n + 1))) (s := ⟨[some .src, c1, some (.d (Nm most)), some (.d (.int w)), some (.d (Nm n)), some (.d (.tuple (cs.map Nm))), some (.d (.tuple ((canon n P).map pr))), none, none, none, none, none], some x⟩) (s1 := ⟨[some .src, c1, some (.d (Nm most)), some (.d (.int w)), some (.d (Nm n)), some (.d (.tuple (cs.map Nm))), some (.d (.tuple ((canon n P).map pr))), none, none, none, none, none], some x⟩) rfl (eargs qq (eargs (cs := []) (x := .d (.tuple ((canon n P).map pr))) rfl rfl))) rfl (by rw [sizeLine_eq]; simp))
  have hwb : PyData.tuple [Nm (n + 1), .tuple ((cs ++ cs.take 1).map Nm), .tuple ((canon n P).map pr)] = wb (n + 1) (cs ++ cs.take 1) (fun a b => decide (a < n) && (decide (b < n) && P a b)) := by
    show _ = PyData.tuple [Nm (n + 1), .tuple ((cs ++ cs.take 1).map Nm), .tuple ((canon (n + 1) (fun a b => decide (a < n) && (decide (b < n) && P a b))).map pr)]
    rw [more_name]
  refine ⟨cs ++ cs.take 1, fun a b => decide (a < n) && (decide (b < n) && P a b), hr.trans (congrArg (fun d => some (Fl.rt (Vx.d d), (⟨[some .src, c1, some (.d (Nm most)), some (.d (.int w)), some (.d (Nm n)), some (.d (.tuple (cs.map Nm))), some (.d (.tuple ((canon n P).map pr))), none, none, none, none, none], some x⟩ : S))) hwb), by omega, by omega, ?_, fun d hd => ?_⟩
  · rw [List.length_append, List.length_take]
    omega
  · rcases List.mem_append.mp hd with h | h
    · exact hw.col d h
    · exact hw.col d (List.mem_of_mem_take h)

theorem otherE (k : Nat) {n most : Nat} {cs : List Nat} {P : Nat → Nat → Bool} (hm1 : 1 ≤ most) (hm : most ≤ 5) (c1 : Option Vx) (w : Int) (x : Src) (hx : x.cells.length ≤ 63) : ∃ (n' : Nat) (cs' : List Nat) (P' : Nat → Nat → Bool) (x' : Src) (s' : S), (sRet (cCall "_law_web" [(cVar false 0), (cVar false 2)])) (fnAt T 200 (k + 3)) ⟨[some .src, c1, some (.d (Nm most)), some (.d (.int w)), some (.d (Nm n)), some (.d (.tuple (cs.map Nm))), some (.d (.tuple ((canon n P).map pr))), none, none, none, none, none], some x⟩ = some (.rt (.d (wb n' cs' P')), s') ∧ s'.src = some x' ∧ x'.cells.length ≤ 63 ∧ Wb n' cs' := by
  obtain ⟨n', cs', P', x', e, hw', _, hx'⟩ := law_web_ok k hm1 hm x hx
  exact ⟨n', cs', P', x', ⟨[some .src, c1, some (.d (Nm most)), some (.d (.int w)), some (.d (Nm n)), some (.d (.tuple (cs.map Nm))), some (.d (.tuple ((canon n P).map pr))), none, none, none, none, none], some x'⟩, sret (ccall (s1 := ⟨[some .src, c1, some (.d (Nm most)), some (.d (.int w)), some (.d (Nm n)), some (.d (.tuple (cs.map Nm))), some (.d (.tuple ((canon n P).map pr))), none, none, none, none, none], some x⟩) (xs := [.src, .d (Nm most)]) rfl e), rfl, hx', hw'⟩
theorem other_rest (k : Nat) {n most : Nat} {cs : List Nat} {P : Nat → Nat → Bool} (hw : Wb n cs) (hm1 : 1 ≤ most) (hm : most ≤ 5) (c1 : Option Vx) (w : Int) (h0 : 0 ≤ w) (h6 : w < 6) (x : Src) (hx : x.cells.length ≤ 63) : ∃ (n' : Nat) (cs' : List Nat) (P' : Nat → Nat → Bool) (x' : Src) (s' : S), (sSeq (sIf (bOf (cBin fEq (.e (cVar false 3)) (.e (cC (.int 0))))) (sRet (cDisp true [(cVar false 4), (cVar false 5), (cVar false 6)])) sPass)
    (sSeq (sIf (bAnd (bOf (cBin (fInD false) (.e (cVar false 3)) (.e (cDisp true [(cC (.int 1)), (cC (.int 2))])))) (bOf (cBin fGt (.e (cVar false 4)) (.e (cC (.int 1)))))) (sSeq (sAsg (aUnp 2 (aCons (aName 7) (aCons (aName 8) aNil))) (cCut (.e (cCall "_law_mixed" [(cVar false 0), (cLRng (.e (cVar false 4)))])) none (some (.e (cC (.int 2))))))
    (sSeq (sPar [9] [(cLc [11] (aName 11) (icAny (.e (cVar false 6))) (bOf (cBin fNe (.e (cVar false 11)) (.e (cDisp true [(cVar false 7), (cVar false 8)])))) (cVar false 11))])
    (sRet (cCall "_law_told_web" [(cVar false 4), (cVar false 5), (cIf (bOf (cBin (fInD false) (.e (cDisp true [(cVar false 7), (cVar false 8)])) (.e (cVar false 6)))) (cVar false 9) (cBin fAdd (.e (cVar false 9)) (.e (cDisp false [(cDisp true [(cVar false 7), (cVar false 8)])]))))])))) sPass)
    (sSeq (sIf (bOf (cBin fEq (.e (cVar false 3)) (.e (cC (.int 3))))) (sSeq (sPar [10] [(cCall "_law_pick" [(cVar false 0), (cVar false 4)])])
    (sRet (cDisp true [(cVar false 4), (cBin fAdd (.e (cBin fAdd (.e (cCut (.e (cVar false 5)) none (some (.e (cVar false 10))))) (.e (cDisp true [(cCall "_law_pick" [(cVar false 0), (cC (.int 2))])])))) (.e (cCut (.e (cVar false 5)) (some (.e (cBin fAdd (.e (cVar false 10)) (.e (cC (.int 1)))))) none))), (cVar false 6)]))) sPass)
    (sSeq (sIf (bAnd (bOf (cBin fEq (.e (cVar false 3)) (.e (cC (.int 4))))) (bOf (cBin fLt (.e (cVar false 4)) (.e (cVar false 2))))) (sRet (cDisp true [(cBin fAdd (.e (cVar false 4)) (.e (cC (.int 1)))), (cBin fAdd (.e (cVar false 5)) (.e (cCut (.e (cVar false 5)) none (some (.e (cC (.int 1))))))), (cVar false 6)])) sPass)
    (sRet (cCall "_law_web" [(cVar false 0), (cVar false 2)])))))) (fnAt T 200 (k + 3)) ⟨[some .src, c1, some (.d (Nm most)), some (.d (.int w)), some (.d (Nm n)), some (.d (.tuple (cs.map Nm))), some (.d (.tuple ((canon n P).map pr))), none, none, none, none, none], some x⟩ = some (.rt (.d (wb n' cs' P')), s') ∧ s'.src = some x' ∧ x'.cells.length ≤ 63 ∧ Wb n' cs' := by
  have tn : ∀ w, (bOf (cBin fGt (.e (cVar false 4)) (.e (cC (.int 1))))) (fnAt T 200 (k + 3)) ⟨[some .src, c1, some (.d (Nm most)), some (.d (.int w)), some (.d (Nm n)), some (.d (.tuple (cs.map Nm))), some (.d (.tuple ((canon n P).map pr))), none, none, none, none, none], some x⟩ = some (decide ((n : Int) > 1), ⟨[some .src, c1, some (.d (Nm most)), some (.d (.int w)), some (.d (Nm n)), some (.d (.tuple (cs.map Nm))), some (.d (.tuple ((canon n P).map pr))), none, none, none, none, none], some x⟩) := fun w => bof' (cbin (x := Nm n) (y := .int 1) rfl rfl rfl)
  have tm : ∀ w, (bOf (cBin fLt (.e (cVar false 4)) (.e (cVar false 2)))) (fnAt T 200 (k + 3)) ⟨[some .src, c1, some (.d (Nm most)), some (.d (.int w)), some (.d (Nm n)), some (.d (.tuple (cs.map Nm))), some (.d (.tuple ((canon n P).map pr))), none, none, none, none, none], some x⟩ = some (decide ((n : Int) < (most : Int)), ⟨[some .src, c1, some (.d (Nm most)), some (.d (.int w)), some (.d (Nm n)), some (.d (.tuple (cs.map Nm))), some (.d (.tuple ((canon n P).map pr))), none, none, none, none, none], some x⟩) := fun w => bof' (cbin (x := Nm n) (y := Nm most) rfl rfl rfl)
  have i12 : ∀ w, (w = 1 ∨ w = 2) → (bOf (cBin (fInD false) (.e (cVar false 3)) (.e (cDisp true [(cC (.int 1)), (cC (.int 2))])))) (fnAt T 200 (k + 3)) ⟨[some .src, c1, some (.d (Nm most)), some (.d (.int w)), some (.d (Nm n)), some (.d (.tuple (cs.map Nm))), some (.d (.tuple ((canon n P).map pr))), none, none, none, none, none], some x⟩ = some (true, ⟨[some .src, c1, some (.d (Nm most)), some (.d (.int w)), some (.d (Nm n)), some (.d (.tuple (cs.map Nm))), some (.d (.tuple ((canon n P).map pr))), none, none, none, none, none], some x⟩) := fun w h => by
    rcases h with rfl | rfl
    · exact bof' (cbin (x := .int 1) (y := .tuple [.int 1, .int 2]) rfl (cdisp (b := true) (xs := [.d (.int 1), .d (.int 2)]) rfl rfl (by rw [sizeLine_eq]; simp)) rfl)
    · exact bof' (cbin (x := .int 2) (y := .tuple [.int 1, .int 2]) rfl (cdisp (b := true) (xs := [.d (.int 1), .d (.int 2)]) rfl rfl (by rw [sizeLine_eq]; simp)) rfl)
  have j12 : ∀ w, (w = 3 ∨ w = 4 ∨ w = 5) → (bOf (cBin (fInD false) (.e (cVar false 3)) (.e (cDisp true [(cC (.int 1)), (cC (.int 2))])))) (fnAt T 200 (k + 3)) ⟨[some .src, c1, some (.d (Nm most)), some (.d (.int w)), some (.d (Nm n)), some (.d (.tuple (cs.map Nm))), some (.d (.tuple ((canon n P).map pr))), none, none, none, none, none], some x⟩ = some (false, ⟨[some .src, c1, some (.d (Nm most)), some (.d (.int w)), some (.d (Nm n)), some (.d (.tuple (cs.map Nm))), some (.d (.tuple ((canon n P).map pr))), none, none, none, none, none], some x⟩) := fun w h => by
    rcases h with rfl | rfl | rfl
    · exact bof' (cbin (x := .int 3) (y := .tuple [.int 1, .int 2]) rfl (cdisp (b := true) (xs := [.d (.int 1), .d (.int 2)]) rfl rfl (by rw [sizeLine_eq]; simp)) rfl)
    · exact bof' (cbin (x := .int 4) (y := .tuple [.int 1, .int 2]) rfl (cdisp (b := true) (xs := [.d (.int 1), .d (.int 2)]) rfl rfl (by rw [sizeLine_eq]; simp)) rfl)
    · exact bof' (cbin (x := .int 5) (y := .tuple [.int 1, .int 2]) rfl (cdisp (b := true) (xs := [.d (.int 1), .d (.int 2)]) rfl rfl (by rw [sizeLine_eq]; simp)) rfl)
  have teq : ∀ (w c : Int), (bOf (cBin fEq (.e (cVar false 3)) (.e (cC (.int c))))) (fnAt T 200 (k + 3)) ⟨[some .src, c1, some (.d (Nm most)), some (.d (.int w)), some (.d (Nm n)), some (.d (.tuple (cs.map Nm))), some (.d (.tuple ((canon n P).map pr))), none, none, none, none, none], some x⟩ = some ((w == c), ⟨[some .src, c1, some (.d (Nm most)), some (.d (.int w)), some (.d (Nm n)), some (.d (.tuple (cs.map Nm))), some (.d (.tuple ((canon n P).map pr))), none, none, none, none, none], some x⟩) := fun w c => bof' (cbin (x := .int w) (y := .int c) rfl rfl (feq_int _ _))
  obtain ⟨n', cs', P', x', s', he, hs1, hs2, hs3⟩ := otherE k (n := n) (cs := cs) (P := P) hm1 hm c1 w x hx
  rcases (by omega : w = 0 ∨ w = 1 ∨ w = 2 ∨ w = 3 ∨ w = 4 ∨ w = 5) with rfl | h
  · exact ⟨n, cs, P, x, _, e_ret (e_ifT (teq 0 0) (sret (cdisp (b := true) (xs := [.d (Nm n), .d (.tuple (cs.map Nm)), .d (.tuple ((canon n P).map pr))]) rfl rfl (by rw [sizeLine_eq]; simp)))), rfl, hx, hw⟩
  have z0 : (sIf (bOf (cBin fEq (.e (cVar false 3)) (.e (cC (.int 0))))) (sRet (cDisp true [(cVar false 4), (cVar false 5), (cVar false 6)])) sPass) (fnAt T 200 (k + 3)) ⟨[some .src, c1, some (.d (Nm most)), some (.d (.int w)), some (.d (Nm n)), some (.d (.tuple (cs.map Nm))), some (.d (.tuple ((canon n P).map pr))), none, none, none, none, none], some x⟩ = some (.nx, ⟨[some .src, c1, some (.d (Nm most)), some (.d (.int w)), some (.d (Nm n)), some (.d (.tuple (cs.map Nm))), some (.d (.tuple ((canon n P).map pr))), none, none, none, none, none], some x⟩) := e_ifF ((teq w 0).trans (by rw [show (w == 0) = false from beq_false_of_ne (by omega)])) rfl
  have z3 : w ≠ 3 → (sIf (bOf (cBin fEq (.e (cVar false 3)) (.e (cC (.int 3))))) (sSeq (sPar [10] [(cCall "_law_pick" [(cVar false 0), (cVar false 4)])])
    (sRet (cDisp true [(cVar false 4), (cBin fAdd (.e (cBin fAdd (.e (cCut (.e (cVar false 5)) none (some (.e (cVar false 10))))) (.e (cDisp true [(cCall "_law_pick" [(cVar false 0), (cC (.int 2))])])))) (.e (cCut (.e (cVar false 5)) (some (.e (cBin fAdd (.e (cVar false 10)) (.e (cC (.int 1)))))) none))), (cVar false 6)]))) sPass) (fnAt T 200 (k + 3)) ⟨[some .src, c1, some (.d (Nm most)), some (.d (.int w)), some (.d (Nm n)), some (.d (.tuple (cs.map Nm))), some (.d (.tuple ((canon n P).map pr))), none, none, none, none, none], some x⟩ = some (.nx, ⟨[some .src, c1, some (.d (Nm most)), some (.d (.int w)), some (.d (Nm n)), some (.d (.tuple (cs.map Nm))), some (.d (.tuple ((canon n P).map pr))), none, none, none, none, none], some x⟩) := fun h3 => e_ifF ((teq w 3).trans (by rw [show (w == 3) = false from beq_false_of_ne h3])) rfl
  have z4 : w ≠ 4 → (sIf (bAnd (bOf (cBin fEq (.e (cVar false 3)) (.e (cC (.int 4))))) (bOf (cBin fLt (.e (cVar false 4)) (.e (cVar false 2))))) (sRet (cDisp true [(cBin fAdd (.e (cVar false 4)) (.e (cC (.int 1)))), (cBin fAdd (.e (cVar false 5)) (.e (cCut (.e (cVar false 5)) none (some (.e (cC (.int 1))))))), (cVar false 6)])) sPass) (fnAt T 200 (k + 3)) ⟨[some .src, c1, some (.d (Nm most)), some (.d (.int w)), some (.d (Nm n)), some (.d (.tuple (cs.map Nm))), some (.d (.tuple ((canon n P).map pr))), none, none, none, none, none], some x⟩ = some (.nx, ⟨[some .src, c1, some (.d (Nm most)), some (.d (.int w)), some (.d (Nm n)), some (.d (.tuple (cs.map Nm))), some (.d (.tuple ((canon n P).map pr))), none, none, none, none, none], some x⟩) := fun h4 => by
    refine e_ifF ?_ rfl
    unfold bAnd
    rw [teq w 4, show (w == 4) = false from beq_false_of_ne h4]
  by_cases h12 : w = 1 ∨ w = 2
  · have t := band (i12 w h12) fun _ => tn w
    by_cases hn : 2 ≤ n
    · rw [show decide ((n : Int) > 1) = true from decide_eq_true (by omega), Bool.and_self] at t
      obtain ⟨P2, x2, s2, q1, q2, q3⟩ := otherB (k + 1) hw (most := most) (P := P) hn c1 w x hx
      exact ⟨n, cs, P2, x2, s2, e_seq z0 (e_ret (e_ifT t q1)), q2, q3, hw⟩
    · rw [show decide ((n : Int) > 1) = false from decide_eq_false (by omega), Bool.and_false] at t
      exact ⟨n', cs', P', x', s', e_seq z0 (e_seq (e_ifF t rfl) (e_seq (z3 (by omega)) (e_seq (z4 (by omega)) he))), hs1, hs2, hs3⟩
  · have z1 : (sIf (bAnd (bOf (cBin (fInD false) (.e (cVar false 3)) (.e (cDisp true [(cC (.int 1)), (cC (.int 2))])))) (bOf (cBin fGt (.e (cVar false 4)) (.e (cC (.int 1)))))) (sSeq (sAsg (aUnp 2 (aCons (aName 7) (aCons (aName 8) aNil))) (cCut (.e (cCall "_law_mixed" [(cVar false 0), (cLRng (.e (cVar false 4)))])) none (some (.e (cC (.int 2))))))
    (sSeq (sPar [9] [(cLc [11] (aName 11) (icAny (.e (cVar false 6))) (bOf (cBin fNe (.e (cVar false 11)) (.e (cDisp true [(cVar false 7), (cVar false 8)])))) (cVar false 11))])
    (sRet (cCall "_law_told_web" [(cVar false 4), (cVar false 5), (cIf (bOf (cBin (fInD false) (.e (cDisp true [(cVar false 7), (cVar false 8)])) (.e (cVar false 6)))) (cVar false 9) (cBin fAdd (.e (cVar false 9)) (.e (cDisp false [(cDisp true [(cVar false 7), (cVar false 8)])]))))])))) sPass) (fnAt T 200 (k + 3)) ⟨[some .src, c1, some (.d (Nm most)), some (.d (.int w)), some (.d (Nm n)), some (.d (.tuple (cs.map Nm))), some (.d (.tuple ((canon n P).map pr))), none, none, none, none, none], some x⟩ = some (.nx, ⟨[some .src, c1, some (.d (Nm most)), some (.d (.int w)), some (.d (Nm n)), some (.d (.tuple (cs.map Nm))), some (.d (.tuple ((canon n P).map pr))), none, none, none, none, none], some x⟩) := by
      refine e_ifF ?_ rfl
      unfold bAnd
      rw [j12 w (by omega)]
    by_cases h3 : w = 3
    · subst h3
      obtain ⟨cs2, x2, s2, q1, q2, q3, q4⟩ := otherC (k + 2) hw (most := most) (P := P) c1 3 x hx
      exact ⟨n, cs2, P, x2, s2, e_seq z0 (e_seq z1 (e_ret (e_ifT (teq 3 3) q1))), q2, q3, q4⟩
    · by_cases h4 : w = 4
      · subst h4
        have t := band (teq 4 4) fun _ => tm 4
        by_cases hn : n < most
        · rw [show decide ((n : Int) < (most : Int)) = true from decide_eq_true (by omega)] at t
          obtain ⟨cs2, P2, q1, q4⟩ := otherD (fnAt T 200 (k + 3)) hw (most := most) (P := P) hn hm c1 4 x
          exact ⟨n + 1, cs2, P2, x, _, e_seq z0 (e_seq z1 (e_seq (z3 h3) (e_ret (e_ifT t q1)))), rfl, hx, q4⟩
        · rw [show decide ((n : Int) < (most : Int)) = false from decide_eq_false (by omega), Bool.and_false] at t
          exact ⟨n', cs', P', x', s', e_seq z0 (e_seq z1 (e_seq (z3 h3) (e_seq (e_ifF t rfl) he))), hs1, hs2, hs3⟩
      · exact ⟨n', cs', P', x', s', e_seq z0 (e_seq z1 (e_seq (z3 h3) (e_seq (z4 h4) he))), hs1, hs2, hs3⟩

theorem law_other_ok (k : Nat) {n most : Nat} {cs : List Nat} {P : Nat → Nat → Bool} (hw : Wb n cs) (hm1 : 1 ≤ most) (hm : most ≤ 5) (x : Src) (hx : x.cells.length ≤ 63) : ∃ (n' : Nat) (cs' : List Nat) (P' : Nat → Nat → Bool) (x' : Src), (fnAt T 200 (k + 4)).call "_law_other" [.src, .d (wb n cs P), .d (Nm most)] (some x) = some (.d (wb n' cs' P'), some x') ∧ Wb n' cs' ∧ x'.cells.length ≤ 63 := by
  obtain ⟨w, x1, e1, hx1, a0, a1⟩ := pick_ok (k + 2) x hx 6 (by decide)
  obtain ⟨cs', P', x2, e2, hw', hx2⟩ := called_ok k (P := P) hw x1 hx1
  obtain ⟨n3, cs3, P3, x3, s3, e3, hs1, hx3, hw3⟩ := other_rest k hw' (most := most) (P := P') hm1 hm (some (.d (wb n cs P))) w a0 (by omega) x2 hx2
  refine ⟨n3, cs3, P3, x3, ?_, hw3, hx3⟩
  rw [fnAt_call (d := ⟨3, 12, b__law_other⟩) rfl]
  have p1 : (cCall "_law_pick" [(cVar false 0), (cC (.int 6))]) (fnAt T 200 (k + 3)) ⟨[some .src, some (.d (wb n cs P)), some (.d (Nm most)), none, none, none, none, none, none, none, none, none], some x⟩ = some (.d (.int w), ⟨[some .src, some (.d (wb n cs P)), some (.d (Nm most)), none, none, none, none, none, none, none, none, none], some x1⟩) := ccall (s1 := ⟨[some .src, some (.d (wb n cs P)), some (.d (Nm most)), none, none, none, none, none, none, none, none, none], some x⟩) (xs := [.src, .d (.int 6)]) rfl e1
  have p2 : (cCall "_law_called" [(cVar false 0), (cVar false 1)]) (fnAt T 200 (k + 3)) ⟨[some .src, some (.d (wb n cs P)), some (.d (Nm most)), some (.d (.int w)), none, none, none, none, none, none, none, none], some x1⟩ = some (.d (wb n cs' P'), ⟨[some .src, some (.d (wb n cs P)), some (.d (Nm most)), some (.d (.int w)), none, none, none, none, none, none, none, none], some x2⟩) := ccall (s1 := ⟨[some .src, some (.d (wb n cs P)), some (.d (Nm most)), some (.d (.int w)), none, none, none, none, none, none, none, none], some x1⟩) (xs := [.src, .d (wb n cs P)]) rfl e2
  have p3 : sAsg (aUnp 3 (aCons (aName 4) (aCons (aName 5) (aCons (aName 6) aNil)))) (cCall "_law_called" [(cVar false 0), (cVar false 1)]) (fnAt T 200 (k + 3)) ⟨[some .src, some (.d (wb n cs P)), some (.d (Nm most)), some (.d (.int w)), none, none, none, none, none, none, none, none], some x1⟩ = some (.nx, ⟨[some .src, some (.d (wb n cs P)), some (.d (Nm most)), some (.d (.int w)), some (.d (Nm n)), some (.d (.tuple (cs'.map Nm))), some (.d (.tuple ((canon n P').map pr))), none, none, none, none, none], some x2⟩) := sasg p2 rfl
  rw [← hs1]
  refine run_env (n := 3) (nn := 12) (s' := s3) rfl rfl ?_
  show b__law_other (fnAt T 200 (k + 3)) ⟨[some .src, some (.d (wb n cs P)), some (.d (Nm most)), none, none, none, none, none, none, none, none, none], some x⟩ = _
  unfold b__law_other
  exact e_seq (spar1 p1) (e_seq p3 e3)
end L11
namespace L11
open PySem PySem.Spec L2 Ev PyProof.Rows
open scoped Classical
/-! ### plain: places of rows, one turn less -/
section
variable {n n' : Nat} {cs cs' : List Nat} {P P' : Nat → Nat → Bool}
theorem rk_zero_iff {a b : List Nat} : rk n cs P 0 a = rk n' cs' P' 0 b ↔ eyeD cs P a = eyeD cs' P' b := by
  unfold rk
  constructor
  · intro h
    exact (List.cons.inj (PyData.tuple.inj h)).1
  · intro h; rw [h]
theorem rk_eye {a b : List Nat} : ∀ {r : Nat}, rk n cs P r a = rk n' cs' P' r b → eyeD cs P a = eyeD cs' P' b
  | 0, h => rk_zero_iff.mp h
  | r + 1, h => (rk_inj.mp h).1
def sel (pl a : List Nat) : List Nat := pl.map fun i => a.getD i 0
theorem sel_at {pl a : List Nat} {j : Nat} (h : j < pl.length) : (sel pl a).getD j 0 = a.getD (pl.getD j 0) 0 := by
  unfold sel
  rw [List.getD_eq_getElem?_getD, List.getElem?_map, List.getD_eq_getElem?_getD (l := pl), List.getElem?_eq_getElem h]
  rfl
theorem sel_len {pl a : List Nat} : (sel pl a).length = pl.length := List.length_map _
theorem sel_same {pl a b : List Nat} (h : Same cs P a cs' P' b) (hp : ∀ i ∈ pl, i < a.length) : Same cs P (sel pl a) cs' P' (sel pl b) := by
  have hq : ∀ j, j < (sel pl a).length → pl.getD j 0 < a.length := fun j hj => hp _ (getD_mem (by rw [sel_len] at hj; exact hj))
  refine ⟨by rw [sel_len, sel_len], fun i hi => ?_, fun i j hi hj => ?_, fun i j hi hj => ?_⟩
  · have hi' : i < pl.length := by rw [sel_len] at hi; exact hi
    rw [sel_at hi', sel_at hi']
    exact h.col _ (hq i hi)
  · have hi' : i < pl.length := by rw [sel_len] at hi; exact hi
    have hj' : j < pl.length := by rw [sel_len] at hj; exact hj
    rw [sel_at hi', sel_at hi', sel_at hj', sel_at hj']
    exact h.eq _ _ (hq i hi) (hq j hj)
  · have hi' : i < pl.length := by rw [sel_len] at hi; exact hi
    have hj' : j < pl.length := by rw [sel_len] at hj; exact hj
    rw [sel_at hi', sel_at hi', sel_at hj', sel_at hj']
    exact h.led _ _ (hq i hi) (hq j hj)
theorem sel_add {pl a : List Nat} {x : Nat} (hp : ∀ i ∈ pl, i < a.length) : sel (pl ++ [a.length]) (a ++ [x]) = sel pl a ++ [x] := by
  unfold sel
  rw [List.map_append]
  congr 1
  · refine List.map_congr_left fun i hi => ?_
    have := hp i hi
    rw [List.getD_eq_getElem?_getD, List.getD_eq_getElem?_getD, List.getElem?_append_left this]
  · show [(a ++ [x]).getD a.length 0] = [x]
    rw [List.getD_eq_getElem?_getD, List.getElem?_append_right (Nat.le_refl _), Nat.sub_self]
    rfl
theorem Rw'.weak {n m m' : Nat} {row : List Nat} (h : Rw' n row m) (hm : m ≤ m') : Rw' n row m' := ⟨h.mem, Nat.le_trans h.len hm⟩
theorem sel_rw {pl a : List Nat} {m q : Nat} (h : Rw' n a q) (hp : ∀ i ∈ pl, i < a.length) (hl : pl.length ≤ m) : Rw' n (sel pl a) m := ⟨fun x hx => by
  obtain ⟨i, hi, rfl⟩ := List.mem_map.mp hx
  exact h.mem _ (getD_mem (hp i hi)), by rw [sel_len]; exact hl⟩
theorem sel_rk (hw : Wb n cs) (hw' : Wb n' cs') : ∀ (r : Nat) (a b pl : List Nat), Rw' n a (5 - r) → Rw' n' b (5 - r) → r ≤ 5 → pl.length ≤ 5 - r → (∀ i ∈ pl, i < a.length) → rk n cs P r a = rk n' cs' P' r b → rk n cs P r (sel pl a) = rk n' cs' P' r (sel pl b)
  | 0, a, b, pl, ha, hb, _, _, hp, h => by
    rw [rk_zero_iff, eye_iff] at h ⊢
    exact sel_same h hp
  | r + 1, a, b, pl, ha, hb, h5, hl, hp, h => by
    have hs := eye_iff.mp (rk_eye h)
    have hpb : ∀ i ∈ pl, i < b.length := fun i hi => by have := hp i hi; have := hs.len; omega
    have hsa : Rw' n (sel pl a) (5 - (r + 1)) := sel_rw ha hp hl
    have hsb : Rw' n' (sel pl b) (5 - (r + 1)) := sel_rw hb hpb hl
    rw [rk_succ_iff hw hw' ha hb h5] at h
    rw [rk_succ_iff hw hw' hsa hsb h5]
    have step : ∀ x y, x < n → y < n' → rk n cs P r (a ++ [x]) = rk n' cs' P' r (b ++ [y]) → rk n cs P r (sel pl a ++ [x]) = rk n' cs' P' r (sel pl b ++ [y]) := fun x y hx hy e => by
      have := sel_rk hw hw' r (a ++ [x]) (b ++ [y]) (pl ++ [a.length]) ((ha.add hx).weak (by omega)) ((hb.add hy).weak (by omega)) (by omega) (by rw [List.length_append]; simp only [List.length_cons, List.length_nil]; omega) (fun i hi => by
        rw [List.length_append]
        simp only [List.length_cons, List.length_nil]
        rcases List.mem_append.mp hi with h | h
        · have := hp i h; omega
        · rw [List.mem_singleton.mp h]; omega) e
      rw [sel_add hp, hs.len, sel_add hpb] at this
      exact this
    refine ⟨eye_iff.mpr (sel_same hs hp), fun x hx => ?_, fun y hy => ?_⟩
    · obtain ⟨y, hy, e⟩ := h.2.1 x hx
      exact ⟨y, hy, step x y hx hy e⟩
    · obtain ⟨x, hx, e⟩ := h.2.2 y hy
      exact ⟨x, hx, step x y hx hy e⟩
theorem low_rk (hw : Wb n cs) (hw' : Wb n' cs') : ∀ (r : Nat) (a b : List Nat), Rw' n a (5 - (r + 1)) → Rw' n' b (5 - (r + 1)) → r + 1 ≤ 5 → rk n cs P (r + 1) a = rk n' cs' P' (r + 1) b → rk n cs P r a = rk n' cs' P' r b
  | 0, a, b, ha, hb, _, h => rk_zero_iff.mpr (rk_eye h)
  | r + 1, a, b, ha, hb, h5, h => by
    rw [rk_succ_iff hw hw' ha hb h5] at h
    rw [rk_succ_iff hw hw' (ha.weak (by omega)) (hb.weak (by omega)) (by omega)]
    have step : ∀ x y, x < n → y < n' → rk n cs P (r + 1) (a ++ [x]) = rk n' cs' P' (r + 1) (b ++ [y]) → rk n cs P r (a ++ [x]) = rk n' cs' P' r (b ++ [y]) := fun x y hx hy e => low_rk hw hw' r (a ++ [x]) (b ++ [y]) ((ha.add hx).weak (by omega)) ((hb.add hy).weak (by omega)) (by omega) e
    refine ⟨h.1, fun x hx => ?_, fun y hy => ?_⟩
    · obtain ⟨y, hy, e⟩ := h.2.1 x hx
      exact ⟨y, hy, step x y hx hy e⟩
    · obtain ⟨x, hx, e⟩ := h.2.2 y hy
      exact ⟨x, hx, step x y hx hy e⟩
end
/-! ### texts of two things -/
theorem sh_list2 (d e : PyData) : sh (.list [d, e]) = 91 :: (sh d ++ 44 :: 32 :: (sh e ++ [93])) := by
  unfold sh
  simp only [PyData.shown]
  show (((((("[" : Str) ++ (("" : String) : Str)) ++ d.shown) ++ ((", " : String) : Str)) ++ e.shown) ++ ("]" : Str)).cps.toList = _
  simp only [Str.cps_append, Array.toList_append, List.append_assoc]
  rfl
theorem repr2 {L : Nat} {d e : PyData} (hd : Sm L d) (he : Sm L e) (hL : L ≤ 8000000) : fRepr [.list [d, e]] = some (.str (PyData.list [d, e]).shown) ∧ fNe (.str (PyData.list [d, e]).shown) (.str (PyData.list [d, e]).shown) = some (.bool false) := by
  have h1 := hd.len
  have h2 := he.len
  have hl : (PyData.list [d, e]).shown.length ≤ sizeLine := by
    rw [shown_len, sh_list2, sizeLine_eq]
    simp only [List.length_cons, List.length_append, List.length_nil]
    omega
  have hc : PyData.canLay0 (.list [d, e]) = true := by
    unfold PyData.canLay0
    simp only [PyData.canLayAll0, itr_lay d (its_itr d hd.its), itr_lay e (its_itr e he.its), Bool.and_self]
  have hsh : PyData.showable (.list [d, e]) = true := by
    simp only [PyData.showable, PyData.showableAll, its_show d hd.its, its_show e he.its, Bool.and_self]
  have hdep : (PyData.list [d, e]).depth ≤ 64 := by
    have h3 := hd.dep
    have h4 := he.dep
    have h5 : PyData.depthAll [d, e] ≤ 60 := depthAll_le fun x hx => by
      simp only [List.mem_cons, List.not_mem_nil, or_false] at hx
      rcases hx with rfl | rfl
      · exact h3
      · exact h4
    show PyData.depth (.list [d, e]) ≤ 64
    simp only [PyData.depth] at h5 ⊢
    omega
  refine ⟨?_, fne_same hl ?_⟩
  · show (if PyData.canLay0 (.list [d, e]) && (PyData.list [d, e]).showable && decide ((PyData.list [d, e]).shown.length ≤ sizeLine) && decide ((PyData.list [d, e]).depth ≤ 64) then some (PyData.str (PyData.list [d, e]).shown) else none) = _
    rw [hc, hsh, decide_eq_true hl, decide_eq_true hdep]
    rfl
  · intro c hcm
    have hcm : c ∈ sh (.list [d, e]) := hcm
    rw [sh_list2] at hcm
    simp only [List.mem_cons, List.mem_append, List.not_mem_nil, or_false] at hcm
    rcases hcm with h | h | h | h | h | h
    · omega
    · exact sh_c d hd.its c h
    · omega
    · omega
    · exact sh_c e he.its c h
    · omega
theorem bool_repr (b : Bool) : ∃ t, fRepr [.bool b] = some (.str t) ∧ fNe (.str t) (.str t) = some (.bool false) := by
  cases b
  · exact ⟨_, rfl, fne_same (by decide +kernel) (by decide +kernel)⟩
  · exact ⟨_, rfl, fne_same (by decide +kernel) (by decide +kernel)⟩
theorem wb_sm {n : Nat} {cs : List Nat} {P : Nat → Nat → Bool} (hw : Wb n cs) : Sm 1000 (wb n cs P) := by
  have n5 := hw.n5
  obtain ⟨a1, a2, a3⟩ := prs_sm n5 P
  have hcl := hw.len
  have c1 : its (.tuple (cs.map Nm)) = true := its_tup fun d hd => by
    obtain ⟨x, hx, rfl⟩ := List.mem_map.mp hd
    exact its_nm (hw.col x hx)
  have c2 : (sh (.tuple (cs.map Nm))).length ≤ 310 := by
    have := tup_len (n := 2) (cs.map Nm) fun d hd => by
      obtain ⟨x, hx, rfl⟩ := List.mem_map.mp hd
      exact nm_len (hw.col x hx)
    rw [List.length_map] at this
    omega
  have c3 : (PyData.tuple (cs.map Nm)).depth ≤ 6 := by
    have h1 : PyData.depthAll (cs.map Nm) ≤ 0 := depthAll_le fun d hd => by obtain ⟨x, _, rfl⟩ := List.mem_map.mp hd; simp [PyData.depth]
    simp only [PyData.depth]
    omega
  refine ⟨its_tup fun d hd => ?_, ?_, ?_⟩
  · simp only [List.mem_cons, List.not_mem_nil, or_false] at hd
    rcases hd with rfl | rfl | rfl
    · exact its_nm (by omega)
    · exact c1
    · exact a1
  · refine Nat.le_trans (tup_len (n := 310) _ fun d hd => ?_) (by simp)
    simp only [List.mem_cons, List.not_mem_nil, or_false] at hd
    rcases hd with rfl | rfl | rfl
    · exact Nat.le_trans (nm_len (by omega)) (by omega)
    · exact c2
    · exact a2
  · have h1 : PyData.depthAll [Nm n, .tuple (cs.map Nm), .tuple ((canon n P).map pr)] ≤ 6 := depthAll_le fun d hd => by
      simp only [List.mem_cons, List.not_mem_nil, or_false] at hd
      rcases hd with rfl | rfl | rfl
      · simp [PyData.depth]
      · exact c3
      · exact a3
    show PyData.depth (.tuple _) ≤ 60
    simp only [PyData.depth] at h1 ⊢
    omega
end L11
namespace L11
open PySem PySem.Spec L2 Ev PyProof.Rows
open scoped Classical
/-! ### the looks of the law: conditions on an opaque state -/
structure Lk (s : S) (n : Nat) (cs : List Nat) (P : Nat → Nat → Bool) (n' : Nat) (cs' : List Nat) (P' : Nat → Nat → Bool) (a b : List Nat) (r : Nat) : Prop where
  v3 : s.env[3]? = some (some (.d (wb n cs P)))
  v4 : s.env[4]? = some (some (.d (wb n' cs' P')))
  v8 : s.env[8]? = some (some (.d (Rw a)))
  v9 : s.env[9]? = some (some (.d (Rw b)))
  v10 : s.env[10]? = some (some (.d (Nm r)))
  hw : Wb n cs
  hw' : Wb n' cs'
  ha : Rw' n a (5 - r)
  hb : Rw' n' b (5 - r)
  hl : a.length = b.length
  h3 : r ≤ 3
theorem disp2 {F : Fn} {s : S} {c d : CE} {x y : PyData} (h : c F s = some (.d x, s)) (h2 : d F s = some (.d y, s)) : (cDisp false [c, d]) F s = some (.d (.list [x, y]), s) := cdisp (b := false) (eargs h (eargs (cs := []) h2 rfl)) rfl (by rw [sizeLine_eq]; simp)
theorem two_same {F : Fn} {s : S} {c1 c2 d1 d2 : CE} {L : Nat} {x y : PyData} (hL : L ≤ 8000000) (hx : Sm L x) (hy : Sm L y) (h1 : c1 F s = some (.d x, s)) (h2 : c2 F s = some (.d y, s)) (g1 : d1 F s = some (.d x, s)) (g2 : d2 F s = some (.d y, s)) :
    bOf (cBin fNe (.e (cNat fRepr [(.e (cDisp false [c1, c2]))])) (.e (cNat fRepr [(.e (cDisp false [d1, d2]))]))) F s = some (false, s) := by
  obtain ⟨e1, e2⟩ := repr2 hx hy hL
  exact bof' (cbin (cnat1 (disp2 h1 h2) e1) (cnat1 (disp2 g1 g2) e1) e2)
section
variable {s : S} {n n' : Nat} {cs cs' : List Nat} {P P' : Nat → Nat → Bool} {a b : List Nat} {r : Nat}
abbrev FF : Fn := fnAt T 200 100
theorem call2 {nm : String} {i j : Nat} {x y z : PyData} (hi : s.env[i]? = some (some (.d x))) (hj : s.env[j]? = some (some (.d y))) (h : FF.call nm [.d x, .d y] s.src = some (.d z, s.src)) : cCall nm [(cVar false i), (cVar false j)] FF s = some (.d z, s) := pcall (eargs (vat hi) (eargs (vat hj) rfl)) h
theorem call3 {nm : String} {i j : Nat} {c : CE} {x y z w : PyData} (hi : s.env[i]? = some (some (.d x))) (hj : s.env[j]? = some (some (.d y))) (hc : c FF s = some (.d w, s)) (h : FF.call nm [.d x, .d y, .d w] s.src = some (.d z, s.src)) : cCall nm [(cVar false i), (cVar false j), c] FF s = some (.d z, s) := pcall (eargs (vat hi) (eargs (vat hj) (eargs hc rfl))) h
theorem cond_eye (h : Lk s n cs P n' cs' P' a b r) : bOf (cBin fNe (.e (cNat fRepr [(.e (cDisp false [(cCall "row_eye" [(cVar false 3), (cVar false 8)]), (cCall "row_eye" [(cVar false 4), (cVar false 9)])]))])) (.e (cNat fRepr [(.e (cDisp false [(cCall "_law_eye" [(cVar false 3), (cVar false 8)]), (cCall "_law_eye" [(cVar false 4), (cVar false 9)])]))]))) FF s = some (false, s) := by
  have la := h.ha.len
  have lb := h.hb.len
  exact two_same (L := 1000) (by decide) (eye_sm (P := P) h.hw (h.ha.weak (by omega))) (eye_sm (P := P') h.hw' (h.hb.weak (by omega)))
    (call2 h.v3 h.v8 (row_eye_ok (P := P) 99 h.hw.len h.ha.mem (by omega) s.src)) (call2 h.v4 h.v9 (row_eye_ok (P := P') 99 h.hw'.len h.hb.mem (by omega) s.src))
    (call2 h.v3 h.v8 (law_eye_ok (P := P) 99 h.hw.len h.ha.mem (by omega) s.src)) (call2 h.v4 h.v9 (law_eye_ok (P := P') 99 h.hw'.len h.hb.mem (by omega) s.src))
theorem told_at (h : Lk s n cs P n' cs' P' a b r) : cCall "rank_type" [(cVar false 3), (cVar false 8), (cVar false 10)] FF s = some (.d (rk n cs P r a), s) := call3 h.v3 h.v8 (vat h.v10) (rank_type_ok (P := P) h.hw r a h.ha h.h3 100 (by have := h.h3; omega) s.src)
theorem told2_at (h : Lk s n cs P n' cs' P' a b r) : cCall "rank_type" [(cVar false 4), (cVar false 9), (cVar false 10)] FF s = some (.d (rk n' cs' P' r b), s) := call3 h.v4 h.v9 (vat h.v10) (rank_type_ok (P := P') h.hw' r b h.hb h.h3 100 (by have := h.h3; omega) s.src)
theorem sm1 (h : Lk s n cs P n' cs' P' a b r) : Sm (LB r) (rk n cs P r a) := rk_sm (P := P) h.hw h.ha (by have := h.h3; omega)
theorem sm2 (h : Lk s n cs P n' cs' P' a b r) : Sm (LB r) (rk n' cs' P' r b) := rk_sm (P := P') h.hw' h.hb (by have := h.h3; omega)
theorem cond_types (h : Lk s n cs P n' cs' P' a b r) (v11 : s.env[11]? = some (some (.d (rk n cs P r a)))) : bOf (cBin fNe (.e (cNat fRepr [(.e (cDisp false [(cVar false 11), (cCall "rank_type" [(cVar false 4), (cVar false 9), (cVar false 10)])]))])) (.e (cNat fRepr [(.e (cDisp false [(cCall "_law_type" [(cVar false 3), (cVar false 8), (cVar false 10)]), (cCall "_law_type" [(cVar false 4), (cVar false 9), (cVar false 10)])]))]))) FF s = some (false, s) :=
  two_same (LB_le h.h3) (sm1 h) (sm2 h) (vat v11) (told2_at h)
    (call3 h.v3 h.v8 (vat h.v10) (law_type_ok (P := P) h.hw r a h.ha h.h3 100 (by have := h.h3; omega) s.src)) (call3 h.v4 h.v9 (vat h.v10) (law_type_ok (P := P') h.hw' r b h.hb h.h3 100 (by have := h.h3; omega) s.src))
theorem less_at {q : Nat} (v10 : s.env[10]? = some (some (.d (Nm (q + 1))))) : (cBin fSub (.e (cVar false 10)) (.e (cC (.int 1)))) FF s = some (.d (Nm q), s) := by
  refine cbin (vat v10) rfl ?_
  show some (PyData.int (((q + 1 : Nat) : Int) - 1)) = _
  rw [show ((q + 1 : Nat) : Int) - 1 = (q : Int) by omega]
theorem gt_at {q : Nat} (v10 : s.env[10]? = some (some (.d (Nm q)))) : (bOf (cBin fGt (.e (cVar false 10)) (.e (cC (.int 0))))) FF s = some (decide (q > 0), s) := by
  refine bof' (cbin (vat v10) rfl ?_)
  show some (PyData.bool (decide ((q : Int) > 0))) = _
  congr 2
  rw [Bool.eq_iff_iff, decide_eq_true_eq, decide_eq_true_eq]
  omega
theorem cond_low (h : Lk s n cs P n' cs' P' a b r) (v11 : s.env[11]? = some (some (.d (rk n cs P r a)))) : (bAnd (bOf (cBin fGt (.e (cVar false 10)) (.e (cC (.int 0))))) (bOf (cBin fNe (.e (cNat fRepr [(.e (cCall "lowered_type" [(cVar false 11)]))])) (.e (cNat fRepr [(.e (cCall "_law_type" [(cVar false 3), (cVar false 8), (cBin fSub (.e (cVar false 10)) (.e (cC (.int 1))))]))]))))) FF s = some (false, s) := by
  have g := gt_at h.v10
  have h3 := h.h3
  cases r with
  | zero =>
    unfold bAnd
    rw [g]
    rfl
  | succ q =>
    have e1 : (cCall "lowered_type" [(cVar false 11)]) FF s = some (.d (rk n cs P q a), s) := pcall1 (vat v11) (lowered_type_ok (P := P) 99 h.hw h.ha h.h3 (by omega) s.src)
    have ha' : Rw' n a (5 - q) := h.ha.weak (by omega)
    have e2 : (cCall "_law_type" [(cVar false 3), (cVar false 8), (cBin fSub (.e (cVar false 10)) (.e (cC (.int 1))))]) FF s = some (.d (rk n cs P q a), s) := call3 h.v3 h.v8 (less_at h.v10) (law_type_ok (P := P) h.hw q a ha' (by omega) 100 (by omega) s.src)
    have sm := rk_sm (P := P) h.hw ha' (by omega)
    have hr := sm.repr (LB_le (r := q) (by omega))
    have g2 := bof' (cbin (cnat1 e1 hr) (cnat1 e2 hr) (fne_shown sm.its hr))
    have := band g fun _ => g2
    rw [Bool.and_false] at this
    exact this
noncomputable def due (n : Nat) (cs : List Nat) (P : Nat → Nat → Bool) (n' : Nat) (cs' : List Nat) (P' : Nat → Nat → Bool) (r : Nat) (a b : List Nat) : Bool := decide (rk n cs P r a = rk n' cs' P' r b)
theorem due_at (h : Lk s n cs P n' cs' P' a b r) : (cCall "_law_is_kept" [(cVar false 3), (cVar false 8), (cVar false 4), (cVar false 9), (cVar false 10)]) FF s = some (.d (.bool (due n cs P n' cs' P' r a b)), s) :=
  pcall (eargs (vat h.v3) (eargs (vat h.v8) (eargs (vat h.v4) (eargs (vat h.v9) (eargs (vat h.v10) rfl))))) (is_kept_ok (P := P) (P' := P') h.hw h.hw' r a b h.ha h.hb h.hl h.h3 100 (by have := h.h3; omega) s.src)
theorem kept_at (h : Lk s n cs P n' cs' P' a b r) : (cCall "are_kept" [(cVar false 3), (cVar false 8), (cVar false 4), (cVar false 9), (cVar false 10)]) FF s = some (.d (.bool (due n cs P n' cs' P' r a b)), s) :=
  pcall (eargs (vat h.v3) (eargs (vat h.v8) (eargs (vat h.v4) (eargs (vat h.v9) (eargs (vat h.v10) rfl))))) (are_kept_ok (P := P) (P' := P') 99 h.hw h.hw' h.ha h.hb h.h3 (by have := h.h3; omega) s.src)
theorem cond_kept (h : Lk s n cs P n' cs' P' a b r) (v12 : s.env[12]? = some (some (.d (.bool (due n cs P n' cs' P' r a b))))) : bOf (cBin fNe (.e (cNat fRepr [(.e (cCall "are_kept" [(cVar false 3), (cVar false 8), (cVar false 4), (cVar false 9), (cVar false 10)]))])) (.e (cNat fRepr [(.e (cVar false 12))]))) FF s = some (false, s) := by
  obtain ⟨t, e1, e2⟩ := bool_repr (due n cs P n' cs' P' r a b)
  exact bof' (cbin (cnat1 (kept_at h) e1) (cnat1 (vat v12) e1) e2)
theorem cond_eq (h : Lk s n cs P n' cs' P' a b r) (v11 : s.env[11]? = some (some (.d (rk n cs P r a)))) (v12 : s.env[12]? = some (some (.d (.bool (due n cs P n' cs' P' r a b))))) : (bOr (bOf (cBin fNe (.e (cBin fEq (.e (cNat fRepr [(.e (cVar false 11))])) (.e (cNat fRepr [(.e (cCall "rank_type" [(cVar false 4), (cVar false 9), (cVar false 10)]))])))) (.e (cVar false 12)))) (bOf (cBin fNe (.e (cCall "are_kept" [(cVar false 4), (cVar false 9), (cVar false 3), (cVar false 8), (cVar false 10)])) (.e (cVar false 12))))) FF s = some (false, s) := by
  have l := LB_le h.h3
  have m1 := sm1 h
  have m2 := sm2 h
  have t1 := bof' (cbin (f := fNe) (cbin (f := fEq) (cnat1 (vat v11) (m1.repr l)) (cnat1 (told2_at h) (m2.repr l)) (feq_shown m1.its m2.its (Nat.le_trans m1.len l) (Nat.le_trans m2.len l))) (vat v12) (fne_bool' _ _))
  have k2 : (cCall "are_kept" [(cVar false 4), (cVar false 9), (cVar false 3), (cVar false 8), (cVar false 10)]) FF s = some (.d (.bool (decide (rk n' cs' P' r b = rk n cs P r a))), s) := pcall (eargs (vat h.v4) (eargs (vat h.v9) (eargs (vat h.v3) (eargs (vat h.v8) (eargs (vat h.v10) rfl))))) (are_kept_ok (P := P') (P' := P) 99 h.hw' h.hw h.hb h.ha h.h3 (by have := h.h3; omega) s.src)
  have t2 := bof' (cbin (f := fNe) k2 (vat v12) (fne_bool' _ _))
  have e1 : (decide (rk n cs P r a = rk n' cs' P' r b) == due n cs P n' cs' P' r a b) = true := by unfold due; simp
  have e2 : (decide (rk n' cs' P' r b = rk n cs P r a) == due n cs P n' cs' P' r a b) = true := by
    unfold due
    rw [beq_iff_eq, Bool.eq_iff_iff, decide_eq_true_eq, decide_eq_true_eq]
    exact eq_comm
  rw [e1] at t1
  rw [e2] at t2
  exact bor t1 fun _ => t2
theorem late_ok {pl : List Nat} (h : Lk s n cs P n' cs' P' a b r) (v12 : s.env[12]? = some (some (.d (.bool (due n cs P n' cs' P' r a b))))) (v14 : s.env[14]? = some (some (.d (.list [Rw (sel pl a), Rw (sel pl b)])))) (hp : ∀ i ∈ pl, i < a.length) (hpl : pl.length ≤ 5 - r) :
    (bAnd (bTru (.e (cVar false 12))) (bNot (bTru (.e (cCall "are_kept" [(cVar false 3), (cBin fIxD (.e (cVar false 14)) (.e (cC (.int 0)))), (cVar false 4), (cBin fIxD (.e (cVar false 14)) (.e (cC (.int 1)))), (cVar false 10)]))))) FF s = some (false, s) := by
  have hpb : ∀ i ∈ pl, i < b.length := fun i hi => by have := hp i hi; have := h.hl; omega
  have t1 := btru (F := FF) (vat v12)
  have i0 : (cBin fIxD (.e (cVar false 14)) (.e (cC (.int 0)))) FF s = some (.d (Rw (sel pl a)), s) := cbin (vat v14) rfl rfl
  have i1 : (cBin fIxD (.e (cVar false 14)) (.e (cC (.int 1)))) FF s = some (.d (Rw (sel pl b)), s) := cbin (vat v14) rfl rfl
  have hk : (cCall "are_kept" [(cVar false 3), (cBin fIxD (.e (cVar false 14)) (.e (cC (.int 0)))), (cVar false 4), (cBin fIxD (.e (cVar false 14)) (.e (cC (.int 1)))), (cVar false 10)]) FF s = some (.d (.bool (decide (rk n cs P r (sel pl a) = rk n' cs' P' r (sel pl b)))), s) :=
    pcall (eargs (vat h.v3) (eargs i0 (eargs (vat h.v4) (eargs i1 (eargs (vat h.v10) rfl))))) (are_kept_ok (P := P) (P' := P') 99 h.hw h.hw' (sel_rw h.ha hp hpl) (sel_rw h.hb hpb hpl) h.h3 (by have := h.h3; omega) s.src)
  have t := band t1 fun _ => bnot (btru hk)
  rw [t]
  congr 2
  cases hd : due n cs P n' cs' P' r a b with
  | false => rfl
  | true =>
    unfold due at hd
    rw [decide_eq_true_eq] at hd
    rw [decide_eq_true (sel_rk h.hw h.hw' r a b pl h.ha h.hb (by have := h.h3; omega) hpl hp hd)]
    rfl
theorem cond_less (h : Lk s n cs P n' cs' P' a b r) (v12 : s.env[12]? = some (some (.d (.bool (due n cs P n' cs' P' r a b))))) :
    (bAnd (bTru (.e (cVar false 12))) (bAnd (bOf (cBin fGt (.e (cVar false 10)) (.e (cC (.int 0))))) (bNot (bTru (.e (cCall "are_kept" [(cVar false 3), (cVar false 8), (cVar false 4), (cVar false 9), (cBin fSub (.e (cVar false 10)) (.e (cC (.int 1))))])))))) FF s = some (false, s) := by
  have t1 := btru (F := FF) (vat v12)
  have g := gt_at h.v10
  have h3 := h.h3
  cases r with
  | zero =>
    have t := band t1 fun _ => (show (bAnd (bOf (cBin fGt (.e (cVar false 10)) (.e (cC (.int 0))))) (bNot (bTru (.e (cCall "are_kept" [(cVar false 3), (cVar false 8), (cVar false 4), (cVar false 9), (cBin fSub (.e (cVar false 10)) (.e (cC (.int 1))))]))))) FF s = some (false, s) by
      unfold bAnd
      rw [g]
      rfl)
    rw [Bool.and_false] at t
    exact t
  | succ q =>
    have ha' : Rw' n a (5 - q) := h.ha.weak (by omega)
    have hb' : Rw' n' b (5 - q) := h.hb.weak (by omega)
    have hk : (cCall "are_kept" [(cVar false 3), (cVar false 8), (cVar false 4), (cVar false 9), (cBin fSub (.e (cVar false 10)) (.e (cC (.int 1))))]) FF s = some (.d (.bool (decide (rk n cs P q a = rk n' cs' P' q b))), s) :=
      pcall (eargs (vat h.v3) (eargs (vat h.v8) (eargs (vat h.v4) (eargs (vat h.v9) (eargs (less_at h.v10) rfl))))) (are_kept_ok (P := P) (P' := P') 99 h.hw h.hw' ha' hb' (by omega) (by omega) s.src)
    have t := band t1 fun _ => band g fun _ => bnot (btru hk)
    rw [t]
    congr 2
    cases hd : due n cs P n' cs' P' (q + 1) a b with
    | false => rfl
    | true =>
      unfold due at hd
      rw [decide_eq_true_eq] at hd
      rw [decide_eq_true (low_rk h.hw h.hw' q a b h.ha h.hb (by omega) hd)]
      simp
end
def selD (pl : List Nat) : PyData → PyData
  | .tuple ds => .tuple (pl.map fun i => (ds[i]?).getD .none)
  | _ => .none
theorem selD_row {pl row : List Nat} (hp : ∀ i ∈ pl, i < row.length) : selD pl (Rw row) = Rw (sel pl row) := by
  show PyData.tuple (pl.map fun i => ((row.map Nm)[i]?).getD .none) = .tuple ((pl.map fun i => row.getD i 0).map Nm)
  rw [List.map_map]
  congr 1
  refine List.map_congr_left fun i hi => ?_
  rw [map_at (f := Nm) (hp i hi)]
  rfl
end L11
namespace L11
open PySem PySem.Spec L2 Ev PyProof.Rows
open scoped Classical
theorem spar3 {F : Fn} {s s1 s2 s3 : S} {i j k : Nat} {c d e : CE} {x y z : Vx} (h : c F s = some (x, s1)) (h2 : d F s1 = some (y, s2)) (h3 : e F s2 = some (z, s3)) : sPar [i, j, k] [c, d, e] F s = some (.nx, { s3 with env := ((s3.env.set i (some x)).set j (some y)).set k (some z) }) := by
  unfold sPar
  rw [eargs h (eargs h2 (eargs (cs := []) h3 rfl))]
  rfl

theorem picks1 (k : Nat) {i m M : Nat} {ic : IC} {cm : CE} {s : S} {E1 : List (Option Vx)} {x : Src} (hic : ic (fnAt T 200 (k + 1)) s = some ((List.range m).map Nm, ⟨E1, some x⟩, [])) (hm : m ≤ 1000) (hx : x.cells.length ≤ 63) (hM : M < 1000000)
    (hc : ∀ d (y : Src), evArgs [cVar false 1, cm] (fnAt T 200 (k + 1)) ⟨(E1.set i none).set i (some (.d d)), some y⟩ = some ([.src, .d (Nm M)], ⟨(E1.set i none).set i (some (.d d)), some y⟩)) :
    ∃ (cs : List Nat) (x' : Src), cLc [i] (aName i) ic bYes (cCall "_law_pick" [cVar false 1, cm]) (fnAt T 200 (k + 1)) s = some (.d (.list (cs.map Nm)), ⟨E1, some x'⟩) ∧ cs.length = m ∧ (∀ c ∈ cs, c < max 1 M) ∧ x'.cells.length ≤ 63 := by
  obtain ⟨ys, src2, g1, ⟨x', rfl, hx'⟩, g3, g4⟩ := clc_ind (own := [i]) (as := aName i) (t := bYes) (c := (cCall "_law_pick" [cVar false 1, cm])) hic (by rw [List.length_map, List.length_range, sizeLine_eq]; omega) (fun _ src => ∃ y : Src, src = some y ∧ y.cells.length ≤ 63) (fun _ y => ∃ c, c < max 1 M ∧ y = Nm c) ⟨x, rfl, hx⟩ (by
    rintro j d src hj ⟨y, rfl, hy⟩
    obtain ⟨r, y2, e, hy2, r0, r1⟩ := pick_ok k y hy (M : Int) (by omega)
    obtain ⟨c, rfl⟩ : ∃ c : Nat, r = (c : Int) := ⟨r.toNat, by omega⟩
    refine ⟨⟨(E1.set i none).set i (some (.d d)), some y⟩, ⟨(E1.set i none).set i (some (.d d)), some y⟩, Nm c, (E1.set i none).set i (some (.d d)), some y2, rfl, rfl, ccall (hc d y) e, ?_, ⟨y2, rfl, hy2⟩, c, by omega, rfl⟩
    show ((E1.set i none).set i (some (.d d))).set i none = E1.set i none
    rw [List.set_set, List.set_set])
  obtain ⟨cs, rfl, hl, hcs⟩ := nats_of (ys := ys) (M := max 1 M) fun y hy => by
    obtain ⟨j, hj⟩ := List.mem_iff_getElem?.mp hy
    exact g4 j y hj
  exact ⟨cs, x', g1, by rw [hl, g3, List.length_map, List.length_range], hcs, hx'⟩

theorem late_at {n n' : Nat} {cs cs' : List Nat} {P P' : Nat → Nat → Bool} (c0 e2 e5 e6 e7 e8 e9 e10 e11 e12 e13 e14 : Option Vx) {kk : Nat} {a b pl : List Nat} (hpl : pl.length ≤ 100) (hpa : ∀ i ∈ pl, i < a.length) (hpb : ∀ i ∈ pl, i < b.length) (x : Src) :
    (cLc [16] (aName 16) (icAny (.e (cDisp true [(cVar false 8), (cVar false 9)]))) bYes (cNat fTuple [(.e (cLc [17] (aName 17) (icAny (.e (cVar false 13))) bYes (cBin fIxD (.e (cVar false 16)) (.e (cVar false 17)))))])) FF ⟨[c0, some .src, e2, some (.d (wb n cs P)), some (.d (wb n' cs' P')), e5, e6, some (.d (Nm kk)), some (.d (Rw a)), some (.d (Rw b)), e10, e11, e12, some (.d (.list (pl.map Nm))), e14, none, none, none], some x⟩ = some (.d (.list [Rw (sel pl a), Rw (sel pl b)]), ⟨[c0, some .src, e2, some (.d (wb n cs P)), some (.d (wb n' cs' P')), e5, e6, some (.d (Nm kk)), some (.d (Rw a)), some (.d (Rw b)), e10, e11, e12, some (.d (.list (pl.map Nm))), e14, none, none, none], some x⟩) := by
  have hm := clc_map (own := [16]) (as := aName 16) (ic := (icAny (.e (cDisp true [(cVar false 8), (cVar false 9)])))) (c := (cNat fTuple [(.e (cLc [17] (aName 17) (icAny (.e (cVar false 13))) bYes (cBin fIxD (.e (cVar false 16)) (.e (cVar false 17)))))])) (F := FF) (ds := [Rw a, Rw b]) (E1 := [c0, some .src, e2, some (.d (wb n cs P)), some (.d (wb n' cs' P')), e5, e6, some (.d (Nm kk)), some (.d (Rw a)), some (.d (Rw b)), e10, e11, e12, some (.d (.list (pl.map Nm))), e14, none, none, none]) (src := some x) (s := ⟨[c0, some .src, e2, some (.d (wb n cs P)), some (.d (wb n' cs' P')), e5, e6, some (.d (Nm kk)), some (.d (Rw a)), some (.d (Rw b)), e10, e11, e12, some (.d (.list (pl.map Nm))), e14, none, none, none], some x⟩) rfl (by rw [sizeLine_eq]; simp) (selD pl) (by
    intro d hd
    obtain ⟨row, rfl, hp⟩ : ∃ row : List Nat, d = Rw row ∧ ∀ i ∈ pl, i < row.length := by
      simp only [List.mem_cons, List.not_mem_nil, or_false] at hd
      rcases hd with rfl | rfl
      · exact ⟨a, rfl, hpa⟩
      · exact ⟨b, rfl, hpb⟩
    rw [selD_row hp]
    have hn := clc_map (own := [17]) (as := aName 17) (ic := (icAny (.e (cVar false 13)))) (c := (cBin fIxD (.e (cVar false 16)) (.e (cVar false 17)))) (F := FF) (ds := pl.map Nm) (E1 := [c0, some .src, e2, some (.d (wb n cs P)), some (.d (wb n' cs' P')), e5, e6, some (.d (Nm kk)), some (.d (Rw a)), some (.d (Rw b)), e10, e11, e12, some (.d (.list (pl.map Nm))), e14, none, some (.d (Rw row)), none]) (src := some x) (s := ⟨[c0, some .src, e2, some (.d (wb n cs P)), some (.d (wb n' cs' P')), e5, e6, some (.d (Nm kk)), some (.d (Rw a)), some (.d (Rw b)), e10, e11, e12, some (.d (.list (pl.map Nm))), e14, none, some (.d (Rw row)), none], some x⟩) rfl (by rw [List.length_map, sizeLine_eq]; omega) (fun d => Nm (row.getD (ofN d) 0)) (by
      intro d hd
      obtain ⟨i, hi, rfl⟩ := List.mem_map.mp hd
      rw [ofN_nm]
      exact ⟨⟨[c0, some .src, e2, some (.d (wb n cs P)), some (.d (wb n' cs' P')), e5, e6, some (.d (Nm kk)), some (.d (Rw a)), some (.d (Rw b)), e10, e11, e12, some (.d (.list (pl.map Nm))), e14, none, some (.d (Rw row)), some (.d (Nm i))], some x⟩, _, rfl, cbin (x := Rw row) (y := Nm i) (s1 := ⟨[c0, some .src, e2, some (.d (wb n cs P)), some (.d (wb n' cs' P')), e5, e6, some (.d (Nm kk)), some (.d (Rw a)), some (.d (Rw b)), e10, e11, e12, some (.d (.list (pl.map Nm))), e14, none, some (.d (Rw row)), some (.d (Nm i))], some x⟩) rfl rfl (row_at (hp i hi)), rfl⟩)
    have he : (pl.map Nm).map (fun d => Nm (row.getD (ofN d) 0)) = (sel pl row).map Nm := by
      unfold sel
      rw [List.map_map, List.map_map]
      refine List.map_congr_left fun i _ => ?_
      show Nm (row.getD (ofN (Nm i)) 0) = _
      rw [ofN_nm]
      rfl
    rw [he] at hn
    exact ⟨⟨[c0, some .src, e2, some (.d (wb n cs P)), some (.d (wb n' cs' P')), e5, e6, some (.d (Nm kk)), some (.d (Rw a)), some (.d (Rw b)), e10, e11, e12, some (.d (.list (pl.map Nm))), e14, none, some (.d (Rw row)), none], some x⟩, _, rfl, cnat1 hn rfl, rfl⟩)
  have he : [Rw a, Rw b].map (selD pl) = [Rw (sel pl a), Rw (sel pl b)] := by
    rw [List.map_cons, List.map_cons, List.map_nil, selD_row hpa, selD_row hpb]
  rw [he] at hm
  exact hm

theorem places_at {n n' : Nat} {cs cs' : List Nat} {P P' : Nat → Nat → Bool} (c0 e2 e5 e6 e7 e8 e9 e10 e11 e12 e13 e14 : Option Vx) {kk : Nat} {a b : List Nat} (hk : kk < 3) (x : Src) (hx : x.cells.length ≤ 63) : ∃ (pl : List Nat) (x' : Src), (cLc [15] (aName 15) (icRng1 (.e (cIf (bOf (cBin fGt (.e (cVar false 7)) (.e (cC (.int 0))))) (cCall "_law_pick" [(cVar false 1), (cC (.int 3))]) (cC (.int 0))))) bYes (cCall "_law_pick" [(cVar false 1), (cVar false 7)])) FF ⟨[c0, some .src, e2, some (.d (wb n cs P)), some (.d (wb n' cs' P')), e5, e6, some (.d (Nm kk)), some (.d (Rw a)), some (.d (Rw b)), e10, e11, e12, e13, e14, none, none, none], some x⟩ = some (.d (.list (pl.map Nm)), ⟨[c0, some .src, e2, some (.d (wb n cs P)), some (.d (wb n' cs' P')), e5, e6, some (.d (Nm kk)), some (.d (Rw a)), some (.d (Rw b)), e10, e11, e12, e13, e14, none, none, none], some x'⟩) ∧ pl.length ≤ 2 ∧ (∀ i ∈ pl, i < kk) ∧ x'.cells.length ≤ 63 := by
  by_cases h0 : kk = 0
  · subst h0
    obtain ⟨pl, x', g1, g2, g3, hx'⟩ := picks1 99 (i := 15) (m := 0) (M := 0) (ic := (icRng1 (.e (cIf (bOf (cBin fGt (.e (cVar false 7)) (.e (cC (.int 0))))) (cCall "_law_pick" [(cVar false 1), (cC (.int 3))]) (cC (.int 0)))))) (cm := (cVar false 7)) (s := ⟨[c0, some .src, e2, some (.d (wb n cs P)), some (.d (wb n' cs' P')), e5, e6, some (.d (Nm 0)), some (.d (Rw a)), some (.d (Rw b)), e10, e11, e12, e13, e14, none, none, none], some x⟩) (E1 := [c0, some .src, e2, some (.d (wb n cs P)), some (.d (wb n' cs' P')), e5, e6, some (.d (Nm 0)), some (.d (Rw a)), some (.d (Rw b)), e10, e11, e12, e13, e14, none, none, none]) (x := x) rfl (by omega) hx (by omega) (fun d y => rfl)
    have : pl = [] := List.length_eq_zero_iff.mp g2
    subst this
    exact ⟨[], x', g1, by simp, (fun i hi => nomatch hi), hx'⟩
  · obtain ⟨r, x1, e1, hx1, r0, r1⟩ := pick_ok 99 x hx 3 (by decide)
    obtain ⟨m, rfl⟩ : ∃ m : Nat, r = (m : Int) := ⟨r.toNat, by omega⟩
    have hp : (cCall "_law_pick" [(cVar false 1), (cC (.int 3))]) FF ⟨[c0, some .src, e2, some (.d (wb n cs P)), some (.d (wb n' cs' P')), e5, e6, some (.d (Nm kk)), some (.d (Rw a)), some (.d (Rw b)), e10, e11, e12, e13, e14, none, none, none], some x⟩ = some (.d (Nm m), ⟨[c0, some .src, e2, some (.d (wb n cs P)), some (.d (wb n' cs' P')), e5, e6, some (.d (Nm kk)), some (.d (Rw a)), some (.d (Rw b)), e10, e11, e12, e13, e14, none, none, none], some x1⟩) := ccall (s1 := ⟨[c0, some .src, e2, some (.d (wb n cs P)), some (.d (wb n' cs' P')), e5, e6, some (.d (Nm kk)), some (.d (Rw a)), some (.d (Rw b)), e10, e11, e12, e13, e14, none, none, none], some x⟩) (xs := [.src, .d (.int 3)]) rfl e1
    have ht : (bOf (cBin fGt (.e (cVar false 7)) (.e (cC (.int 0))))) FF ⟨[c0, some .src, e2, some (.d (wb n cs P)), some (.d (wb n' cs' P')), e5, e6, some (.d (Nm kk)), some (.d (Rw a)), some (.d (Rw b)), e10, e11, e12, e13, e14, none, none, none], some x⟩ = some (true, ⟨[c0, some .src, e2, some (.d (wb n cs P)), some (.d (wb n' cs' P')), e5, e6, some (.d (Nm kk)), some (.d (Rw a)), some (.d (Rw b)), e10, e11, e12, e13, e14, none, none, none], some x⟩) := by
      refine bof' (cbin (x := Nm kk) (y := .int 0) rfl rfl ?_)
      show some (PyData.bool (decide ((kk : Int) > 0))) = _
      rw [decide_eq_true (by omega)]
    have hc : (cIf (bOf (cBin fGt (.e (cVar false 7)) (.e (cC (.int 0))))) (cCall "_law_pick" [(cVar false 1), (cC (.int 3))]) (cC (.int 0))) FF ⟨[c0, some .src, e2, some (.d (wb n cs P)), some (.d (wb n' cs' P')), e5, e6, some (.d (Nm kk)), some (.d (Rw a)), some (.d (Rw b)), e10, e11, e12, e13, e14, none, none, none], some x⟩ = some (.d (Nm m), ⟨[c0, some .src, e2, some (.d (wb n cs P)), some (.d (wb n' cs' P')), e5, e6, some (.d (Nm kk)), some (.d (Rw a)), some (.d (Rw b)), e10, e11, e12, e13, e14, none, none, none], some x1⟩) := by
      unfold cIf
      rw [ht]
      exact hp
    obtain ⟨pl, x', g1, g2, g3, hx'⟩ := picks1 99 (i := 15) (m := m) (M := kk) (ic := (icRng1 (.e (cIf (bOf (cBin fGt (.e (cVar false 7)) (.e (cC (.int 0))))) (cCall "_law_pick" [(cVar false 1), (cC (.int 3))]) (cC (.int 0)))))) (cm := (cVar false 7)) (s := ⟨[c0, some .src, e2, some (.d (wb n cs P)), some (.d (wb n' cs' P')), e5, e6, some (.d (Nm kk)), some (.d (Rw a)), some (.d (Rw b)), e10, e11, e12, e13, e14, none, none, none], some x⟩) (E1 := [c0, some .src, e2, some (.d (wb n cs P)), some (.d (wb n' cs' P')), e5, e6, some (.d (Nm kk)), some (.d (Rw a)), some (.d (Rw b)), e10, e11, e12, e13, e14, none, none, none]) (x := x1) (ic_rng1 hc (by omega)) (by omega) hx1 (by omega) (fun d y => rfl)
    exact ⟨pl, x', g1, by omega, fun i hi => by have := g3 i hi; omega, hx'⟩

theorem least_at {n n' : Nat} {cs cs' : List Nat} {P P' : Nat → Nat → Bool} (c0 e2 e5 e6 e7 e8 e9 e10 e11 e12 e13 e14 : Option Vx) {kk r0 : Nat} {a b : List Nat} (x : Src) : ∃ r : Nat, r ≤ r0 ∧ (sIf (bAnd (bOf (cBin fGt (.e (cBin fIxD (.e (cVar false 3)) (.e (cC (.int 0))))) (.e (cC (.int 4))))) (bOf (cBin fGt (.e (cVar false 10)) (.e (cC (.int 2)))))) (sPar [10] [(cC (.int 2))]) sPass) FF ⟨[c0, some .src, e2, some (.d (wb n cs P)), some (.d (wb n' cs' P')), e5, e6, some (.d (Nm kk)), some (.d (Rw a)), some (.d (Rw b)), some (.d (Nm r0)), e11, e12, e13, e14, none, none, none], some x⟩ = some (.nx, ⟨[c0, some .src, e2, some (.d (wb n cs P)), some (.d (wb n' cs' P')), e5, e6, some (.d (Nm kk)), some (.d (Rw a)), some (.d (Rw b)), some (.d (Nm r)), e11, e12, e13, e14, none, none, none], some x⟩) := by
  have t1 : (bOf (cBin fGt (.e (cBin fIxD (.e (cVar false 3)) (.e (cC (.int 0))))) (.e (cC (.int 4))))) FF ⟨[c0, some .src, e2, some (.d (wb n cs P)), some (.d (wb n' cs' P')), e5, e6, some (.d (Nm kk)), some (.d (Rw a)), some (.d (Rw b)), some (.d (Nm r0)), e11, e12, e13, e14, none, none, none], some x⟩ = some (decide ((n : Int) > 4), ⟨[c0, some .src, e2, some (.d (wb n cs P)), some (.d (wb n' cs' P')), e5, e6, some (.d (Nm kk)), some (.d (Rw a)), some (.d (Rw b)), some (.d (Nm r0)), e11, e12, e13, e14, none, none, none], some x⟩) := bof' (cbin (x := Nm n) (y := .int 4) (cbin (x := wb n cs P) (y := .int 0) rfl rfl rfl) rfl rfl)
  have t2 : (bOf (cBin fGt (.e (cVar false 10)) (.e (cC (.int 2))))) FF ⟨[c0, some .src, e2, some (.d (wb n cs P)), some (.d (wb n' cs' P')), e5, e6, some (.d (Nm kk)), some (.d (Rw a)), some (.d (Rw b)), some (.d (Nm r0)), e11, e12, e13, e14, none, none, none], some x⟩ = some (decide ((r0 : Int) > 2), ⟨[c0, some .src, e2, some (.d (wb n cs P)), some (.d (wb n' cs' P')), e5, e6, some (.d (Nm kk)), some (.d (Rw a)), some (.d (Rw b)), some (.d (Nm r0)), e11, e12, e13, e14, none, none, none], some x⟩) := bof' (cbin (x := Nm r0) (y := .int 2) rfl rfl rfl)
  have t := band t1 fun _ => t2
  cases hq : (decide ((n : Int) > 4) && decide ((r0 : Int) > 2)) with
  | false =>
    rw [hq] at t
    exact ⟨r0, Nat.le_refl _, e_ifF t rfl⟩
  | true =>
    rw [hq] at t
    rw [Bool.and_eq_true, decide_eq_true_eq, decide_eq_true_eq] at hq
    exact ⟨2, by omega, e_ifT t rfl⟩

theorem look_ok {n n' : Nat} {cs cs' : List Nat} {P P' : Nat → Nat → Bool} (hw : Wb n cs) (hw' : Wb n' cs') (c0 e2 e5 e6 e7 e8 e9 e10 e11 e12 e13 e14 : Option Vx) (d : PyData) (x : Src) (hx : x.cells.length ≤ 63) : ∃ (f7 f8 f9 f10 f11 f12 f13 f14 : Option Vx) (x' : Src), (sSeq (sPar [7] [(cCall "_law_pick" [(cVar false 1), (cC (.int 3))])])
    (sSeq (sPar [8, 9, 10] [(cCall "_law_row" [(cVar false 1), (cVar false 3), (cVar false 7)]), (cCall "_law_row" [(cVar false 1), (cVar false 4), (cVar false 7)]), (cCall "_law_pick" [(cVar false 1), (cIf (bOf (cBin fGt (.e (cVar false 7)) (.e (cC (.int 1))))) (cC (.int 3)) (cBin fSub (.e (cC (.int 4))) (.e (cVar false 7))))])])
    (sSeq (sIf (bAnd (bOf (cBin fGt (.e (cBin fIxD (.e (cVar false 3)) (.e (cC (.int 0))))) (.e (cC (.int 4))))) (bOf (cBin fGt (.e (cVar false 10)) (.e (cC (.int 2)))))) (sPar [10] [(cC (.int 2))]) sPass)
    (sSeq (sIf (bOf (cBin fNe (.e (cNat fRepr [(.e (cDisp false [(cCall "row_eye" [(cVar false 3), (cVar false 8)]), (cCall "row_eye" [(cVar false 4), (cVar false 9)])]))])) (.e (cNat fRepr [(.e (cDisp false [(cCall "_law_eye" [(cVar false 3), (cVar false 8)]), (cCall "_law_eye" [(cVar false 4), (cVar false 9)])]))])))) (sRet (cC (.bool false))) sPass)
    (sSeq (sPar [11] [(cCall "rank_type" [(cVar false 3), (cVar false 8), (cVar false 10)])])
    (sSeq (sIf (bOf (cBin fNe (.e (cNat fRepr [(.e (cDisp false [(cVar false 11), (cCall "rank_type" [(cVar false 4), (cVar false 9), (cVar false 10)])]))])) (.e (cNat fRepr [(.e (cDisp false [(cCall "_law_type" [(cVar false 3), (cVar false 8), (cVar false 10)]), (cCall "_law_type" [(cVar false 4), (cVar false 9), (cVar false 10)])]))])))) (sRet (cC (.bool false))) sPass)
    (sSeq (sIf (bAnd (bOf (cBin fGt (.e (cVar false 10)) (.e (cC (.int 0))))) (bOf (cBin fNe (.e (cNat fRepr [(.e (cCall "lowered_type" [(cVar false 11)]))])) (.e (cNat fRepr [(.e (cCall "_law_type" [(cVar false 3), (cVar false 8), (cBin fSub (.e (cVar false 10)) (.e (cC (.int 1))))]))]))))) (sRet (cC (.bool false))) sPass)
    (sSeq (sPar [12] [(cCall "_law_is_kept" [(cVar false 3), (cVar false 8), (cVar false 4), (cVar false 9), (cVar false 10)])])
    (sSeq (sIf (bOf (cBin fNe (.e (cNat fRepr [(.e (cCall "are_kept" [(cVar false 3), (cVar false 8), (cVar false 4), (cVar false 9), (cVar false 10)]))])) (.e (cNat fRepr [(.e (cVar false 12))])))) (sRet (cC (.bool false))) sPass)
    (sSeq (sIf (bOr (bOf (cBin fNe (.e (cBin fEq (.e (cNat fRepr [(.e (cVar false 11))])) (.e (cNat fRepr [(.e (cCall "rank_type" [(cVar false 4), (cVar false 9), (cVar false 10)]))])))) (.e (cVar false 12)))) (bOf (cBin fNe (.e (cCall "are_kept" [(cVar false 4), (cVar false 9), (cVar false 3), (cVar false 8), (cVar false 10)])) (.e (cVar false 12))))) (sRet (cC (.bool false))) sPass)
    (sSeq (sPar [13] [(cLc [15] (aName 15) (icRng1 (.e (cIf (bOf (cBin fGt (.e (cVar false 7)) (.e (cC (.int 0))))) (cCall "_law_pick" [(cVar false 1), (cC (.int 3))]) (cC (.int 0))))) bYes (cCall "_law_pick" [(cVar false 1), (cVar false 7)]))])
    (sSeq (sPar [14] [(cLc [16] (aName 16) (icAny (.e (cDisp true [(cVar false 8), (cVar false 9)]))) bYes (cNat fTuple [(.e (cLc [17] (aName 17) (icAny (.e (cVar false 13))) bYes (cBin fIxD (.e (cVar false 16)) (.e (cVar false 17)))))]))])
    (sSeq (sIf (bAnd (bTru (.e (cVar false 12))) (bNot (bTru (.e (cCall "are_kept" [(cVar false 3), (cBin fIxD (.e (cVar false 14)) (.e (cC (.int 0)))), (cVar false 4), (cBin fIxD (.e (cVar false 14)) (.e (cC (.int 1)))), (cVar false 10)]))))) (sRet (cC (.bool false))) sPass)
    (sIf (bAnd (bTru (.e (cVar false 12))) (bAnd (bOf (cBin fGt (.e (cVar false 10)) (.e (cC (.int 0))))) (bNot (bTru (.e (cCall "are_kept" [(cVar false 3), (cVar false 8), (cVar false 4), (cVar false 9), (cBin fSub (.e (cVar false 10)) (.e (cC (.int 1))))])))))) (sRet (cC (.bool false))) sPass)))))))))))))) FF ⟨[c0, some .src, e2, some (.d (wb n cs P)), some (.d (wb n' cs' P')), e5, some (.d d), e7, e8, e9, e10, e11, e12, e13, e14, none, none, none], some x⟩ = some (.nx, ⟨[c0, some .src, e2, some (.d (wb n cs P)), some (.d (wb n' cs' P')), e5, some (.d d), f7, f8, f9, f10, f11, f12, f13, f14, none, none, none], some x'⟩) ∧ x'.cells.length ≤ 63 := by
  obtain ⟨kr, x1, e1, hx1, k0, k1⟩ := pick_ok 99 x hx 3 (by decide)
  obtain ⟨kk, rfl⟩ : ∃ m : Nat, kr = (m : Int) := ⟨kr.toNat, by omega⟩
  have hk : kk < 3 := by omega
  obtain ⟨a, x2, e2', hal, ham, hx2⟩ := law_row_ok 98 (P := P) hw (many := kk) (by omega) x1 hx1
  obtain ⟨b, x3, e3', hbl, hbm, hx3⟩ := law_row_ok 98 (P := P') hw' (many := kk) (by omega) x2 hx2
  obtain ⟨M, hM, hMk⟩ : ∃ M : Nat, M = (if kk > 1 then 3 else 4 - kk) ∧ M ≤ 4 := ⟨_, rfl, by split <;> omega⟩
  obtain ⟨r', x4, e4', hx4, r0', r1'⟩ := pick_ok 99 x3 hx3 (M : Int) (by omega)
  obtain ⟨r0, rfl⟩ : ∃ m : Nat, r' = (m : Int) := ⟨r'.toNat, by omega⟩
  have p7 : (cCall "_law_pick" [(cVar false 1), (cC (.int 3))]) FF ⟨[c0, some .src, e2, some (.d (wb n cs P)), some (.d (wb n' cs' P')), e5, some (.d d), e7, e8, e9, e10, e11, e12, e13, e14, none, none, none], some x⟩ = some (.d (Nm kk), ⟨[c0, some .src, e2, some (.d (wb n cs P)), some (.d (wb n' cs' P')), e5, some (.d d), e7, e8, e9, e10, e11, e12, e13, e14, none, none, none], some x1⟩) := ccall (s1 := ⟨[c0, some .src, e2, some (.d (wb n cs P)), some (.d (wb n' cs' P')), e5, some (.d d), e7, e8, e9, e10, e11, e12, e13, e14, none, none, none], some x⟩) (xs := [.src, .d (.int 3)]) rfl e1
  have p8 : (cCall "_law_row" [(cVar false 1), (cVar false 3), (cVar false 7)]) FF ⟨[c0, some .src, e2, some (.d (wb n cs P)), some (.d (wb n' cs' P')), e5, some (.d d), some (.d (Nm kk)), e8, e9, e10, e11, e12, e13, e14, none, none, none], some x1⟩ = some (.d (Rw a), ⟨[c0, some .src, e2, some (.d (wb n cs P)), some (.d (wb n' cs' P')), e5, some (.d d), some (.d (Nm kk)), e8, e9, e10, e11, e12, e13, e14, none, none, none], some x2⟩) := ccall (s1 := ⟨[c0, some .src, e2, some (.d (wb n cs P)), some (.d (wb n' cs' P')), e5, some (.d d), some (.d (Nm kk)), e8, e9, e10, e11, e12, e13, e14, none, none, none], some x1⟩) (xs := [.src, .d (wb n cs P), .d (Nm kk)]) rfl e2'
  have p9 : (cCall "_law_row" [(cVar false 1), (cVar false 4), (cVar false 7)]) FF ⟨[c0, some .src, e2, some (.d (wb n cs P)), some (.d (wb n' cs' P')), e5, some (.d d), some (.d (Nm kk)), e8, e9, e10, e11, e12, e13, e14, none, none, none], some x2⟩ = some (.d (Rw b), ⟨[c0, some .src, e2, some (.d (wb n cs P)), some (.d (wb n' cs' P')), e5, some (.d d), some (.d (Nm kk)), e8, e9, e10, e11, e12, e13, e14, none, none, none], some x3⟩) := ccall (s1 := ⟨[c0, some .src, e2, some (.d (wb n cs P)), some (.d (wb n' cs' P')), e5, some (.d d), some (.d (Nm kk)), e8, e9, e10, e11, e12, e13, e14, none, none, none], some x2⟩) (xs := [.src, .d (wb n' cs' P'), .d (Nm kk)]) rfl e3'
  have hcif : (cIf (bOf (cBin fGt (.e (cVar false 7)) (.e (cC (.int 1))))) (cC (.int 3)) (cBin fSub (.e (cC (.int 4))) (.e (cVar false 7)))) FF ⟨[c0, some .src, e2, some (.d (wb n cs P)), some (.d (wb n' cs' P')), e5, some (.d d), some (.d (Nm kk)), e8, e9, e10, e11, e12, e13, e14, none, none, none], some x3⟩ = some (.d (Nm M), ⟨[c0, some .src, e2, some (.d (wb n cs P)), some (.d (wb n' cs' P')), e5, some (.d d), some (.d (Nm kk)), e8, e9, e10, e11, e12, e13, e14, none, none, none], some x3⟩) := by
    rw [hM]
    rcases (by omega : kk = 0 ∨ kk = 1 ∨ kk = 2) with rfl | rfl | rfl <;> rfl
  have p10 : (cCall "_law_pick" [(cVar false 1), (cIf (bOf (cBin fGt (.e (cVar false 7)) (.e (cC (.int 1))))) (cC (.int 3)) (cBin fSub (.e (cC (.int 4))) (.e (cVar false 7))))]) FF ⟨[c0, some .src, e2, some (.d (wb n cs P)), some (.d (wb n' cs' P')), e5, some (.d d), some (.d (Nm kk)), e8, e9, e10, e11, e12, e13, e14, none, none, none], some x3⟩ = some (.d (Nm r0), ⟨[c0, some .src, e2, some (.d (wb n cs P)), some (.d (wb n' cs' P')), e5, some (.d d), some (.d (Nm kk)), e8, e9, e10, e11, e12, e13, e14, none, none, none], some x4⟩) := ccall (s1 := ⟨[c0, some .src, e2, some (.d (wb n cs P)), some (.d (wb n' cs' P')), e5, some (.d d), some (.d (Nm kk)), e8, e9, e10, e11, e12, e13, e14, none, none, none], some x3⟩) (xs := [.src, .d (Nm M)]) (eargs (x := .src) rfl (eargs (cs := []) hcif rfl)) e4'
  have q3 : sPar [8, 9, 10] [(cCall "_law_row" [(cVar false 1), (cVar false 3), (cVar false 7)]), (cCall "_law_row" [(cVar false 1), (cVar false 4), (cVar false 7)]), (cCall "_law_pick" [(cVar false 1), (cIf (bOf (cBin fGt (.e (cVar false 7)) (.e (cC (.int 1))))) (cC (.int 3)) (cBin fSub (.e (cC (.int 4))) (.e (cVar false 7))))])] FF ⟨[c0, some .src, e2, some (.d (wb n cs P)), some (.d (wb n' cs' P')), e5, some (.d d), some (.d (Nm kk)), e8, e9, e10, e11, e12, e13, e14, none, none, none], some x1⟩ = some (.nx, ⟨[c0, some .src, e2, some (.d (wb n cs P)), some (.d (wb n' cs' P')), e5, some (.d d), some (.d (Nm kk)), some (.d (Rw a)), some (.d (Rw b)), some (.d (Nm r0)), e11, e12, e13, e14, none, none, none], some x4⟩) := by
    exact spar3 p8 p9 p10
  obtain ⟨r, hr, hleast⟩ := least_at (P := P) (P' := P') (n := n) (n' := n') (cs := cs) (cs' := cs') c0 e2 e5 (some (.d d)) e7 e8 e9 e10 e11 e12 e13 e14 (kk := kk) (r0 := r0) (a := a) (b := b) x4
  have hkr : kk + r ≤ 4 ∧ r ≤ 3 := by
    split at hM <;> omega
  have ha : Rw' n a (5 - r) := ⟨ham, by omega⟩
  have hb : Rw' n' b (5 - r) := ⟨hbm, by omega⟩
  have hl : a.length = b.length := by omega
  have h3 : r ≤ 3 := hkr.2
  have l1 : Lk ⟨[c0, some .src, e2, some (.d (wb n cs P)), some (.d (wb n' cs' P')), e5, some (.d d), some (.d (Nm kk)), some (.d (Rw a)), some (.d (Rw b)), some (.d (Nm r)), e11, e12, e13, e14, none, none, none], some x4⟩ n cs P n' cs' P' a b r := ⟨rfl, rfl, rfl, rfl, rfl, hw, hw', ha, hb, hl, h3⟩
  have l2 : Lk ⟨[c0, some .src, e2, some (.d (wb n cs P)), some (.d (wb n' cs' P')), e5, some (.d d), some (.d (Nm kk)), some (.d (Rw a)), some (.d (Rw b)), some (.d (Nm r)), some (.d (rk n cs P r a)), e12, e13, e14, none, none, none], some x4⟩ n cs P n' cs' P' a b r := ⟨rfl, rfl, rfl, rfl, rfl, hw, hw', ha, hb, hl, h3⟩
  have l3 : Lk ⟨[c0, some .src, e2, some (.d (wb n cs P)), some (.d (wb n' cs' P')), e5, some (.d d), some (.d (Nm kk)), some (.d (Rw a)), some (.d (Rw b)), some (.d (Nm r)), some (.d (rk n cs P r a)), some (.d (.bool (due n cs P n' cs' P' r a b))), e13, e14, none, none, none], some x4⟩ n cs P n' cs' P' a b r := ⟨rfl, rfl, rfl, rfl, rfl, hw, hw', ha, hb, hl, h3⟩
  obtain ⟨pl, x5, g1, g2, g3, hx5⟩ := places_at (P := P) (P' := P') (n := n) (n' := n') (cs := cs) (cs' := cs') c0 e2 e5 (some (.d d)) e7 e8 e9 (some (.d (Nm r))) (some (.d (rk n cs P r a))) (some (.d (.bool (due n cs P n' cs' P' r a b)))) e13 e14 (kk := kk) (a := a) (b := b) hk x4 hx4
  have hpa : ∀ i ∈ pl, i < a.length := fun i hi => by have := g3 i hi; omega
  have hpb : ∀ i ∈ pl, i < b.length := fun i hi => by have := g3 i hi; omega
  have g5 := late_at (P := P) (P' := P') (n := n) (n' := n') (cs := cs) (cs' := cs') c0 e2 e5 (some (.d d)) e7 e8 e9 (some (.d (Nm r))) (some (.d (rk n cs P r a))) (some (.d (.bool (due n cs P n' cs' P' r a b)))) e13 e14 (kk := kk) (a := a) (b := b) (pl := pl) (by omega) hpa hpb x5
  have l5 : Lk ⟨[c0, some .src, e2, some (.d (wb n cs P)), some (.d (wb n' cs' P')), e5, some (.d d), some (.d (Nm kk)), some (.d (Rw a)), some (.d (Rw b)), some (.d (Nm r)), some (.d (rk n cs P r a)), some (.d (.bool (due n cs P n' cs' P' r a b))), some (.d (.list (pl.map Nm))), some (.d (.list [Rw (sel pl a), Rw (sel pl b)])), none, none, none], some x5⟩ n cs P n' cs' P' a b r := ⟨rfl, rfl, rfl, rfl, rfl, hw, hw', ha, hb, hl, h3⟩
  refine ⟨some (.d (Nm kk)), some (.d (Rw a)), some (.d (Rw b)), some (.d (Nm r)), some (.d (rk n cs P r a)), some (.d (.bool (due n cs P n' cs' P' r a b))), some (.d (.list (pl.map Nm))), some (.d (.list [Rw (sel pl a), Rw (sel pl b)])), x5, ?_, hx5⟩
  refine e_seq (spar1 p7) (e_seq q3 (e_seq hleast (e_seq (e_ifF (cond_eye l1) rfl) (e_seq (spar1 (told_at l1)) (e_seq (e_ifF (cond_types l2 rfl) rfl) (e_seq (e_ifF (cond_low l2 rfl) rfl) (e_seq (spar1 (due_at l2)) (e_seq (e_ifF (cond_kept l3 rfl) rfl) (e_seq (e_ifF (cond_eq l3 rfl rfl) rfl) (e_seq (spar1 g1) (e_seq (spar1 g5) (e_seq (e_ifF (late_ok l5 rfl rfl hpa (by omega)) rfl) (e_ifF (cond_less l5 rfl) rfl)))))))))))))

theorem lap_ok (c0 e3 e4 e5 e6 e7 e8 e9 e10 e11 e12 e13 e14 : Option Vx) {most : Nat} (hm1 : 1 ≤ most) (hm : most ≤ 5) (d : PyData) (hd : fIxD (.list [.int 3, .int 4, .int 5]) d = some (Nm most)) (x : Src) (hx : x.cells.length ≤ 63) : ∃ (f3 f4 f5 f6 f7 f8 f9 f10 f11 f12 f13 f14 : Option Vx) (x' : Src), (sSeq (sPar [3] [(cCall "_law_web" [(cVar false 1), (cBin fIxD (.e (cDisp false [(cC (.int 3)), (cC (.int 4)), (cC (.int 5))])) (.e (cVar false 2)))])])
    (sSeq (sPar [4] [(cCall "_law_other" [(cVar false 1), (cVar false 3), (cBin fIxD (.e (cDisp false [(cC (.int 3)), (cC (.int 4)), (cC (.int 5))])) (.e (cVar false 2)))])])
    (sSeq (sPar [5] [(cNat fRepr [(.e (cDisp false [(cVar false 3), (cVar false 4)]))])])
    (sSeq (sFor (aName 6) (icRng1 (.e (cC (.int 3)))) (sSeq (sPar [7] [(cCall "_law_pick" [(cVar false 1), (cC (.int 3))])])
    (sSeq (sPar [8, 9, 10] [(cCall "_law_row" [(cVar false 1), (cVar false 3), (cVar false 7)]), (cCall "_law_row" [(cVar false 1), (cVar false 4), (cVar false 7)]), (cCall "_law_pick" [(cVar false 1), (cIf (bOf (cBin fGt (.e (cVar false 7)) (.e (cC (.int 1))))) (cC (.int 3)) (cBin fSub (.e (cC (.int 4))) (.e (cVar false 7))))])])
    (sSeq (sIf (bAnd (bOf (cBin fGt (.e (cBin fIxD (.e (cVar false 3)) (.e (cC (.int 0))))) (.e (cC (.int 4))))) (bOf (cBin fGt (.e (cVar false 10)) (.e (cC (.int 2)))))) (sPar [10] [(cC (.int 2))]) sPass)
    (sSeq (sIf (bOf (cBin fNe (.e (cNat fRepr [(.e (cDisp false [(cCall "row_eye" [(cVar false 3), (cVar false 8)]), (cCall "row_eye" [(cVar false 4), (cVar false 9)])]))])) (.e (cNat fRepr [(.e (cDisp false [(cCall "_law_eye" [(cVar false 3), (cVar false 8)]), (cCall "_law_eye" [(cVar false 4), (cVar false 9)])]))])))) (sRet (cC (.bool false))) sPass)
    (sSeq (sPar [11] [(cCall "rank_type" [(cVar false 3), (cVar false 8), (cVar false 10)])])
    (sSeq (sIf (bOf (cBin fNe (.e (cNat fRepr [(.e (cDisp false [(cVar false 11), (cCall "rank_type" [(cVar false 4), (cVar false 9), (cVar false 10)])]))])) (.e (cNat fRepr [(.e (cDisp false [(cCall "_law_type" [(cVar false 3), (cVar false 8), (cVar false 10)]), (cCall "_law_type" [(cVar false 4), (cVar false 9), (cVar false 10)])]))])))) (sRet (cC (.bool false))) sPass)
    (sSeq (sIf (bAnd (bOf (cBin fGt (.e (cVar false 10)) (.e (cC (.int 0))))) (bOf (cBin fNe (.e (cNat fRepr [(.e (cCall "lowered_type" [(cVar false 11)]))])) (.e (cNat fRepr [(.e (cCall "_law_type" [(cVar false 3), (cVar false 8), (cBin fSub (.e (cVar false 10)) (.e (cC (.int 1))))]))]))))) (sRet (cC (.bool false))) sPass)
    (sSeq (sPar [12] [(cCall "_law_is_kept" [(cVar false 3), (cVar false 8), (cVar false 4), (cVar false 9), (cVar false 10)])])
    (sSeq (sIf (bOf (cBin fNe (.e (cNat fRepr [(.e (cCall "are_kept" [(cVar false 3), (cVar false 8), (cVar false 4), (cVar false 9), (cVar false 10)]))])) (.e (cNat fRepr [(.e (cVar false 12))])))) (sRet (cC (.bool false))) sPass)
    (sSeq (sIf (bOr (bOf (cBin fNe (.e (cBin fEq (.e (cNat fRepr [(.e (cVar false 11))])) (.e (cNat fRepr [(.e (cCall "rank_type" [(cVar false 4), (cVar false 9), (cVar false 10)]))])))) (.e (cVar false 12)))) (bOf (cBin fNe (.e (cCall "are_kept" [(cVar false 4), (cVar false 9), (cVar false 3), (cVar false 8), (cVar false 10)])) (.e (cVar false 12))))) (sRet (cC (.bool false))) sPass)
    (sSeq (sPar [13] [(cLc [15] (aName 15) (icRng1 (.e (cIf (bOf (cBin fGt (.e (cVar false 7)) (.e (cC (.int 0))))) (cCall "_law_pick" [(cVar false 1), (cC (.int 3))]) (cC (.int 0))))) bYes (cCall "_law_pick" [(cVar false 1), (cVar false 7)]))])
    (sSeq (sPar [14] [(cLc [16] (aName 16) (icAny (.e (cDisp true [(cVar false 8), (cVar false 9)]))) bYes (cNat fTuple [(.e (cLc [17] (aName 17) (icAny (.e (cVar false 13))) bYes (cBin fIxD (.e (cVar false 16)) (.e (cVar false 17)))))]))])
    (sSeq (sIf (bAnd (bTru (.e (cVar false 12))) (bNot (bTru (.e (cCall "are_kept" [(cVar false 3), (cBin fIxD (.e (cVar false 14)) (.e (cC (.int 0)))), (cVar false 4), (cBin fIxD (.e (cVar false 14)) (.e (cC (.int 1)))), (cVar false 10)]))))) (sRet (cC (.bool false))) sPass)
    (sIf (bAnd (bTru (.e (cVar false 12))) (bAnd (bOf (cBin fGt (.e (cVar false 10)) (.e (cC (.int 0))))) (bNot (bTru (.e (cCall "are_kept" [(cVar false 3), (cVar false 8), (cVar false 4), (cVar false 9), (cBin fSub (.e (cVar false 10)) (.e (cC (.int 1))))])))))) (sRet (cC (.bool false))) sPass)))))))))))))))
    (sIf (bOf (cBin fNe (.e (cNat fRepr [(.e (cDisp false [(cVar false 3), (cVar false 4)]))])) (.e (cVar false 5)))) (sRet (cC (.bool false))) sPass))))) FF ⟨[c0, some .src, some (.d d), e3, e4, e5, e6, e7, e8, e9, e10, e11, e12, e13, e14, none, none, none], some x⟩ = some (.nx, ⟨[c0, some .src, some (.d d), f3, f4, f5, f6, f7, f8, f9, f10, f11, f12, f13, f14, none, none, none], some x'⟩) ∧ x'.cells.length ≤ 63 := by
  obtain ⟨n, cs, P, x1, e1, hw, _, hx1⟩ := law_web_ok 97 hm1 hm x hx
  obtain ⟨n', cs', P', x2, e2, hw', hx2⟩ := law_other_ok 96 (P := P) hw hm1 hm x1 hx1
  have m1 : (cBin fIxD (.e (cDisp false [(cC (.int 3)), (cC (.int 4)), (cC (.int 5))])) (.e (cVar false 2))) FF ⟨[c0, some .src, some (.d d), e3, e4, e5, e6, e7, e8, e9, e10, e11, e12, e13, e14, none, none, none], some x⟩ = some (.d (Nm most), ⟨[c0, some .src, some (.d d), e3, e4, e5, e6, e7, e8, e9, e10, e11, e12, e13, e14, none, none, none], some x⟩) := cbin (x := .list [.int 3, .int 4, .int 5]) (y := d) (cdisp (b := false) (xs := [.d (.int 3), .d (.int 4), .d (.int 5)]) rfl rfl (by rw [sizeLine_eq]; simp)) rfl hd
  have m2 : (cBin fIxD (.e (cDisp false [(cC (.int 3)), (cC (.int 4)), (cC (.int 5))])) (.e (cVar false 2))) FF ⟨[c0, some .src, some (.d d), some (.d (wb n cs P)), e4, e5, e6, e7, e8, e9, e10, e11, e12, e13, e14, none, none, none], some x1⟩ = some (.d (Nm most), ⟨[c0, some .src, some (.d d), some (.d (wb n cs P)), e4, e5, e6, e7, e8, e9, e10, e11, e12, e13, e14, none, none, none], some x1⟩) := cbin (x := .list [.int 3, .int 4, .int 5]) (y := d) (cdisp (b := false) (xs := [.d (.int 3), .d (.int 4), .d (.int 5)]) rfl rfl (by rw [sizeLine_eq]; simp)) rfl hd
  have p1 : (cCall "_law_web" [(cVar false 1), (cBin fIxD (.e (cDisp false [(cC (.int 3)), (cC (.int 4)), (cC (.int 5))])) (.e (cVar false 2)))]) FF ⟨[c0, some .src, some (.d d), e3, e4, e5, e6, e7, e8, e9, e10, e11, e12, e13, e14, none, none, none], some x⟩ = some (.d (wb n cs P), ⟨[c0, some .src, some (.d d), e3, e4, e5, e6, e7, e8, e9, e10, e11, e12, e13, e14, none, none, none], some x1⟩) := ccall (s1 := ⟨[c0, some .src, some (.d d), e3, e4, e5, e6, e7, e8, e9, e10, e11, e12, e13, e14, none, none, none], some x⟩) (xs := [.src, .d (Nm most)]) (eargs (x := .src) rfl (eargs (cs := []) m1 rfl)) e1
  have p2 : (cCall "_law_other" [(cVar false 1), (cVar false 3), (cBin fIxD (.e (cDisp false [(cC (.int 3)), (cC (.int 4)), (cC (.int 5))])) (.e (cVar false 2)))]) FF ⟨[c0, some .src, some (.d d), some (.d (wb n cs P)), e4, e5, e6, e7, e8, e9, e10, e11, e12, e13, e14, none, none, none], some x1⟩ = some (.d (wb n' cs' P'), ⟨[c0, some .src, some (.d d), some (.d (wb n cs P)), e4, e5, e6, e7, e8, e9, e10, e11, e12, e13, e14, none, none, none], some x2⟩) := ccall (s1 := ⟨[c0, some .src, some (.d d), some (.d (wb n cs P)), e4, e5, e6, e7, e8, e9, e10, e11, e12, e13, e14, none, none, none], some x1⟩) (xs := [.src, .d (wb n cs P), .d (Nm most)]) (eargs (x := .src) rfl (eargs (x := .d (wb n cs P)) rfl (eargs (cs := []) m2 rfl))) e2
  obtain ⟨r1, r2⟩ := repr2 (wb_sm (P := P) hw) (wb_sm (P := P') hw') (by decide)
  obtain ⟨t, ht⟩ : ∃ t, t = (PyData.list [wb n cs P, wb n' cs' P']).shown := ⟨_, rfl⟩
  rw [← ht] at r1 r2
  have p3 : (cNat fRepr [(.e (cDisp false [(cVar false 3), (cVar false 4)]))]) FF ⟨[c0, some .src, some (.d d), some (.d (wb n cs P)), some (.d (wb n' cs' P')), e5, e6, e7, e8, e9, e10, e11, e12, e13, e14, none, none, none], some x2⟩ = some (.d (.str t), ⟨[c0, some .src, some (.d d), some (.d (wb n cs P)), some (.d (wb n' cs' P')), e5, e6, e7, e8, e9, e10, e11, e12, e13, e14, none, none, none], some x2⟩) := cnat1 (disp2 (x := wb n cs P) (y := wb n' cs' P') rfl rfl) r1
  obtain ⟨s', hfor, f6, f7, f8, f9, f10, f11, f12, f13, f14, x3, rfl, hx3⟩ := sfor_ind (as := aName 6) (ic := (icRng1 (.e (cC (.int 3))))) (F := FF) (b := (sSeq (sPar [7] [(cCall "_law_pick" [(cVar false 1), (cC (.int 3))])])
    (sSeq (sPar [8, 9, 10] [(cCall "_law_row" [(cVar false 1), (cVar false 3), (cVar false 7)]), (cCall "_law_row" [(cVar false 1), (cVar false 4), (cVar false 7)]), (cCall "_law_pick" [(cVar false 1), (cIf (bOf (cBin fGt (.e (cVar false 7)) (.e (cC (.int 1))))) (cC (.int 3)) (cBin fSub (.e (cC (.int 4))) (.e (cVar false 7))))])])
    (sSeq (sIf (bAnd (bOf (cBin fGt (.e (cBin fIxD (.e (cVar false 3)) (.e (cC (.int 0))))) (.e (cC (.int 4))))) (bOf (cBin fGt (.e (cVar false 10)) (.e (cC (.int 2)))))) (sPar [10] [(cC (.int 2))]) sPass)
    (sSeq (sIf (bOf (cBin fNe (.e (cNat fRepr [(.e (cDisp false [(cCall "row_eye" [(cVar false 3), (cVar false 8)]), (cCall "row_eye" [(cVar false 4), (cVar false 9)])]))])) (.e (cNat fRepr [(.e (cDisp false [(cCall "_law_eye" [(cVar false 3), (cVar false 8)]), (cCall "_law_eye" [(cVar false 4), (cVar false 9)])]))])))) (sRet (cC (.bool false))) sPass)
    (sSeq (sPar [11] [(cCall "rank_type" [(cVar false 3), (cVar false 8), (cVar false 10)])])
    (sSeq (sIf (bOf (cBin fNe (.e (cNat fRepr [(.e (cDisp false [(cVar false 11), (cCall "rank_type" [(cVar false 4), (cVar false 9), (cVar false 10)])]))])) (.e (cNat fRepr [(.e (cDisp false [(cCall "_law_type" [(cVar false 3), (cVar false 8), (cVar false 10)]), (cCall "_law_type" [(cVar false 4), (cVar false 9), (cVar false 10)])]))])))) (sRet (cC (.bool false))) sPass)
    (sSeq (sIf (bAnd (bOf (cBin fGt (.e (cVar false 10)) (.e (cC (.int 0))))) (bOf (cBin fNe (.e (cNat fRepr [(.e (cCall "lowered_type" [(cVar false 11)]))])) (.e (cNat fRepr [(.e (cCall "_law_type" [(cVar false 3), (cVar false 8), (cBin fSub (.e (cVar false 10)) (.e (cC (.int 1))))]))]))))) (sRet (cC (.bool false))) sPass)
    (sSeq (sPar [12] [(cCall "_law_is_kept" [(cVar false 3), (cVar false 8), (cVar false 4), (cVar false 9), (cVar false 10)])])
    (sSeq (sIf (bOf (cBin fNe (.e (cNat fRepr [(.e (cCall "are_kept" [(cVar false 3), (cVar false 8), (cVar false 4), (cVar false 9), (cVar false 10)]))])) (.e (cNat fRepr [(.e (cVar false 12))])))) (sRet (cC (.bool false))) sPass)
    (sSeq (sIf (bOr (bOf (cBin fNe (.e (cBin fEq (.e (cNat fRepr [(.e (cVar false 11))])) (.e (cNat fRepr [(.e (cCall "rank_type" [(cVar false 4), (cVar false 9), (cVar false 10)]))])))) (.e (cVar false 12)))) (bOf (cBin fNe (.e (cCall "are_kept" [(cVar false 4), (cVar false 9), (cVar false 3), (cVar false 8), (cVar false 10)])) (.e (cVar false 12))))) (sRet (cC (.bool false))) sPass)
    (sSeq (sPar [13] [(cLc [15] (aName 15) (icRng1 (.e (cIf (bOf (cBin fGt (.e (cVar false 7)) (.e (cC (.int 0))))) (cCall "_law_pick" [(cVar false 1), (cC (.int 3))]) (cC (.int 0))))) bYes (cCall "_law_pick" [(cVar false 1), (cVar false 7)]))])
    (sSeq (sPar [14] [(cLc [16] (aName 16) (icAny (.e (cDisp true [(cVar false 8), (cVar false 9)]))) bYes (cNat fTuple [(.e (cLc [17] (aName 17) (icAny (.e (cVar false 13))) bYes (cBin fIxD (.e (cVar false 16)) (.e (cVar false 17)))))]))])
    (sSeq (sIf (bAnd (bTru (.e (cVar false 12))) (bNot (bTru (.e (cCall "are_kept" [(cVar false 3), (cBin fIxD (.e (cVar false 14)) (.e (cC (.int 0)))), (cVar false 4), (cBin fIxD (.e (cVar false 14)) (.e (cC (.int 1)))), (cVar false 10)]))))) (sRet (cC (.bool false))) sPass)
    (sIf (bAnd (bTru (.e (cVar false 12))) (bAnd (bOf (cBin fGt (.e (cVar false 10)) (.e (cC (.int 0))))) (bNot (bTru (.e (cCall "are_kept" [(cVar false 3), (cVar false 8), (cVar false 4), (cVar false 9), (cBin fSub (.e (cVar false 10)) (.e (cC (.int 1))))])))))) (sRet (cC (.bool false))) sPass))))))))))))))) (s := ⟨[c0, some .src, some (.d d), some (.d (wb n cs P)), some (.d (wb n' cs' P')), some (.d (.str t)), e6, e7, e8, e9, e10, e11, e12, e13, e14, none, none, none], some x2⟩) (ds := Ev.intsFrom 0 3) (s0 := ⟨[c0, some .src, some (.d d), some (.d (wb n cs P)), some (.d (wb n' cs' P')), some (.d (.str t)), e6, e7, e8, e9, e10, e11, e12, e13, e14, none, none, none], some x2⟩) rfl
    (fun _ s => ∃ (f6 f7 f8 f9 f10 f11 f12 f13 f14 : Option Vx) (x3 : Src), s = ⟨[c0, some .src, some (.d d), some (.d (wb n cs P)), some (.d (wb n' cs' P')), some (.d (.str t)), f6, f7, f8, f9, f10, f11, f12, f13, f14, none, none, none], some x3⟩ ∧ x3.cells.length ≤ 63) ⟨_, _, _, _, _, _, _, _, _, x2, rfl, hx2⟩ (by
      rintro j d' s hj ⟨f6, f7, f8, f9, f10, f11, f12, f13, f14, x3, rfl, hx3⟩
      obtain ⟨g7, g8, g9, g10, g11, g12, g13, g14, x4, g, hx4⟩ := look_ok (P := P) (P' := P') hw hw' c0 (some (.d d)) (some (.d (.str t))) (some (.d d')) f7 f8 f9 f10 f11 f12 f13 f14 d' x3 hx3
      exact ⟨_, _, rfl, g, _, _, _, _, _, _, _, _, _, x4, rfl, hx4⟩)
  have p4 := bof' (cbin (cnat1 (F := FF) (s := ⟨[c0, some .src, some (.d d), some (.d (wb n cs P)), some (.d (wb n' cs' P')), some (.d (.str t)), f6, f7, f8, f9, f10, f11, f12, f13, f14, none, none, none], some x3⟩) (disp2 (c := cVar false 3) (d := cVar false 4) (x := wb n cs P) (y := wb n' cs' P') rfl rfl) r1) (b := cVar false 5) (y := .str t) rfl r2)
  exact ⟨some (.d (wb n cs P)), some (.d (wb n' cs' P')), some (.d (.str t)), f6, f7, f8, f9, f10, f11, f12, f13, f14, x3, e_seq (spar1 p1) (e_seq (spar1 p2) (e_seq (spar1 p3) (e_seq hfor (e_ifF p4 rfl)))), hx3⟩

theorem math (ns : List Int) (h : ns.length ≤ 63) : ∃ src', (fnAt T 200 (100+1)).call "law" [.d (.list (ns.map PyData.int))] none = some (.d (.bool true), src') := by
  obtain ⟨x, ex, hx⟩ := src_ok 99 ns h
  obtain ⟨c0, hc0⟩ : ∃ c : Option Vx, c = some (.d (.list (ns.map PyData.int))) := ⟨_, rfl⟩
  obtain ⟨s', hfor, g2, g3, g4, g5, g6, g7, g8, g9, g10, g11, g12, g13, g14, x1, rfl, hx1⟩ := sfor_ind (as := aName 2) (ic := (icRng1 (.e (cC (.int 3))))) (F := FF) (b := (sSeq (sPar [3] [(cCall "_law_web" [(cVar false 1), (cBin fIxD (.e (cDisp false [(cC (.int 3)), (cC (.int 4)), (cC (.int 5))])) (.e (cVar false 2)))])])
    (sSeq (sPar [4] [(cCall "_law_other" [(cVar false 1), (cVar false 3), (cBin fIxD (.e (cDisp false [(cC (.int 3)), (cC (.int 4)), (cC (.int 5))])) (.e (cVar false 2)))])])
    (sSeq (sPar [5] [(cNat fRepr [(.e (cDisp false [(cVar false 3), (cVar false 4)]))])])
    (sSeq (sFor (aName 6) (icRng1 (.e (cC (.int 3)))) (sSeq (sPar [7] [(cCall "_law_pick" [(cVar false 1), (cC (.int 3))])])
    (sSeq (sPar [8, 9, 10] [(cCall "_law_row" [(cVar false 1), (cVar false 3), (cVar false 7)]), (cCall "_law_row" [(cVar false 1), (cVar false 4), (cVar false 7)]), (cCall "_law_pick" [(cVar false 1), (cIf (bOf (cBin fGt (.e (cVar false 7)) (.e (cC (.int 1))))) (cC (.int 3)) (cBin fSub (.e (cC (.int 4))) (.e (cVar false 7))))])])
    (sSeq (sIf (bAnd (bOf (cBin fGt (.e (cBin fIxD (.e (cVar false 3)) (.e (cC (.int 0))))) (.e (cC (.int 4))))) (bOf (cBin fGt (.e (cVar false 10)) (.e (cC (.int 2)))))) (sPar [10] [(cC (.int 2))]) sPass)
    (sSeq (sIf (bOf (cBin fNe (.e (cNat fRepr [(.e (cDisp false [(cCall "row_eye" [(cVar false 3), (cVar false 8)]), (cCall "row_eye" [(cVar false 4), (cVar false 9)])]))])) (.e (cNat fRepr [(.e (cDisp false [(cCall "_law_eye" [(cVar false 3), (cVar false 8)]), (cCall "_law_eye" [(cVar false 4), (cVar false 9)])]))])))) (sRet (cC (.bool false))) sPass)
    (sSeq (sPar [11] [(cCall "rank_type" [(cVar false 3), (cVar false 8), (cVar false 10)])])
    (sSeq (sIf (bOf (cBin fNe (.e (cNat fRepr [(.e (cDisp false [(cVar false 11), (cCall "rank_type" [(cVar false 4), (cVar false 9), (cVar false 10)])]))])) (.e (cNat fRepr [(.e (cDisp false [(cCall "_law_type" [(cVar false 3), (cVar false 8), (cVar false 10)]), (cCall "_law_type" [(cVar false 4), (cVar false 9), (cVar false 10)])]))])))) (sRet (cC (.bool false))) sPass)
    (sSeq (sIf (bAnd (bOf (cBin fGt (.e (cVar false 10)) (.e (cC (.int 0))))) (bOf (cBin fNe (.e (cNat fRepr [(.e (cCall "lowered_type" [(cVar false 11)]))])) (.e (cNat fRepr [(.e (cCall "_law_type" [(cVar false 3), (cVar false 8), (cBin fSub (.e (cVar false 10)) (.e (cC (.int 1))))]))]))))) (sRet (cC (.bool false))) sPass)
    (sSeq (sPar [12] [(cCall "_law_is_kept" [(cVar false 3), (cVar false 8), (cVar false 4), (cVar false 9), (cVar false 10)])])
    (sSeq (sIf (bOf (cBin fNe (.e (cNat fRepr [(.e (cCall "are_kept" [(cVar false 3), (cVar false 8), (cVar false 4), (cVar false 9), (cVar false 10)]))])) (.e (cNat fRepr [(.e (cVar false 12))])))) (sRet (cC (.bool false))) sPass)
    (sSeq (sIf (bOr (bOf (cBin fNe (.e (cBin fEq (.e (cNat fRepr [(.e (cVar false 11))])) (.e (cNat fRepr [(.e (cCall "rank_type" [(cVar false 4), (cVar false 9), (cVar false 10)]))])))) (.e (cVar false 12)))) (bOf (cBin fNe (.e (cCall "are_kept" [(cVar false 4), (cVar false 9), (cVar false 3), (cVar false 8), (cVar false 10)])) (.e (cVar false 12))))) (sRet (cC (.bool false))) sPass)
    (sSeq (sPar [13] [(cLc [15] (aName 15) (icRng1 (.e (cIf (bOf (cBin fGt (.e (cVar false 7)) (.e (cC (.int 0))))) (cCall "_law_pick" [(cVar false 1), (cC (.int 3))]) (cC (.int 0))))) bYes (cCall "_law_pick" [(cVar false 1), (cVar false 7)]))])
    (sSeq (sPar [14] [(cLc [16] (aName 16) (icAny (.e (cDisp true [(cVar false 8), (cVar false 9)]))) bYes (cNat fTuple [(.e (cLc [17] (aName 17) (icAny (.e (cVar false 13))) bYes (cBin fIxD (.e (cVar false 16)) (.e (cVar false 17)))))]))])
    (sSeq (sIf (bAnd (bTru (.e (cVar false 12))) (bNot (bTru (.e (cCall "are_kept" [(cVar false 3), (cBin fIxD (.e (cVar false 14)) (.e (cC (.int 0)))), (cVar false 4), (cBin fIxD (.e (cVar false 14)) (.e (cC (.int 1)))), (cVar false 10)]))))) (sRet (cC (.bool false))) sPass)
    (sIf (bAnd (bTru (.e (cVar false 12))) (bAnd (bOf (cBin fGt (.e (cVar false 10)) (.e (cC (.int 0))))) (bNot (bTru (.e (cCall "are_kept" [(cVar false 3), (cVar false 8), (cVar false 4), (cVar false 9), (cBin fSub (.e (cVar false 10)) (.e (cC (.int 1))))])))))) (sRet (cC (.bool false))) sPass)))))))))))))))
    (sIf (bOf (cBin fNe (.e (cNat fRepr [(.e (cDisp false [(cVar false 3), (cVar false 4)]))])) (.e (cVar false 5)))) (sRet (cC (.bool false))) sPass)))))) (s := ⟨[c0, some .src, none, none, none, none, none, none, none, none, none, none, none, none, none, none, none, none], some x⟩) (ds := Ev.intsFrom 0 3) (s0 := ⟨[c0, some .src, none, none, none, none, none, none, none, none, none, none, none, none, none, none, none, none], some x⟩) rfl
    (fun _ s => ∃ (g2 g3 g4 g5 g6 g7 g8 g9 g10 g11 g12 g13 g14 : Option Vx) (x1 : Src), s = ⟨[c0, some .src, g2, g3, g4, g5, g6, g7, g8, g9, g10, g11, g12, g13, g14, none, none, none], some x1⟩ ∧ x1.cells.length ≤ 63) ⟨_, _, _, _, _, _, _, _, _, _, _, _, _, x, rfl, hx⟩ (by
      rintro j d s hj ⟨g2, g3, g4, g5, g6, g7, g8, g9, g10, g11, g12, g13, g14, x1, rfl, hx1⟩
      obtain ⟨most, m1, m5, hd⟩ : ∃ most : Nat, 1 ≤ most ∧ most ≤ 5 ∧ fIxD (.list [.int 3, .int 4, .int 5]) d = some (Nm most) := by
        have hd := List.mem_of_getElem? hj
        rw [show Ev.intsFrom 0 3 = [PyData.int 0, .int 1, .int 2] from rfl] at hd
        simp only [List.mem_cons, List.not_mem_nil, or_false] at hd
        rcases hd with rfl | rfl | rfl
        · exact ⟨3, by omega, by omega, rfl⟩
        · exact ⟨4, by omega, by omega, rfl⟩
        · exact ⟨5, by omega, by omega, rfl⟩
      obtain ⟨f3, f4, f5, f6, f7, f8, f9, f10, f11, f12, f13, f14, x2, g, hx2⟩ := lap_ok c0 g3 g4 g5 g6 g7 g8 g9 g10 g11 g12 g13 g14 m1 m5 d hd x1 hx1
      exact ⟨_, _, rfl, g, _, _, _, _, _, _, _, _, _, _, _, _, _, x2, rfl, hx2⟩)
  have hre : (cCall "row_eye" [(cDisp true [(cC (.int 2)), (cDisp true [(cC (.int 5)), (cC (.int 5))]), (cDisp true [(cDisp true [(cC (.int 0)), (cC (.int 1))])])]), (cDisp true [(cC (.int 0)), (cC (.int 0)), (cC (.int 1))])]) FF ⟨[c0, some .src, g2, g3, g4, g5, g6, g7, g8, g9, g10, g11, g12, g13, g14, none, none, none], some x1⟩ = some (.d (eyeD [5, 5] (fun a b => a == 0 && b == 1) [0, 0, 1]), ⟨[c0, some .src, g2, g3, g4, g5, g6, g7, g8, g9, g10, g11, g12, g13, g14, none, none, none], some x1⟩) :=
    pcall (F := FF) (s := ⟨[c0, some .src, g2, g3, g4, g5, g6, g7, g8, g9, g10, g11, g12, g13, g14, none, none, none], some x1⟩) (xs := [.d (wb 2 [5, 5] (fun a b => a == 0 && b == 1)), .d (Rw [0, 0, 1])]) rfl (row_eye_ok (P := fun a b => a == 0 && b == 1) (n := 2) (cs := [5, 5]) (row := [0, 0, 1]) 99 rfl (by decide) (by decide) (some x1))
  have hfin : (sRet (cBin fEq (.e (cCall "row_eye" [(cDisp true [(cC (.int 2)), (cDisp true [(cC (.int 5)), (cC (.int 5))]), (cDisp true [(cDisp true [(cC (.int 0)), (cC (.int 1))])])]), (cDisp true [(cC (.int 0)), (cC (.int 0)), (cC (.int 1))])])) (.e (cDisp true [(cDisp true [(cC (.int 5)), (cC (.int 5)), (cC (.int 5))]), (cDisp true [(cDisp true [(cC (.int 0)), (cC (.int 1))])]), (cDisp true [(cDisp true [(cC (.int 0)), (cC (.int 2))]), (cDisp true [(cC (.int 1)), (cC (.int 2))])])])))) FF ⟨[c0, some .src, g2, g3, g4, g5, g6, g7, g8, g9, g10, g11, g12, g13, g14, none, none, none], some x1⟩ = some (.rt (.d (.bool true)), ⟨[c0, some .src, g2, g3, g4, g5, g6, g7, g8, g9, g10, g11, g12, g13, g14, none, none, none], some x1⟩) := sret (cbin hre (y := eyeD [5, 5] (fun a b => a == 0 && b == 1) [0, 0, 1]) rfl (by kernel_rfl))
  have hbody : b_law FF ⟨[c0, none, none, none, none, none, none, none, none, none, none, none, none, none, none, none, none, none], none⟩ = some (.rt (.d (.bool true)), ⟨[c0, some .src, g2, g3, g4, g5, g6, g7, g8, g9, g10, g11, g12, g13, g14, none, none, none], some x1⟩) := by
    unfold b_law
    refine e_seq (s1 := ⟨[c0, some .src, none, none, none, none, none, none, none, none, none, none, none, none, none, none, none, none], some x⟩) (spar1 (x := .src) (s1 := ⟨[c0, none, none, none, none, none, none, none, none, none, none, none, none, none, none, none, none, none], some x⟩) ?_) (e_seq hfor hfin)
    subst hc0
    exact ccall (s1 := ⟨[some (.d (.list (ns.map PyData.int))), none, none, none, none, none, none, none, none, none, none, none, none, none, none, none, none, none], none⟩) (xs := [.d (.list (ns.map PyData.int))]) rfl ex
  refine ⟨some x1, ?_⟩
  rw [fnAt_call (d := ⟨1, 18, b_law⟩) rfl]
  subst hc0
  exact run_env (n := 1) (nn := 18) (xs := [.d (.list (ns.map PyData.int))]) rfl rfl hbody
end L11
open PySem PySem.W PyProof.Rows
set_option maxHeartbeats 0 in
theorem PySem.Challenge.cw_pairstoldapart_k11_whole_eyes_and_types_holds : PySem.Challenge.rw_pairstoldapart_k11_whole_eyes_and_types.Holds := by
  w_on; o_law; k_head; (case hw => w_witness2)
  k_fill
  refine Ev.walk_G (l := PySem.Challenge.rw_pairstoldapart_k11_whole_eyes_and_types) (n := 63) (k := 100 + 1) (x := "script") (F := Ev.fnAt L11.T 200 (100 + 1)) rfl (by decide) rfl ⟨rfl, by decide, by decide⟩ (fun w h Y => PySem.W.kIn_of Y) ?F (fun ns h => L11.math ns h)
  case F =>
    intro w mg fa h KX G hmg
    refine' L11.all_mk KX G hmg ?a0 ?l0 ?c0 ?k0 ?a1 ?l1 ?c1 ?k1 ?a2 ?l2 ?c2 ?k2 ?a3 ?l3 ?c3 ?k3 ?a4 ?l4 ?c4 ?k4 ?a5 ?l5 ?c5 ?k5 ?a6 ?l6 ?c6 ?k6 ?a7 ?l7 ?c7 ?k7 ?a8 ?l8 ?c8 ?k8 ?a9 ?l9 ?c9 ?k9 ?a10 ?l10 ?c10 ?k10 ?a11 ?l11 ?c11 ?k11 ?a12 ?l12 ?c12 ?k12 ?a13 ?l13 ?c13 ?k13 ?a14 ?l14 ?c14 ?k14 ?a15 ?l15 ?c15 ?k15 ?a16 ?l16 ?c16 ?k16 ?a17 ?l17 ?c17 ?k17 ?a18 ?l18 ?c18 ?k18 ?a19 ?l19 ?c19 ?k19 ?a20 ?l20 ?c20 ?k20 ?a21 ?l21 ?c21 ?k21 ?z0 ?z1 ?z2 ?z3 ?z4 ?z5 ?z6 ?z7 ?z8 ?z9
    (case a0 => k_is); (case l0 => k_is); (case c0 => k_is); (case k0 => k_is); (case a1 => k_is); (case l1 => k_is); (case c1 => k_is); (case k1 => k_is); (case a2 => k_is); (case l2 => k_is); (case c2 => k_is); (case k2 => k_is); (case a3 => k_is); (case l3 => k_is); (case c3 => k_is); (case k3 => k_is); (case a4 => k_is); (case l4 => k_is); (case c4 => k_is); (case k4 => k_is); (case a5 => k_is); (case l5 => k_is); (case c5 => k_is); (case k5 => k_is); (case a6 => k_is); (case l6 => k_is); (case c6 => k_is); (case k6 => k_is); (case a7 => k_is); (case l7 => k_is); (case c7 => k_is); (case k7 => k_is); (case a8 => k_is); (case l8 => k_is); (case c8 => k_is); (case k8 => k_is); (case a9 => k_is); (case l9 => k_is); (case c9 => k_is); (case k9 => k_is); (case a10 => k_is); (case l10 => k_is); (case c10 => k_is); (case k10 => k_is); (case a11 => k_is); (case l11 => k_is); (case c11 => k_is); (case k11 => k_is); (case a12 => k_is); (case l12 => k_is); (case c12 => k_is); (case k12 => k_is); (case a13 => k_is); (case l13 => k_is); (case c13 => k_is); (case k13 => k_is); (case a14 => k_is); (case l14 => k_is); (case c14 => k_is); (case k14 => k_is); (case a15 => k_is); (case l15 => k_is); (case c15 => k_is); (case k15 => k_is); (case a16 => k_is); (case l16 => k_is); (case c16 => k_is); (case k16 => k_is); (case a17 => k_is); (case l17 => k_is); (case c17 => k_is); (case k17 => k_is); (case a18 => k_is); (case l18 => k_is); (case c18 => k_is); (case k18 => k_is); (case a19 => k_is); (case l19 => k_is); (case c19 => k_is); (case k19 => k_is); (case a20 => k_is); (case l20 => k_is); (case c20 => k_is); (case k20 => k_is); (case a21 => k_is); (case l21 => k_is); (case c21 => k_is); (case k21 => k_is); (case z0 => k_is); (case z1 => k_is); (case z2 => k_is); (case z3 => k_is); (case z4 => k_is); (case z5 => k_is); (case z6 => k_is); (case z7 => k_is); (case z8 => k_is); (case z9 => k_is)
