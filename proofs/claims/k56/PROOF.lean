import PyProof.Rows.All
import HandS.ForMost
import KE.KDictKeyed
import KE.KDictSum
import HandS.Style
import HandS.NoneIn
import HandS.Zip
import HandS.Comp
import HandS.TupMul
import HandS.TupAny
import HandS.Deep
import HandS.RaiseMore
import KE.SortData
import PyProof.ReprRoads
import HandS.DictComp
import KE.KDictPairs
import KE.KDictWalk
import KE.KDictCopyH
import HandS.Iter
import KE.GoesEnum
import HandS.Star
import PyProof.ReprReads
import PyProof.Rows.ReprOcc
import KE.SortKeyed
import HandS.Conv
import PySem.Challenge.RW_pairstoldapart_k56_whole_least_wished_we
set_option Elab.async false
set_option linter.all false
set_option maxRecDepth 100000
set_option maxHeartbeats 4000000
/-! Ev1: data, how they lie in the abstract heap, the evaluator's state and its relation to the heap. -/
namespace Ev
open PySem PySem.Spec PyProof.Rows L2

/-- what is asked of where a text runs: the module's frag, the world -/
structure KK where
  k : PySem.W.Frag
  w : World
  p : Program
abbrev _root_.L2.Cx.kk (X : Cx) : KK := ⟨X.K, X.w, X.prog⟩
/-! ### the evaluator's state -/
/-- a value: data, or the law's source, or the source's cells -/
inductive Vx where
  | d (x : PyData) | src | srcc | z (x : PyData)
/-- the law's source: what is left to be drawn -/
structure Src where
  cells : List Int
  left : Int
  mixed : Int
  turn : Int
structure S where
  env : List (Option Vx)
  src : Option Src
/-- how the state lies: forbidden addresses (of the callers, or locked), the owned slots' addresses, the source's, its cells' -/
structure G where
  N0 : Addr → Prop
  P : Nat → Option Addr
  SA : Addr → Prop
  CA : Addr → Prop
def G.N (g : G) (a : Addr) : Prop := g.N0 a ∨ ∃ i, g.P i = some a
def G.W (g : G) (a : Addr) : Prop := (∃ i, g.P i = some a) ∨ g.SA a ∨ g.CA a

/-! ### dicts -/
mutual
/-- the key that a value is, up to == -/
def keyOf : PyData → Option NestedKey
  | .none => some .none
  | .bool b => some (.num (if b = true then 1 else 0))
  | .int i => some (.num i)
  | .str x => some (.text x)
  | .tuple ds => (keysOf ds).map .tup
  | _ => none
def keysOf : List PyData → Option (List NestedKey)
  | [] => some []
  | d :: ds => match keyOf d, keysOf ds with
    | some k, some ks => some (k :: ks)
    | _, _ => none
end
def entN (w : World) (x : NestedKey × Addr × Value) : DictEntry := ⟨x.1.hash w, .ref x.2.1, x.2.2⟩
/-- at a stands the object ob, a dict with the entries xs, keys that are tuples -/
def PhiN (K : KK) (a : Addr) (ob : Obj) (xs : List (NestedKey × Addr × V)) : Heap → Prop := fun h => xs.length ≤ sizeLine ∧ (a == sysModules) = false ∧ (∀ x ∈ xs, x.1.depth ≤ 8) ∧ h.get? a = some ob ∧ ∃ ys : List (NestedKey × Addr × Value),
  Paired (fun x y => x.1 = y.1 ∧ x.2.1 = y.2.1 ∧ RelV x.2.2 y.2.2) xs ys ∧ ∃ es ep, ob.ExactDict ∧ ob.data = .dict es ep ∧ es.toList = ys.map (entN K.w) ∧ (ys.map (·.1)).Nodup
/-- at a stands the object ob, a dict with the entries ks, keys that are ints and texts -/
def PhiK (K : KK) (a : Addr) (ob : Obj) (ks : List (Key × V)) : Heap → Prop := fun h => ks.length ≤ sizeLine ∧ (a == sysModules) = false ∧ h.get? a = some ob ∧ ∃ vs : List (Key × Value), KV ks vs ∧ h.DictOf (mixKind K.p K.w) a vs
/-- what stands at a dict's address: the key values kv, the values vv; the keys' data kds -/
inductive DObj (K : KK) (a : Addr) : HO → List V → List V → List PyData → Prop
  | dK {ob : Obj} {kvs : List (Key × V)} {kds : List PyData} : DObj K a (.ext (PhiK K a ob kvs)) (kvs.map fun p => kV p.1) (kvs.map (·.2)) kds
  | dN {ob : Obj} {xs : List (NestedKey × Addr × V)} {kds : List PyData} : xs.map (fun x => some x.1) = kds.map keyOf → DObj K a (.ext (PhiN K a ob xs)) (xs.map fun x => .ref x.2.1) (xs.map (·.2.2)) kds

/-- a list that is read: tracked, frozen, or the module's own -/
def Lr (K : PySem.W.Frag) (H : Hp) (a : Addr) (xs : List V) : Prop := Rd H a (.lst xs) ∨ ∃ (its : Array Value) (n : Nat), K.lookup a = some { cls := .type "list", data := .seq its n } ∧ its.size ≤ sizeLine ∧ Vals xs its.toList
theorem Lr.sq {K : PySem.W.Frag} {H : Hp} {a : Addr} {xs : List V} (h : Lr K H a xs) : SqL K H a xs := h.imp id fun ⟨its, n, e, z, r⟩ => ⟨_, its, n, e, rfl, rfl, rfl, z, r⟩
/-! the data d lies at v; N: no list or dict of it stands at such an address -/
mutual
inductive Rp (K : KK) (N : Addr → Prop) (H : Hp) : V → PyData → Prop
  | non : Rp K N H .non .none
  | bl (b : Bool) : Rp K N H (.bl b) (.bool b)
  | int (i : Int) : Rp K N H (.int i) (.int i)
  | str (x : Str) : Rp K N H (.str x) (.str x)
  | lst {a : Addr} {xs : List V} {ds : List PyData} : Rd H a (.lst xs) → ¬ N a → RpA K N H xs ds → Rp K N H (.ref a) (.list ds)
  | lstK {a : Addr} {its : Array Value} {n : Nat} {xs : List V} {ds : List PyData} : K.k.lookup a = some { cls := .type "list", data := .seq its n } → its.size ≤ sizeLine → Vals xs its.toList → RpA K N H xs ds → Rp K N H (.ref a) (.list ds)
  | tup {a : Addr} {xs : List V} {ds : List PyData} : SqT K.k H a xs → RpA K N H xs ds → Rp K N H (.ref a) (.tuple ds)
  | dct {a : Addr} {o : HO} {kv vv : List V} {kds vds : List PyData} : H a = some o → DObj K a o kv vv kds → ¬ N a → RpA K N H kv kds → RpA K N H vv vds → Rp K N H (.ref a) (.dict (kds.zip vds))
inductive RpA (K : KK) (N : Addr → Prop) (H : Hp) : List V → List PyData → Prop
  | nil : RpA K N H [] []
  | cons {v : V} {vs : List V} {d : PyData} {ds : List PyData} : Rp K N H v d → RpA K N H vs ds → RpA K N H (v :: vs) (d :: ds)
end

section
variable {K : KK} {N N' : Addr → Prop} {H H' : Hp}
theorem RpA.paired : ∀ {xs : List V} {ds : List PyData}, RpA K N H xs ds → Paired (Rp K N H) xs ds
  | _, _, .nil => .nil
  | _, _, .cons h t => .cons h (RpA.paired t)
theorem RpA.of : ∀ {xs : List V} {ds : List PyData}, Paired (Rp K N H) xs ds → RpA K N H xs ds
  | _, _, .nil => .nil
  | _, _, .cons h t => .cons h (RpA.of t)
theorem RpA.length {xs : List V} {ds : List PyData} (h : RpA K N H xs ds) : xs.length = ds.length := h.paired.length
theorem RpA.append : ∀ {xs ys : List V} {ds es : List PyData}, RpA K N H xs ds → RpA K N H ys es → RpA K N H (xs ++ ys) (ds ++ es)
  | _, _, _, _, .nil, s => s
  | _, _, _, _, .cons r t, s => .cons r (RpA.append t s)
theorem RpA.take : ∀ {xs : List V} {ds : List PyData} (n : Nat), RpA K N H xs ds → RpA K N H (xs.take n) (ds.take n)
  | _, _, 0, _ => .nil
  | _, _, _ + 1, .nil => .nil
  | _, _, n + 1, .cons r t => .cons r (RpA.take n t)
theorem RpA.drop : ∀ {xs : List V} {ds : List PyData} (n : Nat), RpA K N H xs ds → RpA K N H (xs.drop n) (ds.drop n)
  | _, _, 0, r => r
  | _, _, _ + 1, .nil => .nil
  | _, _, n + 1, .cons _ t => RpA.drop n t
theorem RpA.reverse {xs : List V} {ds : List PyData} (h : RpA K N H xs ds) : RpA K N H xs.reverse ds.reverse := by
  have : ∀ {xs : List V} {ds : List PyData}, RpA K N H xs ds → RpA K N H xs.reverse ds.reverse := by
    intro xs
    induction xs with
    | nil => intro ds h; cases h; exact .nil
    | cons x xs ih =>
      intro ds h
      cases h with
      | cons h t =>
        rw [List.reverse_cons, List.reverse_cons]
        exact (ih t).append (.cons h .nil)
  exact this h
theorem RpA.eraseIdx : ∀ {xs : List V} {ds : List PyData} (i : Nat), RpA K N H xs ds → RpA K N H (xs.eraseIdx i) (ds.eraseIdx i)
  | _, _, _, .nil => .nil
  | _, _, 0, .cons _ t => t
  | _, _, i + 1, .cons r t => .cons r (RpA.eraseIdx i t)
theorem RpA.set {v : V} {d : PyData} (r : Rp K N H v d) : ∀ {xs : List V} {ds : List PyData} (i : Nat), RpA K N H xs ds → RpA K N H (xs.set i v) (ds.set i d)
  | _, _, _, .nil => .nil
  | _, _, 0, .cons _ t => .cons r t
  | _, _, i + 1, .cons q t => .cons q (RpA.set r i t)
theorem RpA.get : ∀ {xs : List V} {ds : List PyData} {i : Nat} {d : PyData}, RpA K N H xs ds → ds[i]? = some d → ∃ v, xs[i]? = some v ∧ Rp K N H v d
  | _, _, _, _, .nil, e => by simp at e
  | _, _, 0, _, .cons r _, e => by simp at e; subst e; exact ⟨_, rfl, r⟩
  | _, _, i + 1, d, .cons _ t, e => by
    obtain ⟨u, h1, h2⟩ := RpA.get (i := i) (d := d) t (by simpa using e)
    exact ⟨u, by simpa using h1, h2⟩
theorem RpA.getV {xs : List V} {ds : List PyData} {i : Nat} {v : V} (h : RpA K N H xs ds) (e : xs[i]? = some v) : ∃ d, ds[i]? = some d ∧ Rp K N H v d := by
  have hi : i < ds.length := by rw [← h.length]; exact (List.getElem?_eq_some_iff.mp e).1
  obtain ⟨v', e', r⟩ := h.get (List.getElem?_eq_getElem hi)
  rw [e] at e'; cases e'
  exact ⟨_, List.getElem?_eq_getElem hi, r⟩
theorem RpA.replicate {v : V} {d : PyData} (r : Rp K N H v d) : ∀ n : Nat, RpA K N H (List.replicate n v) (List.replicate n d)
  | 0 => .nil
  | n + 1 => .cons r (RpA.replicate r n)
theorem RpA.rep {xs : List V} {ds : List PyData} (h : RpA K N H xs ds) : ∀ n : Nat, RpA K N H (List.replicate n xs).flatten (List.replicate n ds).flatten
  | 0 => .nil
  | n + 1 => by
    rw [List.replicate_succ, List.replicate_succ, List.flatten_cons, List.flatten_cons]
    exact h.append (RpA.rep h n)

/-! data stay while what they lie on stays -/
mutual
theorem Rp.move (kp : ∀ a o, H a = some o → ¬ N a → H' a = some o) (ktup : ∀ a xs, SqT K.k H a xs → SqT K.k H' a xs) (hn : ∀ a, N' a → N a ∨ H a = none) : ∀ {v : V} {d : PyData}, Rp K N H v d → Rp K N' H' v d
  | _, _, .non => .non
  | _, _, .bl b => .bl b
  | _, _, .int i => .int i
  | _, _, .str x => .str x
  | _, _, .lst (.inl e) h2 h3 => .lst (.inl (kp _ _ e h2)) (fun z => (hn _ z).elim h2 fun q => by rw [e] at q; cases q) (RpA.move kp ktup hn h3)
  | _, _, .lst (.inr ⟨o, e⟩) h2 h3 => .lst (.inr ⟨o, kp _ _ e h2⟩) (fun z => (hn _ z).elim h2 fun q => by rw [e] at q; cases q) (RpA.move kp ktup hn h3)
  | _, _, .lstK h1 h2 h3 h4 => .lstK h1 h2 h3 (RpA.move kp ktup hn h4)
  | _, _, .tup h1 h2 => .tup (ktup _ _ h1) (RpA.move kp ktup hn h2)
  | _, _, .dct e ho h2 h3 h4 => .dct (kp _ _ e h2) ho (fun z => (hn _ z).elim h2 fun q => by rw [e] at q; cases q) (RpA.move kp ktup hn h3) (RpA.move kp ktup hn h4)
theorem RpA.move (kp : ∀ a o, H a = some o → ¬ N a → H' a = some o) (ktup : ∀ a xs, SqT K.k H a xs → SqT K.k H' a xs) (hn : ∀ a, N' a → N a ∨ H a = none) : ∀ {xs : List V} {ds : List PyData}, RpA K N H xs ds → RpA K N' H' xs ds
  | _, _, .nil => .nil
  | _, _, .cons h1 h2 => .cons (Rp.move kp ktup hn h1) (RpA.move kp ktup hn h2)
end
end
end Ev
/-! Ev2: the state's relation to the heap, its evolution. -/
namespace Ev
open PySem PySem.Spec L2

/-- a value lies at v -/
def RpX (K : KK) (g : G) (H : Hp) (v : V) : Vx → Prop
  | .d d => Rp K g.N H v d
  | .z d => Rp K g.N H v d
  | .src => ∃ a, v = .ref a ∧ g.SA a
  | .srcc => ∃ a, v = .ref a ∧ g.CA a
/-- a list or dict of one's own stands at a: it may be written -/
def Top (K : KK) (N : Addr → Prop) (H : Hp) (a : Addr) : PyData → Prop
  | .list ds => ∃ xs, H a = some (.lst xs) ∧ RpA K N H xs ds
  | .dict kvs => ∃ o kv vv kds vds, kvs = kds.zip vds ∧ H a = some o ∧ DObj K a o kv vv kds ∧ RpA K N H kv kds ∧ RpA K N H vv vds
  | _ => False
def isM : PyData → Bool
  | .list _ | .dict _ => true
  | _ => false
theorem Top.isM {K : KK} {N : Addr → Prop} {H : Hp} {a : Addr} {d : PyData} (h : Top K N H a d) : isM d = true := by
  cases d <;> first | rfl | exact h.elim
theorem Top.nn {K : KK} {N : Addr → Prop} {H : Hp} {a : Addr} {d : PyData} (h : Top K N H a d) : H a ≠ none := by
  cases d with
  | list ds => obtain ⟨xs, e, _⟩ := h; rw [e]; simp
  | dict kvs => obtain ⟨o, _, _, _, _, _, e, _⟩ := h; rw [e]; simp
  | _ => exact h.elim
theorem Top.rp {K : KK} {N : Addr → Prop} {H : Hp} {a : Addr} {d : PyData} (h : Top K N H a d) (hn : ¬ N a) : Rp K N H (.ref a) d := by
  cases d with
  | list ds => obtain ⟨xs, e, r⟩ := h; exact .lst (.inl e) hn r
  | dict kvs => obtain ⟨o, kv, vv, kds, vds, rfl, e, ho, r1, r2⟩ := h; exact .dct e ho hn r1 r2
  | _ => exact h.elim
theorem Top.move {K : KK} {N N' : Addr → Prop} {H H' : Hp} {a : Addr} {d : PyData} (h : Top K N H a d) (ha : H' a = H a) (kp : ∀ a o, H a = some o → ¬ N a → H' a = some o) (ktup : ∀ a xs, SqT K.k H a xs → SqT K.k H' a xs) (hn : ∀ a, N' a → N a ∨ H a = none) : Top K N' H' a d := by
  cases d with
  | list ds => obtain ⟨xs, e, r⟩ := h; exact ⟨xs, ha.trans e, r.move kp ktup hn⟩
  | dict kvs => obtain ⟨o, kv, vv, kds, vds, rfl, e, ho, r1, r2⟩ := h; exact ⟨o, kv, vv, kds, vds, rfl, ha.trans e, ho, r1.move kp ktup hn, r2.move kp ktup hn⟩
  | _ => exact h.elim

def SrcOk (SA CA : Addr → Prop) (H : Hp) : Option Src → Prop
  | none => (∀ a, ¬ SA a) ∧ ∀ a, ¬ CA a
  | some s => ∃ a c, (∀ b, SA b ↔ b = a) ∧ (∀ b, CA b ↔ b = c) ∧ a ≠ c ∧
      H a = some (.dK [(.inr ("cells" : Str), .ref c), (.inr ("left" : Str), .int s.left), (.inr ("mixed" : Str), .int s.mixed), (.inr ("turn" : Str), .int s.turn)]) ∧ H c = some (.lst (s.cells.map V.int))

/-- a slot's value: owned where the slot is of those that are changed in place -/
def SlotOk (K : KK) (M : Nat → Bool) (g : G) (H : Hp) (i : Nat) (v : V) : Vx → Prop
  | .d d => (M i = true ∧ isM d = true → ∃ a, v = .ref a ∧ g.P i = some a ∧ Top K g.N H a d) ∧ (¬ (M i = true ∧ isM d = true) → Rp K g.N H v d)
  | .z d => Rp K g.N H v d
  | .src => RpX K g H v .src
  | .srcc => RpX K g H v .srcc

structure Rel (K : KK) (M : Nat → Bool) (g : G) (s : S) (σ : St) (H : Hp) : Prop where
  slot : ∀ i x, s.env[i]? = some (some x) → ∃ v, σ[i]? = some (some v) ∧ SlotOk K M g H i v x
  inj : ∀ i j a, g.P i = some a → g.P j = some a → i = j
  sep : ∀ i a, g.P i = some a → ¬ g.N0 a
  ex : ∀ a, g.N a → H a ≠ none
  srN : ∀ a, g.SA a ∨ g.CA a → g.N0 a
  src : SrcOk g.SA g.CA H s.src
  len : s.env.length = σ.length

/-- what may happen -/
structure Evo (g g' : G) (H H' : Hp) : Prop where
  n : ∀ a, g'.N a → g.N a ∨ H a = none
  w : ∀ a, g'.W a → g.W a ∨ H a = none
  sa : ∀ a, g.SA a → g'.SA a
  ca : ∀ a, g.CA a → g'.CA a
  n0 : ∀ a, g.N0 a → g'.N0 a
  keep : ∀ a o, H a = some o → ¬ g.W a → H' a = some o
  tup : ∀ a xs, H a = some (.tup xs) → H' a = some (.tup xs)
  frz : ∀ a o u, H a = some (.frz o u) → H' a = some (.frz o u)
  grow : ∀ a, H a ≠ none → H' a ≠ none
  sr : ∀ b, g'.SA b ∨ g'.CA b → (g.SA b ∨ g.CA b) ∨ H b = none

section
variable {K : KK} {M : Nat → Bool} {g g' g'' : G} {s s' : S} {σ : St} {H H' H'' : Hp}
theorem Evo.refl : Evo g g H H := ⟨fun _ h => .inl h, fun _ h => .inl h, fun _ h => h, fun _ h => h, fun _ h => h, fun _ _ h _ => h, fun _ _ h => h, fun _ _ _ h => h, fun _ h => h, fun _ h => .inl h⟩
theorem none_back (gr : ∀ a, H a ≠ none → H' a ≠ none) {a : Addr} (h : H' a = none) : H a = none := by
  cases q : H a with
  | none => rfl
  | some o => exact absurd h (gr a (by rw [q]; simp))
theorem Evo.trans (e : Evo g g' H H') (f : Evo g' g'' H' H'') : Evo g g'' H H'' where
  n := fun a h => (f.n a h).elim (e.n a) fun z => .inr (none_back e.grow z)
  w := fun a h => (f.w a h).elim (e.w a) fun z => .inr (none_back e.grow z)
  sa := fun a h => f.sa a (e.sa a h)
  ca := fun a h => f.ca a (e.ca a h)
  n0 := fun a h => f.n0 a (e.n0 a h)
  keep := fun a o h hw => f.keep a o (e.keep a o h hw) fun z => (e.w a z).elim hw fun q => by rw [h] at q; cases q
  tup := fun a xs h => f.tup a xs (e.tup a xs h)
  frz := fun a o u h => f.frz a o u (e.frz a o u h)
  grow := fun a h => f.grow a (e.grow a h)
  sr := fun b h => (f.sr b h).elim (e.sr b) fun z => .inr (none_back e.grow z)
theorem seq_keep (tup : ∀ a xs, H a = some (.tup xs) → H' a = some (.tup xs)) (frz : ∀ a o u, H a = some (.frz o u) → H' a = some (.frz o u)) {a : Addr} {xs : List V} (h : SqT K.k H a xs) : SqT K.k H' a xs := by
  rcases h with (h | ⟨o, h⟩) | h
  · exact .inl (.inl (tup _ _ h))
  · exact .inl (.inr ⟨o, frz _ _ _ h⟩)
  · exact .inr h
theorem Evo.seq (e : Evo g g' H H') {a : Addr} {xs : List V} (h : SqT K.k H a xs) : SqT K.k H' a xs := seq_keep e.tup e.frz h
theorem Rel.wn (r : Rel K M g s σ H) : ∀ a, g.W a → g.N a := fun a h => by
  rcases h with h | h
  · exact .inr h
  · exact .inl (r.srN a h)
theorem Evo.kp (e : Evo g g' H H') (wn : ∀ a, g.W a → g.N a) : ∀ a o, H a = some o → ¬ g.N a → H' a = some o := fun a o h hn => e.keep a o h fun z => hn (wn a z)
theorem Evo.rp (e : Evo g g' H H') (wn : ∀ a, g.W a → g.N a) {v : V} {d : PyData} (h : Rp K g.N H v d) : Rp K g'.N H' v d := h.move (e.kp wn) (fun _ _ => e.seq) e.n
theorem Evo.rpA (e : Evo g g' H H') (wn : ∀ a, g.W a → g.N a) {vs : List V} {ds : List PyData} (h : RpA K g.N H vs ds) : RpA K g'.N H' vs ds := h.move (e.kp wn) (fun _ _ => e.seq) e.n
theorem Evo.rpX (e : Evo g g' H H') (wn : ∀ a, g.W a → g.N a) {v : V} {x : Vx} (h : RpX K g H v x) : RpX K g' H' v x := by
  cases x with
  | d d => exact e.rp wn h
  | z d => exact e.rp wn h
  | src => obtain ⟨a, rfl, h⟩ := h; exact ⟨a, rfl, e.sa a h⟩
  | srcc => obtain ⟨a, rfl, h⟩ := h; exact ⟨a, rfl, e.ca a h⟩
theorem Evo.top (e : Evo g g' H H') (wn : ∀ a, g.W a → g.N a) {a : Addr} (ha : ¬ g.W a) {d : PyData} (h : Top K g.N H a d) : Top K g'.N H' a d := by
  refine h.move ?_ (e.kp wn) (fun _ _ => e.seq) e.n
  cases q : H a with
  | none => exact absurd q h.nn
  | some o => exact e.keep a o q ha

/-- all that was tracked is as it was -/
theorem SrcOk.keep {SA CA : Addr → Prop} {o : Option Src} (h : SrcOk SA CA H o) (k : ∀ a o, H a = some o → H' a = some o) : SrcOk SA CA H' o := by
  cases o with
  | none => exact h
  | some s => obtain ⟨a, c, h1, h2, h3, h4, h5⟩ := h; exact ⟨a, c, h1, h2, h3, k _ _ h4, k _ _ h5⟩
theorem Evo.same (k : Same H H') : Evo g g H H' := ⟨fun _ h => .inl h, fun _ h => .inl h, fun _ h => h, fun _ h => h, fun _ h => h, fun a o h _ => k a o h, fun a xs h => k _ _ h, fun a o u h => k _ _ h, fun a h q => (by
  cases z : H a with
  | none => exact h z
  | some o => rw [k a o z] at q; cases q), fun _ h => .inl h⟩
theorem Same.sq (k : Same H H') {a : Addr} {xs : List V} (h : SqT K.k H a xs) : SqT K.k H' a xs := seq_keep (fun a xs h => k a _ h) (fun a o u h => k a _ h) h
theorem Rp.same (k : Same H H') {N : Addr → Prop} {v : V} {d : PyData} (h : Rp K N H v d) : Rp K N H' v d := h.move (fun a o e _ => k a o e) (fun _ _ => Same.sq k) fun _ z => .inl z
theorem RpA.same (k : Same H H') {N : Addr → Prop} {v : List V} {d : List PyData} (h : RpA K N H v d) : RpA K N H' v d := h.move (fun a o e _ => k a o e) (fun _ _ => Same.sq k) fun _ z => .inl z
theorem Top.same (k : Same H H') {N : Addr → Prop} {a : Addr} {d : PyData} (h : Top K N H a d) : Top K N H' a d := by
  refine h.move ?_ (fun a o e _ => k a o e) (fun _ _ => Same.sq k) fun _ z => .inl z
  cases q : H a with
  | none => exact absurd q h.nn
  | some o => exact k _ _ q
/-- more forbidden addresses that nothing stands at -/
theorem Rp.forbid {N N' : Addr → Prop} (hn : ∀ a, N' a → N a ∨ H a = none) {v : V} {d : PyData} (h : Rp K N H v d) : Rp K N' H v d := h.move (fun a o e _ => e) (fun _ _ h => h) hn
theorem RpA.forbid {N N' : Addr → Prop} (hn : ∀ a, N' a → N a ∨ H a = none) {v : List V} {d : List PyData} (h : RpA K N H v d) : RpA K N' H v d := h.move (fun a o e _ => e) (fun _ _ h => h) hn
theorem Top.forbid {N N' : Addr → Prop} (hn : ∀ a, N' a → N a ∨ H a = none) {a : Addr} {d : PyData} (h : Top K N H a d) : Top K N' H a d := h.move rfl (fun a o e _ => e) (fun _ _ h => h) hn

theorem SlotOk.same (k : Same H H') {i : Nat} {v : V} {x : Vx} (h : SlotOk K M g H i v x) : SlotOk K M g H' i v x := by
  cases x with
  | d d => exact ⟨fun c => let ⟨a, e, p, t⟩ := h.1 c; ⟨a, e, p, t.same k⟩, fun c => (h.2 c).same k⟩
  | z d => exact Rp.same k h
  | src => exact h
  | srcc => exact h
theorem Rel.same (k : Same H H') (r : Rel K M g s σ H) : Rel K M g s σ H' where
  slot := fun i x e => let ⟨v, h1, h2⟩ := r.slot i x e; ⟨v, h1, h2.same k⟩
  inj := r.inj
  sep := r.sep
  ex := fun a h => (Evo.same (g := g) k).grow a (r.ex a h)
  srN := r.srN
  src := r.src.keep k
  len := r.len

/-- an address locked -/
def G.lock (g : G) (a : Addr) : G := { g with N0 := fun b => g.N0 b ∨ b = a }
theorem G.lock_N {a b : Addr} : (g.lock a).N b ↔ g.N b ∨ b = a := by
  constructor
  · rintro ((h | h) | h)
    · exact .inl (.inl h)
    · exact .inr h
    · exact .inl (.inr h)
  · rintro ((h | h) | h)
    · exact .inl (.inl h)
    · exact .inr h
    · exact .inl (.inr h)
/-- a new thing at a: nothing of the state stands there -/
theorem Rel.fresh {a : Addr} (ha : H a = none) (r : Rel K M g s σ H) (k : Same H H') (ha' : H' a ≠ none) : Rel K M (g.lock a) s σ H' where
  slot := fun i x e => by
    obtain ⟨v, h1, h2⟩ := r.slot i x e
    refine ⟨v, h1, ?_⟩
    have hn : ∀ b, (g.lock a).N b → g.N b ∨ H b = none := fun b h => (G.lock_N.mp h).elim .inl fun z => .inr (by rw [z]; exact ha)
    cases x with
    | d d => exact ⟨fun c => let ⟨b, e, p, t⟩ := h2.1 c; ⟨b, e, p, (t.forbid hn).same k⟩, fun c => ((h2.2 c).forbid hn).same k⟩
    | z d => exact Rp.same k (Rp.forbid hn h2)
    | src => exact h2
    | srcc => exact h2
  inj := r.inj
  sep := fun i b h z => z.elim (r.sep i b h) fun q => r.ex b (.inr ⟨i, h⟩) (by rw [q]; exact ha)
  ex := fun b h => (G.lock_N.mp h).elim (fun z => (Evo.same (g := g) k).grow b (r.ex b z)) fun z => by rw [z]; exact ha'
  srN := fun b h => .inl (r.srN b h)
  src := r.src.keep k
  len := r.len

/-! ### slots -/
theorem env_set_len (l : List (Option Vx)) (i : Nat) (x : Option Vx) : (l.set i x).length = l.length := List.length_set
theorem get_set {α : Type} {l : List α} {i j : Nat} {x y : α} (h : (l.set i x)[j]? = some y) : (i = j ∧ x = y ∧ i < l.length) ∨ (i ≠ j ∧ l[j]? = some y) := by
  by_cases e : i = j
  · subst e
    by_cases hi : i < l.length
    · rw [List.getElem?_set_self hi] at h
      exact .inl ⟨rfl, Option.some.inj h, hi⟩
    · rw [List.getElem?_eq_none (by simpa using hi)] at h
      cases h
  · rw [List.getElem?_set_ne e] at h
    exact .inr ⟨e, h⟩

/-- the slot is given up: its thing is like any other from here on -/
def G.drop (g : G) (i : Nat) : G := { g with P := fun j => if j = i then none else g.P j }
theorem G.drop_N {i : Nat} {b : Addr} (h : (g.drop i).N b) : g.N b := by
  rcases h with h | ⟨j, h⟩
  · exact .inl h
  · refine .inr ⟨j, ?_⟩
    unfold G.drop at h
    simp only at h
    split at h
    · cases h
    · exact h
theorem G.drop_P {i j : Nat} {b : Addr} (h : (g.drop i).P j = some b) : j ≠ i ∧ g.P j = some b := by
  unfold G.drop at h
  simp only at h
  split at h
  · cases h
  · rename_i c; exact ⟨c, h⟩
theorem G.drop_W {i : Nat} {b : Addr} (h : (g.drop i).W b) : g.W b := by
  rcases h with ⟨j, h⟩ | h
  · exact .inl ⟨j, (G.drop_P h).2⟩
  · exact .inr h
theorem Evo.drop {i : Nat} : Evo g (g.drop i) H H := ⟨fun _ h => .inl (G.drop_N h), fun _ h => .inl (G.drop_W h), fun _ h => h, fun _ h => h, fun _ h => h, fun _ _ h _ => h, fun _ _ h => h, fun _ _ _ h => h, fun _ h => h, fun _ h => .inl h⟩
theorem SlotOk.drop {i j : Nat} {v : V} {x : Vx} (hj : j ≠ i) (h : SlotOk K M g H j v x) : SlotOk K M (g.drop i) H j v x := by
  have hn : ∀ a, (g.drop i).N a → g.N a ∨ H a = none := fun a h => .inl (G.drop_N h)
  cases x with
  | d d => exact ⟨fun c => let ⟨a, e, p, t⟩ := h.1 c; ⟨a, e, by unfold G.drop; simp only; rw [if_neg hj]; exact p, t.forbid hn⟩, fun c => (h.2 c).forbid hn⟩
  | z d => exact Rp.forbid hn h
  | src => exact h
  | srcc => exact h
/-- slot i emptied -/
theorem Rel.drop {i : Nat} (r : Rel K M g s σ H) : Rel K M (g.drop i) { s with env := s.env.set i none } σ H where
  slot := fun j x e => by
    rcases get_set e with ⟨_, z, _⟩ | ⟨hne, e⟩
    · cases z
    · obtain ⟨v, h1, h2⟩ := r.slot j x e
      exact ⟨v, h1, h2.drop (Ne.symm hne)⟩
  inj := fun a b c h1 h2 => r.inj a b c (G.drop_P h1).2 (G.drop_P h2).2
  sep := fun a b h => r.sep a b (G.drop_P h).2
  ex := fun a h => r.ex a (G.drop_N h)
  srN := r.srN
  src := r.src
  len := by rw [← r.len]; exact env_set_len _ _ _
/-- a slot's own thing, the slot given up -/
theorem Rel.taken {i : Nat} {d : PyData} {v : V} (r : Rel K M g s σ H) (e : s.env[i]? = some (some (.d d))) (ev : σ[i]? = some (some v)) (hm : M i = true ∧ isM d = true) :
    ∃ a, v = .ref a ∧ g.P i = some a ∧ Top K (g.drop i).N H a d ∧ ¬ (g.drop i).N a := by
  obtain ⟨v', h1, h2⟩ := r.slot i _ e
  rw [ev] at h1; cases h1
  obtain ⟨a, e, p, t⟩ := h2.1 hm
  refine ⟨a, e, p, t.forbid fun b h => .inl (G.drop_N h), fun h => ?_⟩
  rcases h with h | ⟨j, h⟩
  · exact r.sep i a p h
  · obtain ⟨h1, h2⟩ := G.drop_P h
    exact h1 (r.inj j i a h2 p)
/-- what a slot holds that is not owned -/
theorem Rel.plain {i : Nat} {x : Vx} {v : V} (r : Rel K M g s σ H) (e : s.env[i]? = some (some x)) (ev : σ[i]? = some (some v)) (hm : ∀ d, x = .d d → ¬ (M i = true ∧ isM d = true)) : RpX K g H v x := by
  obtain ⟨v', h1, h2⟩ := r.slot i _ e
  rw [ev] at h1; cases h1
  cases x with
  | d d => exact h2.2 (hm d rfl)
  | z d => exact h2
  | src => exact h2
  | srcc => exact h2
/-- a plain value put into a slot -/
theorem Rel.set {i : Nat} {x : Vx} {v : V} (r : Rel K M g s σ H) (hx : RpX K g H v x) (hm : ∀ d, x = .d d → ¬ (M i = true ∧ isM d = true)) : Rel K M (g.drop i) { s with env := s.env.set i (some x) } (σ.set i (some v)) H where
  slot := fun j y e => by
    rcases get_set e with ⟨h0, z, hi⟩ | ⟨hne, e⟩
    · subst h0
      cases z
      refine ⟨v, List.getElem?_set_self (by rw [← r.len]; exact hi), ?_⟩
      have hn : ∀ a, (g.drop i).N a → g.N a ∨ H a = none := fun a h => .inl (G.drop_N h)
      cases x with
      | d d => exact ⟨fun c => absurd c (hm d rfl), fun _ => Rp.forbid hn hx⟩
      | z d => exact Rp.forbid hn hx
      | src => exact hx
      | srcc => exact hx
    · obtain ⟨v', h1, h2⟩ := r.slot j y e
      exact ⟨v', (List.getElem?_set_ne hne).trans h1, h2.drop (Ne.symm hne)⟩
  inj := fun a b c h1 h2 => r.inj a b c (G.drop_P h1).2 (G.drop_P h2).2
  sep := fun a b h => r.sep a b (G.drop_P h).2
  ex := fun a h => r.ex a (G.drop_N h)
  srN := r.srN
  src := r.src
  len := by
    simp only [List.length_set]
    exact r.len
end
end Ev
/-! Ev3: expressions' readings; operands that are lent. -/
namespace Ev
open PySem PySem.Spec L2

/-- the defs as they are called, and how many turns a while may take -/
structure Fn where
  call : String → List Vx → Option Src → Option (Vx × Option Src)
  fuel : Nat
abbrev CE := Fn → S → Option (Vx × S)

/-- a new list or dict at v, which nothing else holds -/
def FreshX (K : KK) (M : Nat → Bool) (g : G) (s' : S) (σ : L2.St) (H H' : Hp) (v : V) (x : Vx) : Prop :=
  ∀ d, x = .d d → isM d = true → ∃ a g', v = .ref a ∧ H a = none ∧ Rel K M g' s' σ H' ∧ Evo g g' H H' ∧ g'.N0 a ∧ ¬ g'.SA a ∧ ¬ g'.CA a ∧ Top K g'.N H' a d
def TX (K : KK) (F : Fn) (M : Nat → Bool) (fr : Bool) (c : CE) : TE := fun σ H Q => ∃ g s x s', Rel K M g s σ H ∧ c F s = some (x, s') ∧
  ∀ v g' H', Rel K M g' s' σ H' → Evo g g' H H' → RpX K g' H' v x → (fr = true → FreshX K M g s' σ H H' v x) → Q v H'

/-- an operand: an expression, or a slot that is lent while the others are reckoned -/
inductive Opd where
  | e (c : CE) | pk (i : Nat) | sh (i : Nat)
def Opd.ev : Opd → Fn → S → Option (PyData × S × List (Nat × PyData))
  | .e c, F, s => match c F s with
    | some (.d d, s') => some (d, s', [])
    | _ => none
  | .pk i, _, s => match s.env[i]? with
    | some (some (.d d)) => if isM d then some (d, { s with env := s.env.set i none }, [(i, d)]) else some (d, s, [])
    | some (some (.z d)) => some (d, s, [])
    | _ => none
  | .sh i, _, s => match s.env[i]? with
    | some (some (.d d)) => some (d, { s with env := s.env.set i (some (.z d)) }, [])
    | some (some (.z d)) => some (d, s, [])
    | _ => none
def back (l : List (Nat × PyData)) (s : S) : S := l.foldr (fun p s => { s with env := s.env.set p.1 (some (.d p.2)) }) s
def evOps : List Opd → Fn → S → Option (List PyData × S × List (Nat × PyData))
  | [], _, s => some ([], s, [])
  | o :: os, F, s => match o.ev F s with
    | some (d, s1, l1) => match evOps os F s1 with
      | some (ds, s2, l2) => some (d :: ds, s2, l1 ++ l2)
      | none => none
    | none => none

/-- data that are read: they lie as any, or as a list or dict of a lent slot -/
def RpT (K : KK) (g : G) (H : Hp) (v : V) (d : PyData) : Prop := Rp K g.N H v d ∨ ∃ a, v = .ref a ∧ Top K g.N H a d ∧ ¬ g.W a
/-- what was lent can be given back -/
def Lent (K : KK) (M : Nat → Bool) (σ : L2.St) (g : G) (H : Hp) (l : List (Nat × PyData)) (g' : G) (H' : Hp) : Prop :=
  ∀ g2 s2 H2, Rel K M g2 s2 σ H2 → Evo g' g2 H' H2 → ∃ g3, Rel K M g3 (back l s2) σ H2 ∧ Evo g g3 H H2 ∧ (∀ a, g3.N a → g2.N a) ∧ g3.SA = g2.SA ∧ g3.CA = g2.CA ∧ ∀ b, H' b = none → g2.N0 b → g3.N0 b
/-- an operand's reading -/
def TP (K : KK) (F : Fn) (M : Nat → Bool) (o : Opd) : TE := fun σ H Q => ∃ g s d s' l, Rel K M g s σ H ∧ o.ev F s = some (d, s', l) ∧
  ∀ v g' H', Rel K M g' s' σ H' → Evo g g' H H' → RpT K g' H' v d → Lent K M σ g H l g' H' → Q v H'
/-- operands' readings -/
def TPA (K : KK) (F : Fn) (M : Nat → Bool) (os : List Opd) : TA := fun σ H Q => ∃ g s ds s' l, Rel K M g s σ H ∧ evOps os F s = some (ds, s', l) ∧
  ∀ vs g' H', Rel K M g' s' σ H' → Evo g g' H H' → Paired (RpT K g' H') vs ds → Lent K M σ g H l g' H' → Q vs H'

section
variable {K : KK} {M : Nat → Bool} {F : Fn} {g g' g'' : G} {s s' : S} {σ : L2.St} {H H' H'' : Hp}
theorem Lent.nil (e : Evo g g' H H') : Lent K M σ g H [] g' H' := fun g2 s2 H2 r f => ⟨g2, r, e.trans f, fun _ h => h, rfl, rfl, fun _ _ h => h⟩
theorem Lent.trans {l l' : List (Nat × PyData)} (gr : ∀ a, H' a ≠ none → H'' a ≠ none) (h : Lent K M σ g H l g' H') (h' : Lent K M σ g' H' l' g'' H'') : Lent K M σ g H (l ++ l') g'' H'' := fun g2 s2 H2 r f => by
  obtain ⟨g3, r3, f3, n3, a3, c3, k3⟩ := h' g2 s2 H2 r f
  obtain ⟨g4, r4, f4, n4, a4, c4, k4⟩ := h g3 _ H2 r3 f3
  refine ⟨g4, ?_, f4, fun a h => n3 a (n4 a h), a4.trans a3, c4.trans c3, fun b hb z => k4 b (none_back gr hb) (k3 b hb z)⟩
  have e : back (l ++ l') s2 = back l (back l' s2) := by unfold back; rw [List.foldr_append]
  rw [e]; exact r4
theorem Lent.ext {l : List (Nat × PyData)} (e : Evo g' g'' H' H'') (h : Lent K M σ g H l g' H') : Lent K M σ g H l g'' H'' := fun g2 s2 H2 r f => by
  obtain ⟨g3, r3, f3, n3, a3, c3, k3⟩ := h g2 s2 H2 r (e.trans f)
  exact ⟨g3, r3, f3, n3, a3, c3, fun b hb z => k3 b (none_back e.grow hb) z⟩

/-- a slot lent: locked, not to be seen -/
theorem lend {i : Nat} {d : PyData} (r : Rel K M g s σ H) (e : s.env[i]? = some (some (.d d))) (hm : M i = true ∧ isM d = true) :
    ∃ a, σ[i]? = some (some (.ref a)) ∧ Rel K M ((g.drop i).lock a) { s with env := s.env.set i none } σ H ∧ Evo g ((g.drop i).lock a) H H ∧ Top K ((g.drop i).lock a).N H a d ∧ ¬ ((g.drop i).lock a).W a ∧
      Lent K M σ g H [(i, d)] ((g.drop i).lock a) H := by
  obtain ⟨v, ev, _⟩ := r.slot i _ e
  obtain ⟨a, rfl, p, t, nN⟩ := r.taken e ev hm
  obtain ⟨_, _, hs⟩ := r.slot i _ e
  obtain ⟨a', ea, p', t0⟩ := hs.1 hm
  have haa : a' = a := by rw [p] at p'; exact (Option.some.inj p').symm
  subst haa
  have hN : ∀ b, ((g.drop i).lock a').N b → g.N b := fun b h => (G.lock_N.mp h).elim G.drop_N fun z => by rw [z]; exact .inr ⟨i, p⟩
  have hW : ∀ b, ((g.drop i).lock a').W b → g.W b := fun b h => G.drop_W (by
    rcases h with ⟨j, h⟩ | h
    · exact .inl ⟨j, h⟩
    · exact .inr h)
  have hev : Evo g ((g.drop i).lock a') H H := ⟨fun b h => .inl (hN b h), fun b h => .inl (hW b h), fun _ h => h, fun _ h => h, fun _ h => .inl h, fun _ _ h _ => h, fun _ _ h => h, fun _ _ _ h => h, fun _ h => h, fun _ h => .inl h⟩
  have nW : ¬ ((g.drop i).lock a').W a' := fun h => by
    rcases h with ⟨j, h⟩ | h
    · obtain ⟨h1, h2⟩ := G.drop_P (g := g) (i := i) (j := j) h
      exact h1 (r.inj j i a' h2 p)
    · exact r.sep i a' p (r.srN a' h)
  refine ⟨a', ev, ⟨fun j x ej => ?_, fun j k b h1 h2 => r.inj j k b (G.drop_P h1).2 (G.drop_P h2).2, fun j b h z => ?_, fun b h => r.ex b (hN b h), fun b h => .inl (r.srN b h), r.src, ?_⟩, hev, t0.forbid fun b h => .inl (hN b h), nW, ?_⟩
  · rcases get_set ej with ⟨_, z, _⟩ | ⟨hne, ej⟩
    · cases z
    · obtain ⟨v, h1, h2⟩ := r.slot j x ej
      refine ⟨v, h1, ?_⟩
      have hn : ∀ b, ((g.drop i).lock a').N b → g.N b ∨ H b = none := fun b h => .inl (hN b h)
      cases x with
      | d d' => exact ⟨fun c => let ⟨b, e, q, t⟩ := h2.1 c; ⟨b, e, by show (g.drop i).P j = some b; unfold G.drop; simp only; rw [if_neg (Ne.symm hne)]; exact q, t.forbid hn⟩, fun c => (h2.2 c).forbid hn⟩
      | z d => exact Rp.forbid hn h2
      | src => exact h2
      | srcc => exact h2
  · rcases z with z | z
    · exact r.sep j b (G.drop_P h).2 z
    · obtain ⟨h1, h2⟩ := G.drop_P h
      rw [z] at h2
      exact h1 (r.inj j i a' h2 p)
  · rw [env_set_len]; exact r.len
  · -- given back
    intro g2 s2 H2 r2 f
    have hl : g2.N0 a' := f.n0 a' (.inr rfl)
    have hk : H2 a' = H a' := by
      cases q : H a' with
      | none => exact absurd q t0.nn
      | some o => exact f.keep a' o q nW
    have wn : ∀ b, ((g.drop i).lock a').W b → ((g.drop i).lock a').N b := fun b h => by
      rcases h with h | h
      · exact .inr h
      · exact .inl (.inl (r.srN b h))
    have t2 : Top K g2.N H2 a' d := f.top wn nW (t0.forbid fun b h => .inl (hN b h))
    let g3 : G := { g2 with N0 := fun b => g2.N0 b ∧ b ≠ a', P := fun j => if j = i then some a' else g2.P j }
    have P3 : ∀ j b, g3.P j = some b → (j = i ∧ b = a') ∨ (j ≠ i ∧ g2.P j = some b) := fun j b h => by
      have h : (if j = i then some a' else g2.P j) = some b := h
      split at h
      · rename_i c; exact .inl ⟨c, (Option.some.inj h).symm⟩
      · rename_i c; exact .inr ⟨c, h⟩
    have N3 : ∀ b, g3.N b → g2.N b := fun b h => by
      rcases h with h | ⟨j, h⟩
      · exact .inl h.1
      · rcases P3 j b h with ⟨_, z⟩ | ⟨_, z⟩
        · rw [z]; exact .inl hl
        · exact .inr ⟨j, z⟩
    have nSA : ¬ (g2.SA a' ∨ g2.CA a') := fun h => by
      have hw : g2.W a' := .inr h
      rcases f.w a' hw with z | z
      · exact nW z
      · exact t0.nn z
    refine ⟨g3, ⟨fun j x ej => ?_, fun j k b h1 h2 => ?_, fun j b h z => ?_, fun b h => r2.ex b (N3 b h), fun b h => ⟨r2.srN b h, fun z => nSA (by rw [z] at h; exact h)⟩, r2.src, ?_⟩, ?_, N3, rfl, rfl, fun b hb z => ⟨z, fun q => t0.nn (by rw [← q]; exact hb)⟩⟩
    · have ej : (s2.env.set i (some (.d d)))[j]? = some (some x) := ej
      rcases get_set ej with ⟨h0, z, hi⟩ | ⟨hne, ej⟩
      · subst h0
        cases z
        exact ⟨.ref a', ev, fun _ => ⟨a', rfl, by show (if i = i then some a' else g2.P i) = some a'; rw [if_pos rfl], t2.forbid fun b h => .inl (N3 b h)⟩, fun c => absurd hm c⟩
      · obtain ⟨v, h1, h2⟩ := r2.slot j x ej
        refine ⟨v, h1, ?_⟩
        have hn : ∀ b, g3.N b → g2.N b ∨ H2 b = none := fun b h => .inl (N3 b h)
        cases x with
        | d d' => exact ⟨fun c => let ⟨b, e, q, t⟩ := h2.1 c; ⟨b, e, by show (if j = i then some a' else g2.P j) = some b; rw [if_neg (Ne.symm hne)]; exact q, t.forbid hn⟩, fun c => (h2.2 c).forbid hn⟩
        | z d => exact Rp.forbid hn h2
        | src => exact h2
        | srcc => exact h2
    · rcases P3 j b h1 with ⟨e1, z1⟩ | ⟨e1, z1⟩ <;> rcases P3 k b h2 with ⟨e2, z2⟩ | ⟨e2, z2⟩
      · rw [e1, e2]
      · exact absurd hl (by rw [← z1]; exact r2.sep k b z2)
      · exact absurd hl (by rw [← z2]; exact r2.sep j b z1)
      · exact r2.inj j k b z1 z2
    · rcases P3 j b h with ⟨_, q⟩ | ⟨_, q⟩
      · exact z.2 q
      · exact r2.sep j b q z.1
    · show (s2.env.set i (some (.d d))).length = σ.length
      rw [env_set_len]; exact r2.len
    · have ef := hev.trans f
      refine ⟨fun b h => ef.n b (N3 b h), fun b h => ?_, ef.sa, ef.ca, fun b h => ⟨ef.n0 b h, fun q => r.sep i a' p (by rw [← q]; exact h)⟩, ef.keep, ef.tup, ef.frz, ef.grow, ef.sr⟩
      rcases h with ⟨j, h⟩ | h
      · rcases P3 j b h with ⟨_, z⟩ | ⟨_, z⟩
        · rw [z]; exact .inl (.inl ⟨i, p⟩)
        · exact ef.w b (.inl ⟨j, z⟩)
      · exact ef.w b (.inr h)
theorem RpT.move (e : Evo g g' H H') (wn : ∀ a, g.W a → g.N a) {v : V} {d : PyData} (h : RpT K g H v d) : RpT K g' H' v d := by
  rcases h with h | ⟨a, rfl, t, nw⟩
  · exact .inl (e.rp wn h)
  · exact .inr ⟨a, rfl, e.top wn nw t, fun z => (e.w a z).elim nw t.nn⟩
end

theorem peI {X : Cx} {e : Expr} {t t' : TE} (h : PE X e t) (hi : ∀ σ H Q, t' σ H Q → t σ H Q) : PE X e t' := ⟨fun pins s σ H Q I q => h.run pins s σ H Q I (hi _ _ _ q)⟩
theorem paI {X : Cx} {e : List Expr} {t t' : TA} (h : PA X e t) (hi : ∀ σ H Q, t' σ H Q → t σ H Q) : PA X e t' := ⟨fun pos pins s σ H Q I q => h.run pos pins s σ H Q I (hi _ _ _ q)⟩
theorem ptI {X : Cx} {e : Expr} {t t' : TT} (h : PT X e t) (hi : ∀ σ H Q, t' σ H Q → t σ H Q) : PT X e t' := ⟨fun pins s σ H Q I q => h.run pins s σ H Q I (hi _ _ _ q)⟩
theorem psI {X : Cx} {e : Stmt} {t t' : TS} (h : PS X e t) (hi : ∀ D σ H, t' D σ H → t D σ H) : PS X e t' := ⟨fun pins s σ H Q I q => h.run pins s σ H Q I (hi _ _ _ q)⟩
theorem pssI {X : Cx} {e : List Stmt} {t t' : TS} (h : PSs X e t) (hi : ∀ D σ H, t' D σ H → t D σ H) : PSs X e t' := ⟨fun pins s σ H Q I q => h.run pins s σ H Q I (hi _ _ _ q)⟩

/-! ### what a reckoned value may be -/
/-- the data d are to lie at the value: as they are, or in a new place -/
def VR (K : KK) (N : Addr → Prop) (H : Hp) (d : PyData) (Q : VK) : Prop := ∀ v H', Same H H' → Rp K N H' v d → (isM d = true → ∃ a, v = .ref a ∧ H a = none ∧ Top K (fun b => N b ∨ b = a) H' a d) → Q v H'
/-- data that are read, whoever may write them -/
def RpV (K : KK) (N : Addr → Prop) (H : Hp) (v : V) (d : PyData) : Prop := Rp K N H v d ∨ ∃ a, v = .ref a ∧ Top K N H a d
def R2D (K : KK) (f : PyData → PyData → Option PyData) : R2 := fun x y H Q => ∃ N dx dy d, (∀ a, N a → H a ≠ none) ∧ RpV K N H x dx ∧ RpV K N H y dy ∧ f dx dy = some d ∧ VR K N H d Q
def RnD (K : KK) (f : List PyData → Option PyData) : List V → Hp → VK → Prop := fun vs H Q => ∃ N ds d, (∀ a, N a → H a ≠ none) ∧ Paired (RpV K N H) vs ds ∧ f ds = some d ∧ VR K N H d Q
section
variable {K : KK} {M : Nat → Bool} {F : Fn} {g g' : G} {s s' : S} {σ : L2.St} {H H' : Hp}
theorem RpT.v {v : V} {d : PyData} (h : RpT K g H v d) : RpV K g.N H v d := h.imp id fun ⟨a, e, t, _⟩ => ⟨a, e, t⟩
/-- behind an operation: what was lent is given back -/
theorem fin_op {l : List (Nat × PyData)} {fr : Bool} {d : PyData} {Q : VK} (r : Rel K M g' s σ H') (L : Lent K M σ g H l g' H') (e : Evo g g' H H')
    (q : ∀ v g2 H2, Rel K M g2 (back l s) σ H2 → Evo g g2 H H2 → RpX K g2 H2 v (.d d) → (fr = true → FreshX K M g (back l s) σ H H2 v (.d d)) → Q v H2) : VR K g'.N H' d Q := by
  intro v H2 k rp fr'
  obtain ⟨g3, r3, e3, n3, _, _, _⟩ := L g' s H2 (r.same k) (Evo.same k)
  refine q v g3 H2 r3 e3 (Rp.forbid (fun a h => .inl (n3 a h)) rp) fun _ d' ed hd => ?_
  cases ed
  obtain ⟨a, rfl, ha, t⟩ := fr' hd
  have hx := r.fresh ha k t.nn
  have ev : Evo g' (g'.lock a) H' H2 := by
    have e1 : Evo g' g' H' H2 := Evo.same k
    refine ⟨fun b h => (G.lock_N.mp h).elim .inl fun z => .inr (by rw [z]; exact ha), fun b h => ?_, fun _ h => h, fun _ h => h, fun _ h => .inl h, e1.keep, e1.tup, e1.frz, e1.grow, fun _ h => .inl h⟩
    rcases h with ⟨j, h⟩ | h
    · exact .inl (.inl ⟨j, h⟩)
    · exact .inl (.inr h)
  obtain ⟨g4, r4, e4, n4, sa4, ca4, k4⟩ := L (g'.lock a) s H2 hx ev
  have hna : ¬ (g'.SA a ∨ g'.CA a) := fun z => r.ex a (.inl (r.srN a z)) ha
  refine ⟨a, g4, rfl, none_back e.grow ha, r4, e4, k4 a ha (.inr rfl), fun z => hna (.inl (by have z' := z; rw [sa4] at z'; exact z')), fun z => hna (.inr (by have z' := z; rw [ca4] at z'; exact z')), t.forbid fun b h => .inl ?_⟩
  exact (G.lock_N.mp (n4 b h)).elim .inl .inr
end
section
variable {X : Cx} {M : Nat → Bool} {F : Fn} {a b e : Expr} {es : List Expr} {pos p : Pos}
/-- an expression as an operand -/
theorem op_e {c : CE} {fr : Bool} (h : PE X a (TX X.kk F M fr c)) : PE X a (TP X.kk F M (.e c)) := peI h fun σ H Q ⟨g, s, d, s', l, r, e, q⟩ => by
  unfold Opd.ev at e
  simp only at e
  split at e
  · rename_i d' s2 ec
    cases e
    exact ⟨g, s, .d d, s', r, ec, fun v g' H' r' ev rp _ => q v g' H' r' ev (.inl rp) (Lent.nil ev)⟩
  · cases e
/-- a slot as an operand: lent -/
theorem op_pk {i : Nat} {x : Str} (hN : X.N[i]? = some x) (hv : Vis X.env.scope x) (hm : M i = true) (hd : (x == ("__debug__" : Str)) = false := by decide) (hcd : (x == ("__classdict__" : Str)) = false := by decide) : PE X (.Name x pos) (TP X.kk F M (.pk i)) := peI (pe_var hN hv hd hcd) fun σ H Q ⟨g, s, d, s', l, r, e, q⟩ => by
  unfold Opd.ev at e
  simp only at e
  split at e
  · rename_i d' e1
    split at e
    · rename_i hmd
      cases e
      obtain ⟨a, ev, r2, e2, t, nw, L⟩ := lend r e1 ⟨hm, hmd⟩
      exact ⟨_, ev, q _ _ _ r2 e2 (.inr ⟨a, rfl, t, nw⟩) L⟩
    · rename_i hmd
      cases e
      obtain ⟨v, ev, hs⟩ := r.slot i _ e1
      exact ⟨v, ev, q v g H r Evo.refl (.inl (hs.2 fun z => hmd z.2)) (Lent.nil Evo.refl)⟩
  · rename_i d' e1
    cases e
    obtain ⟨v, ev, hs⟩ := r.slot i _ e1
    exact ⟨v, ev, q v g H r Evo.refl (.inl hs) (Lent.nil Evo.refl)⟩
  · cases e
/-- the slot's thing given free: from here on it is read alone -/
theorem Rel.free {K : KK} {M : Nat → Bool} {g : G} {s : S} {σ : L2.St} {H : Hp} {i : Nat} {d : PyData} {v : V} (r : Rel K M g s σ H) (ev : σ[i]? = some (some v)) (hv : Rp K (g.drop i).N H v d) : Rel K M (g.drop i) { s with env := s.env.set i (some (.z d)) } σ H where
  slot := fun j y e => by
    rcases get_set e with ⟨h0, z, hi⟩ | ⟨hne, e⟩
    · subst h0
      cases z
      exact ⟨v, ev, hv⟩
    · obtain ⟨v', h1, h2⟩ := r.slot j y e
      exact ⟨v', h1, h2.drop (Ne.symm hne)⟩
  inj := fun a b c h1 h2 => r.inj a b c (G.drop_P h1).2 (G.drop_P h2).2
  sep := fun a b h => r.sep a b (G.drop_P h).2
  ex := fun a h => r.ex a (G.drop_N h)
  srN := r.srN
  src := r.src
  len := by rw [← r.len]; exact env_set_len _ _ _
/-- a slot as an operand, given free -/
theorem op_sh {i : Nat} {x : Str} (hN : X.N[i]? = some x) (hv : Vis X.env.scope x) (hd : (x == ("__debug__" : Str)) = false := by decide) (hcd : (x == ("__classdict__" : Str)) = false := by decide) : PE X (.Name x pos) (TP X.kk F M (.sh i)) := peI (pe_var hN hv hd hcd) fun σ H Q ⟨g, s, d, s', l, r, e, q⟩ => by
  unfold Opd.ev at e
  simp only at e
  split at e
  · rename_i d' e1
    cases e
    obtain ⟨v, ev, hs⟩ := r.slot i _ e1
    by_cases hm : M i = true ∧ isM d = true
    · obtain ⟨a, rfl, p, t, nN⟩ := r.taken e1 ev hm
      have rp := t.rp nN
      exact ⟨_, ev, q _ (g.drop i) H (r.free ev rp) Evo.drop (.inl rp) (Lent.nil Evo.drop)⟩
    · have rp : Rp X.kk (g.drop i).N H v d := (hs.2 hm).forbid fun b h => .inl (G.drop_N h)
      exact ⟨_, ev, q _ (g.drop i) H (r.free ev rp) Evo.drop (.inl rp) (Lent.nil Evo.drop)⟩
  · rename_i d' e1
    cases e
    obtain ⟨v, ev, hs⟩ := r.slot i _ e1
    exact ⟨v, ev, q v g H r Evo.refl (.inl hs) (Lent.nil Evo.refl)⟩
  · cases e
theorem ops_nil : PA X [] (TPA X.kk F M []) := paI pa_nil fun σ H Q ⟨g, s, ds, s', l, r, e, q⟩ => by
  cases e
  exact q [] g H r Evo.refl .nil (Lent.nil Evo.refl)
theorem ops_cons {o : Opd} {os : List Opd} (ha : PE X e (TP X.kk F M o)) (hr : PA X es (TPA X.kk F M os)) (hs : starEach (e :: es) X.env = (false, eval e X.env) :: starEach es X.env := by rfl) : PA X (e :: es) (TPA X.kk F M (o :: os)) :=
  paI (pa_cons ha hr hs) fun σ H Q ⟨g, s, ds, s', l, r, ev, q⟩ => by
    unfold evOps at ev
    split at ev
    · rename_i d s1 l1 e1
      split at ev
      · rename_i ds2 s2 l2 e2
        cases ev
        refine ⟨g, s, d, s1, l1, r, e1, fun v g1 H1 r1 v1 rp1 L1 => ⟨g1, s1, ds2, s', l2, r1, e2, fun vs g2 H2 r2 v2 rp2 L2 => ?_⟩⟩
        exact q (v :: vs) g2 H2 r2 (v1.trans v2) (.cons (rp1.move v2 r1.wn) rp2) (L1.trans v2.grow L2)
      · cases ev
    · cases ev
/-! ### operators, built-ins by values -/
def cBin (f : PyData → PyData → Option PyData) (a b : Opd) : CE := fun F s => match a.ev F s with
  | some (d1, s1, l1) => match b.ev F s1 with
    | some (d2, s2, l2) => match f d1 d2 with
      | some d => some (.d d, back (l1 ++ l2) s2)
      | none => none
    | none => none
  | none => none
theorem tx_bin {oa ob : Opd} {f : PyData → PyData → Option PyData} {σ : L2.St} {H : Hp} {Q : VK} (h : TX X.kk F M true (cBin f oa ob) σ H Q) : tOp (R2D X.kk f) (TP X.kk F M oa) (TP X.kk F M ob) σ H Q := by
  obtain ⟨g, s, x, s', r, ev, q⟩ := h
  unfold cBin at ev
  split at ev
  · rename_i d1 s1 l1 e1
    split at ev
    · rename_i d2 s2 l2 e2
      split at ev
      · rename_i d e3
        cases ev
        refine ⟨g, s, d1, s1, l1, r, e1, fun v1 g1 H1 r1 v1' rp1 L1 => ⟨g1, s1, d2, s2, l2, r1, e2, fun v2 g2 H2 r2 v2' rp2 L2 => ?_⟩⟩
        exact ⟨g2.N, d1, d2, d, r2.ex, (rp1.move v2' r1.wn).v, rp2.v, e3, fin_op r2 (L1.trans v2'.grow L2) (v1'.trans v2') q⟩
      · cases ev
    · cases ev
  · cases ev
theorem sx_bin {op : Operator} {f : PyData → PyData → Option PyData} {oa ob : Opd} (ho : OpR X (binaryOp op) (R2D X.kk f)) (ha : PE X a (TP X.kk F M oa)) (hb : PE X b (TP X.kk F M ob)) : PE X (.BinOp a op b pos) (TX X.kk F M true (cBin f oa ob)) :=
  peI (pe_op ho ha hb) fun _ _ _ h => tx_bin h
theorem sx_cmp {op : CmpOp} {f : PyData → PyData → Option PyData} {oa ob : Opd} (ho : OpR X (compareOp op) (R2D X.kk f)) (ha : PE X a (TP X.kk F M oa)) (hb : PE X b (TP X.kk F M ob)) (hm : behindInMarks op b = false) : PE X (.Compare a [op] [b] pos) (TX X.kk F M true (cBin f oa ob)) :=
  peI (pe_cmpR ho ha hb hm) fun _ _ _ h => tx_bin h
theorem sx_ix {f : PyData → PyData → Option PyData} {oa ob : Opd} (ho : IxR X (R2D X.kk f)) (ha : PE X a (TP X.kk F M oa)) (hb : PE X b (TP X.kk F M ob)) (hs : PlainIx b) : PE X (.Subscript a b pos) (TX X.kk F M true (cBin f oa ob)) :=
  peI (pe_ix ho ha hb hs) fun _ _ _ h => tx_bin h
/-- a built-in's call -/
def cNat (f : List PyData → Option PyData) (os : List Opd) : CE := fun F s => match evOps os F s with
  | some (ds, s1, l) => match f ds with
    | some d => some (.d d, back l s1)
    | none => none
  | none => none
theorem tx_nat {os : List Opd} {f : List PyData → Option PyData} {σ : L2.St} {H : Hp} {Q : VK} (h : TX X.kk F M true (cNat f os) σ H Q) : tCB (RnD X.kk f) (TPA X.kk F M os) σ H Q := by
  obtain ⟨g, s, x, s', r, ev, q⟩ := h
  unfold cNat at ev
  split at ev
  · rename_i ds s1 l e1
    split at ev
    · rename_i d e3
      cases ev
      refine ⟨g, s, ds, s1, l, r, e1, fun vs g1 H1 r1 v1' rp1 L1 => ?_⟩
      exact ⟨g1.N, ds, d, r1.ex, Paired.mapP rp1 fun _ _ z => z.v, e3, fin_op r1 L1 v1' q⟩
    · cases ev
  · cases ev
end
end Ev
/-! Ev4: names, constants, displays, tests, conditional expressions. -/
namespace Ev
open PySem PySem.Spec L2

section
variable {X : Cx} {M : Nat → Bool} {F : Fn} {a b c e : Expr} {es : List Expr} {pos p : Pos}

/-! ### names and constants -/
/-- the name in slot i; m: is it of those that are changed in place (then it is given up) -/
def cVar (m : Bool) (i : Nat) : CE := fun _ s => match s.env[i]? with
  | some (some (.d d)) => if m && isM d then some (.d d, { s with env := s.env.set i none }) else some (.d d, s)
  | some (some (.z d)) => some (.d d, s)
  | some (some .src) => some (.src, s)
  | some (some .srcc) => some (.srcc, s)
  | _ => none
theorem sx_var {i : Nat} {x : Str} {m : Bool} (hN : X.N[i]? = some x) (hv : Vis X.env.scope x) (hm : M i = m) (hd : (x == ("__debug__" : Str)) = false := by decide) (hcd : (x == ("__classdict__" : Str)) = false := by decide) : PE X (.Name x pos) (TX X.kk F M false (cVar m i)) :=
  peI (pe_var hN hv hd hcd) fun σ H Q ⟨g, s, x, s', r, e, q⟩ => by
    unfold cVar at e
    split at e
    · rename_i d e1
      obtain ⟨v, ev, hs⟩ := r.slot i _ e1
      split at e
      · rename_i hmd
        cases e
        rw [Bool.and_eq_true] at hmd
        have hmi : M i = true ∧ isM d = true := ⟨hm.trans hmd.1, hmd.2⟩
        obtain ⟨a, rfl, p, t, nN⟩ := r.taken e1 ev hmi
        exact ⟨_, ev, q _ (g.drop i) H r.drop Evo.drop (t.rp nN) fun z => nomatch z⟩
      · rename_i hmd
        cases e
        have hmi : ¬ (M i = true ∧ isM d = true) := fun z => hmd (by rw [Bool.and_eq_true]; exact ⟨hm.symm.trans z.1, z.2⟩)
        exact ⟨v, ev, q v g H r Evo.refl (hs.2 hmi) fun z => nomatch z⟩
    · rename_i d e1
      cases e
      obtain ⟨v, ev, hs⟩ := r.slot i _ e1
      exact ⟨v, ev, q v g H r Evo.refl hs fun z => nomatch z⟩
    · rename_i e1
      cases e
      obtain ⟨v, ev, hs⟩ := r.slot i _ e1
      exact ⟨v, ev, q v g H r Evo.refl hs fun z => nomatch z⟩
    · rename_i e1
      cases e
      obtain ⟨v, ev, hs⟩ := r.slot i _ e1
      exact ⟨v, ev, q v g H r Evo.refl hs fun z => nomatch z⟩
    · cases e
def cC (d : PyData) : CE := fun _ s => some (.d d, s)
theorem tx_c {d : PyData} {v : V} (hr : ∀ (N : Addr → Prop) (H : Hp), Rp X.kk N H v d) (hd : isM d = false) {σ : L2.St} {H : Hp} {Q : VK} (h : TX X.kk F M true (cC d) σ H Q) : tC v σ H Q := by
  obtain ⟨g, s, x, s', r, e, q⟩ := h
  cases e
  exact q v g H r Evo.refl (hr _ _) fun _ d' e' h => by cases e'; rw [hd] at h; cases h
theorem sx_int {i j} : PE X (.Constant (.int i) j pos) (TX X.kk F M true (cC (.int i))) := peI pe_int fun _ _ _ h => tx_c (fun _ _ => .int i) rfl h
theorem sx_bl {i j} : PE X (.Constant (.bool i) j pos) (TX X.kk F M true (cC (.bool i))) := peI pe_bl fun _ _ _ h => tx_c (fun _ _ => .bl i) rfl h
theorem sx_non {j} : PE X (.Constant .none j pos) (TX X.kk F M true (cC .none)) := peI pe_non fun _ _ _ h => tx_c (fun _ _ => .non) rfl h
theorem sx_str {i j} : PE X (.Constant (.str i) j pos) (TX X.kk F M true (cC (.str i))) := peI pe_str fun _ _ _ h => tx_c (fun _ _ => .str i) rfl h
/-- to forget that it is new -/
theorem sx_any {c : CE} {fr : Bool} (h : PE X e (TX X.kk F M fr c)) : PE X e (TX X.kk F M false c) := peI h fun σ H Q ⟨g, s, x, s', r, ev, q⟩ => ⟨g, s, x, s', r, ev, fun v g' H' r' e' rp _ => q v g' H' r' e' rp fun z => nomatch z⟩

/-! ### argument lists, displays -/
def evArgs : List CE → Fn → S → Option (List Vx × S)
  | [], _, s => some ([], s)
  | c :: cs, F, s => match c F s with
    | some (x, s1) => match evArgs cs F s1 with
      | some (xs, s2) => some (x :: xs, s2)
      | none => none
    | none => none
def TXA (K : KK) (F : Fn) (M : Nat → Bool) (cs : List CE) : TA := fun σ H Q => ∃ g s xs s', Rel K M g s σ H ∧ evArgs cs F s = some (xs, s') ∧
  ∀ vs g' H', Rel K M g' s' σ H' → Evo g g' H H' → Paired (RpX K g' H') vs xs → Q vs H'
theorem as_nil : PA X [] (TXA X.kk F M []) := paI pa_nil fun σ H Q ⟨g, s, ds, s', r, e, q⟩ => by
  cases e
  exact q [] g H r Evo.refl .nil
theorem as_cons {c : CE} {cs : List CE} {fr : Bool} (ha : PE X e (TX X.kk F M fr c)) (hr : PA X es (TXA X.kk F M cs)) (hs : starEach (e :: es) X.env = (false, eval e X.env) :: starEach es X.env := by rfl) : PA X (e :: es) (TXA X.kk F M (c :: cs)) :=
  paI (pa_cons ha hr hs) fun σ H Q ⟨g, s, xs, s', r, ev, q⟩ => by
    unfold evArgs at ev
    split at ev
    · rename_i x s1 e1
      split at ev
      · rename_i ys s2 e2
        cases ev
        refine ⟨g, s, x, s1, r, e1, fun v g1 H1 r1 v1 rp1 _ => ⟨g1, s1, ys, s', r1, e2, fun vs g2 H2 r2 v2 rp2 => ?_⟩⟩
        exact q (v :: vs) g2 H2 r2 (v1.trans v2) (.cons (v2.rpX r1.wn rp1) rp2)
      · cases ev
    · cases ev
def allD : List Vx → Option (List PyData)
  | [] => some []
  | .d d :: r => match allD r with
    | some ds => some (d :: ds)
    | none => none
  | _ :: _ => none
theorem allD_rp {K : KK} {g : G} {H : Hp} : ∀ {vs : List V} {xs : List Vx} {ds : List PyData}, Paired (RpX K g H) vs xs → allD xs = some ds → RpA K g.N H vs ds
  | _, _, _, .nil, e => by cases e; exact .nil
  | _, .d d :: r, ds, .cons h t, e => by
    unfold allD at e
    split at e
    · rename_i ds' e'
      cases e
      exact .cons h (allD_rp t e')
    · cases e
  | _, .src :: r, ds, .cons h t, e => by cases e
  | _, .srcc :: r, ds, .cons h t, e => by cases e
  | _, .z _ :: r, ds, .cons h t, e => by cases e
theorem vr_tup {K : KK} {N : Addr → Prop} {H : Hp} {xs : List V} {ds : List PyData} {Q : VK} (r : RpA K N H xs ds) (h : VR K N H (.tuple ds) Q) {p : Addr} (hp : H p = none) : Q (.ref p) (upd H p (.tup xs)) := by
  have k : Same H (upd H p (.tup xs)) := fun b o e => by rw [upd_ne (ne_of_none e hp)]; exact e
  exact h _ _ k (.tup (.inl (.inl upd_same)) (r.same k)) fun z => nomatch z
theorem vr_lst {K : KK} {N : Addr → Prop} {H : Hp} {xs : List V} {ds : List PyData} {Q : VK} (hN : ∀ a, N a → H a ≠ none) (r : RpA K N H xs ds) (h : VR K N H (.list ds) Q) {p : Addr} (hp : H p = none) : Q (.ref p) (upd H p (.lst xs)) := by
  have k : Same H (upd H p (.lst xs)) := fun b o e => by rw [upd_ne (ne_of_none e hp)]; exact e
  have r1 : RpA K (fun b => N b ∨ b = p) H xs ds := r.forbid fun a h => h.imp id fun z => by rw [z]; exact hp
  exact h _ _ k (.lst (.inl upd_same) (fun z => hN p z hp) (r.same k)) fun _ => ⟨p, rfl, hp, xs, upd_same, r1.same k⟩
theorem vr_val {K : KK} {N : Addr → Prop} {H : Hp} {v : V} {d : PyData} {Q : VK} (r : Rp K N H v d) (hd : isM d = false) (h : VR K N H d Q) : Q v H := h v H (fun _ _ e => e) r fun z => by rw [hd] at z; cases z
/-- (a, b ..), [a, b ..] -/
def cDisp (t : Bool) (cs : List CE) : CE := fun F s => match evArgs cs F s with
  | some (xs, s1) => match allD xs with
    | some ds => if ds.length ≤ sizeLine then some (.d (if t then .tuple ds else .list ds), s1) else none
    | none => none
  | none => none
theorem sx_tup {cs : List CE} {k : Nat} (h : PA X es (TXA X.kk F M cs)) : PE X (.Tuple es k pos) (TX X.kk F M true (cDisp true cs)) := peI (pe_tup h) fun σ H Q ⟨g, s, x, s', r, e, q⟩ => by
  unfold cDisp at e
  split at e
  · rename_i xs s1 e1
    split at e
    · rename_i ds e2
      split at e
      · rename_i hl
        cases e
        refine ⟨g, s, xs, _, r, e1, fun vs g1 H1 r1 v1 rp => ?_⟩
        have ra := allD_rp rp e2
        exact ⟨by rw [ra.length]; exact hl, fun p hp => vr_tup ra (fin_op r1 (Lent.nil v1) v1 q) hp⟩
      · cases e
    · cases e
  · cases e
theorem sx_lst {cs : List CE} (h : PA X es (TXA X.kk F M cs)) : PE X (.List es pos) (TX X.kk F M true (cDisp false cs)) := peI (pe_lst h) fun σ H Q ⟨g, s, x, s', r, e, q⟩ => by
  unfold cDisp at e
  split at e
  · rename_i xs s1 e1
    split at e
    · rename_i ds e2
      split at e
      · rename_i hl
        cases e
        refine ⟨g, s, xs, _, r, e1, fun vs g1 H1 r1 v1 rp => ?_⟩
        have ra := allD_rp rp e2
        exact ⟨by rw [ra.length]; exact hl, fun p hp => vr_lst r1.ex ra (fin_op r1 (Lent.nil v1) v1 q) hp⟩
      · cases e
    · cases e
  · cases e

/-! ### tests -/
abbrev CB := Fn → S → Option (Bool × S)
def TB (K : KK) (F : Fn) (M : Nat → Bool) (c : CB) : TT := fun σ H Q => ∃ g s b s', Rel K M g s σ H ∧ c F s = some (b, s') ∧ ∀ g' H', Rel K M g' s' σ H' → Evo g g' H H' → Q b H'
/-- a bool's value -/
def bOf (c : CE) : CB := fun F s => match c F s with
  | some (.d (.bool b), s') => some (b, s')
  | _ => none
theorem tb_of {c : CE} {fr : Bool} {σ : L2.St} {H : Hp} {Q : Bool → Hp → Prop} (h : TB X.kk F M (bOf c) σ H Q) : TX X.kk F M fr c σ H fun x H1 => ∃ k, x = .bl k ∧ Q k H1 := by
  obtain ⟨g, s, b, s', r, e, q⟩ := h
  unfold bOf at e
  split at e
  · rename_i b' s1 e1
    cases e
    refine ⟨g, s, _, s', r, e1, fun v g' H' r' e' rp _ => ?_⟩
    cases rp
    exact ⟨_, rfl, q g' H' r' e'⟩
  · cases e
/-- a comparison as a test -/
theorem tb_cmp {op : CmpOp} {f : PyData → PyData → Option PyData} {oa ob : Opd} (ho : OpR X (compareOp op) (R2D X.kk f)) (ha : PE X a (TP X.kk F M oa)) (hb : PE X b (TP X.kk F M ob)) (hm : behindInMarks op b = false) : PT X (.Compare a [op] [b] pos) (TB X.kk F M (bOf (cBin f oa ob))) :=
  ptI (pt_cmpR ho ha hb hm) fun σ H Q h => tx_bin (tb_of h)
/-- a value's truth -/
def truD : PyData → Option Bool
  | .none => some false
  | .bool b => some b
  | .int i => some (i != 0)
  | .str x => if x.length ≤ sizeLine then some ((x.length : Int) != 0) else none
  | .list xs => some (!xs.isEmpty)
  | .tuple xs => some (!xs.isEmpty)
  | .dict _ => none
def bTru (o : Opd) : CB := fun F s => match o.ev F s with
  | some (d, s1, l) => match truD d with
    | some b => some (b, back l s1)
    | none => none
  | none => none
theorem RpA.isEmpty {K : KK} {N : Addr → Prop} {H : Hp} {vs : List V} {ds : List PyData} (h : RpA K N H vs ds) : vs.isEmpty = ds.isEmpty := by cases h <;> rfl
theorem RpV.lst {K : KK} {N : Addr → Prop} {H : Hp} {v : V} {ds : List PyData} (h : RpV K N H v (.list ds)) : ∃ a xs, v = .ref a ∧ SqL K.k H a xs ∧ RpA K N H xs ds := by
  rcases h with h | ⟨a, rfl, xs, e, r⟩
  · cases h with
    | lst h1 h2 h3 => exact ⟨_, _, rfl, .inl h1, h3⟩
    | lstK h1 h2 h3 h4 => exact ⟨_, _, rfl, Lr.sq (.inr ⟨_, _, h1, h2, h3⟩), h4⟩
  · exact ⟨a, xs, rfl, .inl (.inl e), r⟩
theorem RpV.tup {K : KK} {N : Addr → Prop} {H : Hp} {v : V} {ds : List PyData} (h : RpV K N H v (.tuple ds)) : ∃ a xs, v = .ref a ∧ SqT K.k H a xs ∧ RpA K N H xs ds := by
  rcases h with h | ⟨a, rfl, h⟩
  · cases h with
    | tup h1 h2 => exact ⟨_, _, rfl, h1, h2⟩
  · exact h.elim
theorem RpV.int {K : KK} {N : Addr → Prop} {H : Hp} {v : V} {i : Int} (h : RpV K N H v (.int i)) : v = .int i := by
  rcases h with h | ⟨a, rfl, h⟩
  · cases h; rfl
  · exact h.elim
theorem RpV.bl {K : KK} {N : Addr → Prop} {H : Hp} {v : V} {i : Bool} (h : RpV K N H v (.bool i)) : v = .bl i := by
  rcases h with h | ⟨a, rfl, h⟩
  · cases h; rfl
  · exact h.elim
theorem RpV.str {K : KK} {N : Addr → Prop} {H : Hp} {v : V} {i : Str} (h : RpV K N H v (.str i)) : v = .str i := by
  rcases h with h | ⟨a, rfl, h⟩
  · cases h; rfl
  · exact h.elim
theorem RpV.non {K : KK} {N : Addr → Prop} {H : Hp} {v : V} (h : RpV K N H v .none) : v = .non := by
  rcases h with h | ⟨a, rfl, h⟩
  · cases h; rfl
  · exact h.elim
theorem truV_of {K : KK} {N : Addr → Prop} {H : Hp} {v : V} {d : PyData} {b : Bool} (h : RpV K N H v d) (e : truD d = some b) : TruV K.k v H b := by
  cases d with
  | none => cases e; rw [h.non]; rfl
  | bool b => cases e; rw [h.bl]; rfl
  | int i => cases e; rw [h.int]; rfl
  | str x =>
    unfold truD at e
    simp only at e
    split at e
    · rename_i hl
      cases e
      rw [h.str]
      exact ⟨hl, rfl⟩
    · cases e
  | list xs =>
    cases e
    obtain ⟨a, vs, rfl, hs, r⟩ := h.lst
    exact .inl ⟨vs, hs, by rw [r.isEmpty]⟩
  | tuple xs =>
    cases e
    obtain ⟨a, vs, rfl, hs, r⟩ := h.tup
    exact .inr (.inl ⟨vs, hs, by rw [r.isEmpty]⟩)
  | dict _ => cases e
theorem tb_tru {o : Opd} (ha : PE X a (TP X.kk F M o)) (he : ∀ whole, isTrue a X.env whole = (do let v ← whole; standAt a.pos; holding [v] (truthy v))) : PT X a (TB X.kk F M (bTru o)) :=
  ptI (pt_truth ha he) fun σ H Q ⟨g, s, b, s', r, e, q⟩ => by
    unfold bTru at e
    split at e
    · rename_i d s1 l e1
      split at e
      · rename_i b' e2
        cases e
        refine ⟨g, s, d, s1, l, r, e1, fun v g1 H1 r1 v1 rp L => ⟨b, truV_of rp.v e2, ?_⟩⟩
        obtain ⟨g3, r3, e3, _⟩ := L g1 s1 H1 r1 Evo.refl
        exact q g3 H1 r3 e3
      · cases e
    · cases e
def bNot (c : CB) : CB := fun F s => match c F s with
  | some (b, s') => some (!b, s')
  | none => none
def bAnd (c d : CB) : CB := fun F s => match c F s with
  | some (true, s') => d F s'
  | some (false, s') => some (false, s')
  | none => none
def bOr (c d : CB) : CB := fun F s => match c F s with
  | some (false, s') => d F s'
  | some (true, s') => some (true, s')
  | none => none
theorem tb_not {cb : CB} (h : PT X a (TB X.kk F M cb)) : PT X (.UnaryOp .Not a pos) (TB X.kk F M (bNot cb)) := ptI (pt_not h) fun σ H Q ⟨g, s, b, s', r, e, q⟩ => by
  unfold bNot at e
  split at e
  · rename_i b' s1 e1
    cases e
    exact ⟨g, s, b', s', r, e1, q⟩
  · cases e
structure PWw (X : Cx) (e : Expr) (t : TT) : Prop where
  pw : PW X e t
theorem tb_and1 {cb : CB} (h : PT X a (TB X.kk F M cb)) : PW X (.BoolOp .And [a] pos) (TB X.kk F M cb) := pw_and1 h
theorem tb_or1 {cb : CB} (h : PT X a (TB X.kk F M cb)) : PW X (.BoolOp .Or [a] pos) (TB X.kk F M cb) := pw_or1 h
theorem pwI {e : Expr} {t t' : TT} (h : PW X e t) (hi : ∀ σ H Q, t' σ H Q → t σ H Q) : PW X e t' := ⟨fun wh pins s σ H Q I q => h.run wh pins s σ H Q I (hi _ _ _ q)⟩
theorem tb_and {cb cd : CB} {rest : List Expr} (h : PT X a (TB X.kk F M cb)) (h2 : PW X (.BoolOp .And (b :: rest) pos) (TB X.kk F M cd)) : PW X (.BoolOp .And (a :: b :: rest) pos) (TB X.kk F M (bAnd cb cd)) := pwI (pw_and h h2) fun σ H Q ⟨g, s, b, s', r, e, q⟩ => by
  unfold bAnd at e
  split at e
  · rename_i s1 e1
    refine ⟨g, s, true, s1, r, e1, fun g1 H1 r1 v1 => ?_⟩
    refine iteT ?_
    exact ⟨g1, s1, b, s', r1, e, fun g2 H2 r2 v2 => q g2 H2 r2 (v1.trans v2)⟩
  · rename_i s1 e1
    cases e
    refine ⟨g, s, false, s', r, e1, fun g1 H1 r1 v1 => ?_⟩
    exact iteF (q g1 H1 r1 v1)
  · cases e
theorem tb_or {cb cd : CB} {rest : List Expr} (h : PT X a (TB X.kk F M cb)) (h2 : PW X (.BoolOp .Or (b :: rest) pos) (TB X.kk F M cd)) : PW X (.BoolOp .Or (a :: b :: rest) pos) (TB X.kk F M (bOr cb cd)) := pwI (pw_or h h2) fun σ H Q ⟨g, s, b, s', r, e, q⟩ => by
  unfold bOr at e
  split at e
  · rename_i s1 e1
    refine ⟨g, s, false, s1, r, e1, fun g1 H1 r1 v1 => ?_⟩
    refine iteF ?_
    exact ⟨g1, s1, b, s', r1, e, fun g2 H2 r2 v2 => q g2 H2 r2 (v1.trans v2)⟩
  · rename_i s1 e1
    cases e
    refine ⟨g, s, true, s', r, e1, fun g1 H1 r1 v1 => ?_⟩
    exact iteT (q g1 H1 r1 v1)
  · cases e
/-- and, or, not of bools as values -/
def cBool (c : CB) : CE := fun F s => match c F s with
  | some (b, s') => some (.d (.bool b), s')
  | none => none
theorem sx_one {op} {cb : CE} {fr : Bool} (h : PE X a (TX X.kk F M fr cb)) : PE X (.BoolOp op [a] pos) (TX X.kk F M true (cBool (bOf cb))) := peI (pe_one h) fun σ H Q ⟨g, s, x, s', r, e, q⟩ => by
  unfold cBool at e
  split at e
  · rename_i b s1 e1
    cases e
    have hh : TB X.kk F M (bOf cb) σ H fun b H1 => Q (.bl b) H1 := ⟨g, s, b, s', r, e1, fun g' H' r' v' => q _ g' H' r' v' (.bl b) fun _ d' e' h => by cases e'; cases h⟩
    obtain ⟨g2, s2, x2, s2', r2, e2, q2⟩ := tb_of (fr := fr) hh
    refine ⟨g2, s2, x2, s2', r2, e2, fun v g' H' r' v' rp f => ?_⟩
    obtain ⟨k, rfl, z⟩ := q2 v g' H' r' v' rp f
    exact z
  · cases e
theorem sx_and {ca cb : CE} {rest : List Expr} {fr fr' : Bool} (h : PE X a (TX X.kk F M fr ca)) (h2 : PE X (.BoolOp .And (b :: rest) pos) (TX X.kk F M fr' cb)) : PE X (.BoolOp .And (a :: b :: rest) pos) (TX X.kk F M true (cBool (bAnd (bOf ca) (bOf cb)))) := peI (pe_and h h2) fun σ H Q ⟨g, s, x, s', r, e, q⟩ => by
  unfold cBool at e
  split at e
  · rename_i b s1 e1
    cases e
    have fin : ∀ g' H', Rel X.kk M g' s' σ H' → Evo g g' H H' → Q (.bl b) H' := fun g' H' r' v' => q _ g' H' r' v' (.bl b) fun _ d' e' h => by cases e'; cases h
    unfold bAnd at e1
    split at e1
    · rename_i s2 e2
      exact tb_of ⟨g, s, true, s2, r, e2, fun g1 H1 r1 v1 => by
        refine iteT ?_
        have hh : TB X.kk F M (bOf cb) σ H1 fun b H2 => Q (.bl b) H2 := ⟨g1, s2, b, s', r1, e1, fun g2 H2 r2 v2 => fin g2 H2 r2 (v1.trans v2)⟩
        obtain ⟨g2, s2, x2, s2', r2, e2, q2⟩ := tb_of (fr := fr') hh
        refine ⟨g2, s2, x2, s2', r2, e2, fun v g' H' r' v' rp f => ?_⟩
        obtain ⟨k, rfl, z⟩ := q2 v g' H' r' v' rp f
        exact z⟩
    · rename_i s2 e2
      cases e1
      exact tb_of ⟨g, s, false, s', r, e2, fun g1 H1 r1 v1 => iteF (fin g1 H1 r1 v1)⟩
    · cases e1
  · cases e
theorem sx_or {ca cb : CE} {rest : List Expr} {fr fr' : Bool} (h : PE X a (TX X.kk F M fr ca)) (h2 : PE X (.BoolOp .Or (b :: rest) pos) (TX X.kk F M fr' cb)) : PE X (.BoolOp .Or (a :: b :: rest) pos) (TX X.kk F M true (cBool (bOr (bOf ca) (bOf cb)))) := peI (pe_or h h2) fun σ H Q ⟨g, s, x, s', r, e, q⟩ => by
  unfold cBool at e
  split at e
  · rename_i b s1 e1
    cases e
    have fin : ∀ g' H', Rel X.kk M g' s' σ H' → Evo g g' H H' → Q (.bl b) H' := fun g' H' r' v' => q _ g' H' r' v' (.bl b) fun _ d' e' h => by cases e'; cases h
    unfold bOr at e1
    split at e1
    · rename_i s2 e2
      exact tb_of ⟨g, s, false, s2, r, e2, fun g1 H1 r1 v1 => by
        refine iteF ?_
        have hh : TB X.kk F M (bOf cb) σ H1 fun b H2 => Q (.bl b) H2 := ⟨g1, s2, b, s', r1, e1, fun g2 H2 r2 v2 => fin g2 H2 r2 (v1.trans v2)⟩
        obtain ⟨g2, s2, x2, s2', r2, e2, q2⟩ := tb_of (fr := fr') hh
        refine ⟨g2, s2, x2, s2', r2, e2, fun v g' H' r' v' rp f => ?_⟩
        obtain ⟨k, rfl, z⟩ := q2 v g' H' r' v' rp f
        exact z⟩
    · rename_i s2 e2
      cases e1
      exact tb_of ⟨g, s, true, s', r, e2, fun g1 H1 r1 v1 => iteT (fin g1 H1 r1 v1)⟩
    · cases e1
  · cases e
theorem sx_not {ca : CE} {fr : Bool} (h : PE X a (TX X.kk F M fr ca)) : PE X (.UnaryOp .Not a pos) (TX X.kk F M true (cBool (bNot (bOf ca)))) := peI (pe_not h) fun σ H Q ⟨g, s, x, s', r, e, q⟩ => by
  unfold cBool at e
  split at e
  · rename_i b s1 e1
    cases e
    unfold bNot at e1
    split at e1
    · rename_i b' s2 e2
      cases e1
      exact tb_of ⟨g, s, b', s', r, e2, fun g1 H1 r1 v1 => q _ g1 H1 r1 v1 (.bl _) fun _ d' e' h => by cases e'; cases h⟩
    · cases e1
  · cases e
/-- a if c else b -/
def cIf (c : CB) (a b : CE) : CE := fun F s => match c F s with
  | some (true, s') => a F s'
  | some (false, s') => b F s'
  | none => none
theorem FreshX.back {K : KK} {g g' : G} {s' : S} {σ : L2.St} {H H1 H' : Hp} {v : V} {x : Vx} (e : Evo g g' H H1) (h : FreshX K M g' s' σ H1 H' v x) : FreshX K M g s' σ H H' v x := fun d ed hd => by
  obtain ⟨a, g2, ev, ha, r, e2, h1⟩ := h d ed hd
  exact ⟨a, g2, ev, none_back e.grow ha, r, e.trans e2, h1⟩
end
end Ev
/-! Ev5: statements. -/
namespace Ev
open PySem PySem.Spec L2

/-- how a statement ends -/
inductive Fl where
  | nx | ct | rt (x : Vx)
abbrev CS := Fn → S → Option (Fl × S)
def FlOk (K : KK) (g : G) (H : Hp) (D : Ends) (σ : L2.St) : Fl → Prop
  | .nx => D.nx σ H
  | .ct => D.ct σ H
  | .rt x => ∀ v, RpX K g H v x → D.rt v H
def TSt (K : KK) (F : Fn) (M : Nat → Bool) (c : CS) : TS := fun D σ H => ∃ g s f s', Rel K M g s σ H ∧ c F s = some (f, s') ∧
  ∀ σ' g' H', Rel K M g' s' σ' H' → Evo g g' H H' → FlOk K g' H' D σ' f

section
variable {K : KK} {M : Nat → Bool} {F : Fn} {g g' : G} {s s' : S} {σ : L2.St} {H H' : Hp}
/-- what is locked comes to be a slot's own -/
def G.give (g : G) (i : Nat) (a : Addr) : G := { g with N0 := fun b => g.N0 b ∧ b ≠ a, P := fun j => if j = i then some a else g.P j }
theorem G.give_P {i j : Nat} {a b : Addr} (h : (g.give i a).P j = some b) : (j = i ∧ b = a) ∨ (j ≠ i ∧ g.P j = some b) := by
  have h : (if j = i then some a else g.P j) = some b := h
  split at h
  · rename_i c; exact .inl ⟨c, (Option.some.inj h).symm⟩
  · rename_i c; exact .inr ⟨c, h⟩
theorem G.give_N {i : Nat} {a b : Addr} (ha : g.N0 a) (h : (g.give i a).N b) : g.N b := by
  rcases h with h | ⟨j, h⟩
  · exact .inl h.1
  · rcases G.give_P h with ⟨_, z⟩ | ⟨_, z⟩
    · rw [z]; exact .inl ha
    · exact .inr ⟨j, z⟩
theorem Rel.give {i : Nat} {d : PyData} {a : Addr} (r : Rel K M g s σ H) (ha : g.N0 a) (hs : ¬ g.SA a) (hc : ¬ g.CA a) (t : Top K g.N H a d) (hm : M i = true) :
    Rel K M (g.give i a) { s with env := s.env.set i (some (.d d)) } (σ.set i (some (.ref a))) H where
  slot := fun j y e => by
    have hn : ∀ b, (g.give i a).N b → g.N b ∨ H b = none := fun b h => .inl (G.give_N ha h)
    rcases get_set e with ⟨h0, z, hi⟩ | ⟨hne, e⟩
    · subst h0
      cases z
      exact ⟨.ref a, List.getElem?_set_self (by rw [← r.len]; exact hi), fun _ => ⟨a, rfl, by unfold G.give; simp, t.forbid hn⟩, fun c => absurd ⟨hm, t.isM⟩ c⟩
    · obtain ⟨v', h1, h2⟩ := r.slot j y e
      refine ⟨v', (List.getElem?_set_ne hne).trans h1, ?_⟩
      cases y with
      | d d' => exact ⟨fun c => let ⟨b, e, p, t⟩ := h2.1 c; ⟨b, e, by unfold G.give; simp only; rw [if_neg (Ne.symm hne)]; exact p, t.forbid hn⟩, fun c => (h2.2 c).forbid hn⟩
      | z d => exact Rp.forbid hn h2
      | src => exact h2
      | srcc => exact h2
  inj := fun j k b h1 h2 => by
    rcases G.give_P h1 with ⟨e1, z1⟩ | ⟨e1, z1⟩ <;> rcases G.give_P h2 with ⟨e2, z2⟩ | ⟨e2, z2⟩
    · rw [e1, e2]
    · exact absurd ha (by rw [← z1]; exact r.sep k b z2)
    · exact absurd ha (by rw [← z2]; exact r.sep j b z1)
    · exact r.inj j k b z1 z2
  sep := fun j b h z => by
    rcases G.give_P h with ⟨_, q⟩ | ⟨_, q⟩
    · exact z.2 q
    · exact r.sep j b q z.1
  ex := fun b h => r.ex b (G.give_N ha h)
  srN := fun b h => ⟨r.srN b h, fun z => by rw [z] at h; exact h.elim hs hc⟩
  src := r.src
  len := by simp only [List.length_set]; exact r.len
theorem Evo.give {i : Nat} {a : Addr} {g0 : G} {H0 : Hp} (e : Evo g0 g H0 H) (ha : g.N0 a) (hn : H0 a = none) (ex : ∀ b, g0.N b → H0 b ≠ none) : Evo g0 (g.give i a) H0 H where
  n := fun b h => e.n b (G.give_N ha h)
  w := fun b h => by
    rcases h with ⟨j, h⟩ | h
    · rcases G.give_P h with ⟨_, z⟩ | ⟨_, z⟩
      · rw [z]; exact .inr hn
      · exact e.w b (.inl ⟨j, z⟩)
    · exact e.w b (.inr h)
  sa := e.sa
  ca := e.ca
  n0 := fun b h => ⟨e.n0 b h, fun z => ex b (.inl h) (by rw [z]; exact hn)⟩
  keep := e.keep
  tup := e.tup
  frz := e.frz
  grow := e.grow
  sr := e.sr
/-- values on their way into slots: those for slots of their own are locked -/
inductive PendA (K : KK) (g : G) (H : Hp) : List Bool → List V → List Vx → List Addr → Prop
  | nil : PendA K g H [] [] [] []
  | plain {m ms v vs x xs as} : RpX K g H v x → (∀ d, x = .d d → ¬ (m = true ∧ isM d = true)) → PendA K g H ms vs xs as → PendA K g H (m :: ms) (v :: vs) (x :: xs) as
  | own {m ms a vs d xs as} : m = true → g.N0 a → ¬ g.SA a → ¬ g.CA a → a ∉ as → Top K g.N H a d → PendA K g H ms vs xs as → PendA K g H (m :: ms) (.ref a :: vs) (.d d :: xs) (a :: as)
theorem PendA.move (e : Evo g g' H H') (r : Rel K M g s σ H) : ∀ {ms : List Bool} {vs : List V} {xs : List Vx} {as : List Addr}, PendA K g H ms vs xs as → PendA K g' H' ms vs xs as
  | _, _, _, _, .nil => .nil
  | _, _, _, _, .plain h1 h2 h3 => .plain (e.rpX r.wn h1) h2 (PendA.move e r h3)
  | _, _, _, _, .own hm h1 h2 h3 h4 t h5 => by
    have no : ∀ a, g.N0 a → ¬ g.SA a → ¬ g.CA a → H a ≠ none → ¬ (g'.SA a ∨ g'.CA a) := fun a h1 h2 h3 h4 z => (e.sr a z).elim (fun z => z.elim h2 h3) h4
    refine .own hm (e.n0 _ h1) (fun z => no _ h1 h2 h3 t.nn (.inl z)) (fun z => no _ h1 h2 h3 t.nn (.inr z)) h4 (e.top r.wn ?_ t) (PendA.move e r h5)
    rintro (⟨j, z⟩ | z | z)
    · exact r.sep j _ z h1
    · exact h2 z
    · exact h3 z
theorem PendA.unlock {a : Addr} {i : Nat} (ha : g.N0 a) : ∀ {ms : List Bool} {vs : List V} {xs : List Vx} {as : List Addr}, a ∉ as → PendA K g H ms vs xs as → PendA K (g.give i a) H ms vs xs as
  | _, _, _, _, _, .nil => .nil
  | _, _, _, _, hn, .plain (x := x) h1 h2 h3 => .plain (by
      cases x with
      | d d => exact Rp.forbid (fun b h => .inl (G.give_N ha h)) h1
      | z d => exact Rp.forbid (fun b h => .inl (G.give_N ha h)) h1
      | src => exact h1
      | srcc => exact h1) h2 (PendA.unlock ha hn h3)
  | _, _, _, _, hn, .own hm h1 h2 h3 h4 t h5 => .own hm ⟨h1, fun z => hn (by rw [z]; exact List.mem_cons_self)⟩ h2 h3 h4 (t.forbid fun b h => .inl (G.give_N ha h)) (PendA.unlock ha (fun z => hn (List.mem_cons_of_mem _ z)) h5)
theorem PendA.dropped {i : Nat} : ∀ {ms : List Bool} {vs : List V} {xs : List Vx} {as : List Addr}, PendA K g H ms vs xs as → PendA K (g.drop i) H ms vs xs as
  | _, _, _, _, .nil => .nil
  | _, _, _, _, .plain (x := x) h1 h2 h3 => .plain (by
      cases x with
      | d d => exact Rp.forbid (fun b h => .inl (G.drop_N h)) h1
      | z d => exact Rp.forbid (fun b h => .inl (G.drop_N h)) h1
      | src => exact h1
      | srcc => exact h1) h2 (PendA.dropped h3)
  | _, _, _, _, .own hm h1 h2 h3 h4 t h5 => .own hm h1 h2 h3 h4 (t.forbid fun b h => .inl (G.drop_N h)) (PendA.dropped h5)
/-- the values of several names, one after another -/
def setAll {α : Type} : List Nat → List α → List (Option α) → List (Option α)
  | i :: is, x :: xs, e => setAll is xs (e.set i (some x))
  | _, _, e => e
theorem Rel.stores {g0 : G} {H0 : Hp} (ex : ∀ b, g0.N b → H0 b ≠ none) : ∀ {is : List Nat} {vs : List V} {xs : List Vx} {as : List Addr} {g : G} {s : S} {σ : L2.St}, Rel K M g s σ H → PendA K g H (is.map M) vs xs as → Evo g0 g H0 H → (∀ a ∈ as, H0 a = none) →
    ∃ g', Rel K M g' { s with env := setAll is xs s.env } (setAll is vs σ) H ∧ Evo g0 g' H0 H
  | [], _, _, _, g, s, σ, r, h, e, _ => by cases h; exact ⟨g, r, e⟩
  | i :: is, _, _, _, g, s, σ, r, h, e, hn => by
    rw [List.map_cons] at h
    cases h with
    | plain h1 h2 h3 => exact Rel.stores (is := is) ex (r.set (i := i) h1 h2) (PendA.dropped h3) (e.trans Evo.drop) hn
    | own hm h1 h2 h3 h4 t h5 => exact Rel.stores (is := is) ex (r.give h1 h2 h3 t hm) (PendA.unlock h1 h4 h5) (e.give h1 (hn _ List.mem_cons_self) ex) fun a z => hn a (List.mem_cons_of_mem _ z)
end

/-! ### values for names: one expression each -/
section
variable {X : Cx} {M : Nat → Bool} {F : Fn} {a b c e : Expr} {es : List Expr} {pos p : Pos}
def TXP (K : KK) (F : Fn) (M : Nat → Bool) (ms : List Bool) (cs : List CE) : TA := fun σ H Q => ∃ g s xs s', Rel K M g s σ H ∧ evArgs cs F s = some (xs, s') ∧
  ∀ vs g' H' as, Rel K M g' s' σ H' → Evo g g' H H' → PendA K g' H' ms vs xs as → (∀ b ∈ as, H b = none) → Q vs H'
theorem aps_nil : PA X [] (TXP X.kk F M [] []) := paI pa_nil fun σ H Q ⟨g, s, ds, s', r, e, q⟩ => by
  cases e
  exact q [] g H [] r Evo.refl .nil (fun _ h => nomatch h)
theorem pend_cons {K : KK} {g g1 : G} {s1 s' : S} {σ : L2.St} {H H1 : Hp} {v : V} {x : Vx} {m : Bool} {ms : List Bool} {cs : List CE} {xs : List Vx} {Q : List V → Hp → Prop} (r1 : Rel K M g1 s1 σ H1) (v1 : Evo g g1 H H1) (rp : RpX K g1 H1 v x)
    (fr : m = true → FreshX K M g s1 σ H H1 v x) (e2 : evArgs cs F s1 = some (xs, s'))
    (q : ∀ vs g' H' as, Rel K M g' s' σ H' → Evo g g' H H' → PendA K g' H' (m :: ms) vs (x :: xs) as → (∀ b ∈ as, H b = none) → Q vs H') : TXP K F M ms cs σ H1 fun vs H2 => Q (v :: vs) H2 := by
  by_cases hx : ∃ d, x = .d d ∧ m = true ∧ isM d = true
  · obtain ⟨d, rfl, hm, hd⟩ := hx
    obtain ⟨a, gf, rfl, ha, rf, ef, n0, sa, ca, t⟩ := fr hm d rfl hd
    refine ⟨gf, s1, xs, s', rf, e2, fun vs g2 H2 as r2 v2 p2 n2 => q _ g2 H2 (a :: as) r2 (ef.trans v2) ?_ ?_⟩
    · have p1 : PendA K gf H1 [m] [V.ref a] [Vx.d d] [a] := .own hm n0 sa ca (fun z => nomatch z) t .nil
      cases p1.move v2 rf with
      | plain h1 h2 _ => exact absurd ⟨hm, hd⟩ (h2 d rfl)
      | own hm h1 h2 h3 h4 t' _ => exact .own hm h1 h2 h3 (fun z => t.nn (n2 a z)) t' p2
    · intro b hb
      rcases List.mem_cons.mp hb with rfl | hb
      · exact ha
      · exact none_back v1.grow (n2 b hb)
  · refine ⟨g1, s1, xs, s', r1, e2, fun vs g2 H2 as r2 v2 p2 n2 => q _ g2 H2 as r2 (v1.trans v2) (.plain (v2.rpX r1.wn rp) (fun d ed z => hx ⟨d, ed, z⟩) p2) fun b hb => none_back v1.grow (n2 b hb)⟩
/-- the next value; m: is it for a slot of its own (then it is new) -/
theorem aps_cons {ce : CE} {cs : List CE} {m fr : Bool} {ms : List Bool} (ha : PE X e (TX X.kk F M fr ce)) (hr : PA X es (TXP X.kk F M ms cs)) (hm : m = true → fr = true) (hs : starEach (e :: es) X.env = (false, eval e X.env) :: starEach es X.env := by rfl) : PA X (e :: es) (TXP X.kk F M (m :: ms) (ce :: cs)) :=
  paI (pa_cons ha hr hs) fun σ H Q ⟨g, s, xs, s', r, ev, q⟩ => by
    unfold evArgs at ev
    split at ev
    · rename_i x s1 e1
      split at ev
      · rename_i ys s2 e2
        cases ev
        exact ⟨g, s, x, s1, r, e1, fun v g1 H1 r1 v1 rp1 f1 => pend_cons r1 v1 rp1 (fun z => f1 (hm z)) e2 q⟩
      · cases ev
    · cases ev
/-- x, y, .. = a, b, ..: all are reckoned, then stored -/
def sPar (is : List Nat) (cs : List CE) : CS := fun F s => match evArgs cs F s with
  | some (xs, s1) => some (.nx, { s1 with env := setAll is xs s1.env })
  | none => none
theorem tx_par {is : List Nat} {cs : List CE} {σ : L2.St} {H : Hp} {D : Ends} (h : TSt X.kk F M (sPar is cs) D σ H) : TXP X.kk F M (is.map M) cs σ H fun vs H1 => D.nx (setAll is vs σ) H1 := by
  obtain ⟨g, s, f, s', r, e, q⟩ := h
  unfold sPar at e
  split at e
  · rename_i xs s1 e1
    cases e
    refine ⟨g, s, xs, s1, r, e1, fun vs g1 H1 as r1 v1 p1 n1 => ?_⟩
    obtain ⟨g2, r2, v2⟩ := Rel.stores r.ex r1 p1 v1 n1
    exact q _ g2 H1 r2 v2
  · cases e
/-- x = e, the value not owned or new -/
theorem ss_set {i : Nat} {x : Str} {ce : CE} {fr : Bool} {pos' : Pos} (hN : X.N.Nodup) (hi : X.N[i]? = some x) (hx : Loc X.env.scope x) (he : PE X e (TX X.kk F M fr ce)) (hm : M i = true → fr = true) (hs : swapsWith e (some (.Name x pos')) pos.line X.env = pure false := by rfl)
    (hf : X.fn x = true ∨ X.env.scope.names.lookup x = some .local := by first | exact .inl rfl | exact .inr rfl | assumption) : PS X (.Assign [.Name x pos'] e pos) (TSt X.kk F M (sPar [i] [ce])) :=
  psI (ps_set hN hi hx he hs hf) fun D σ H h => by
    obtain ⟨g, s, xs, s', r, ev, q⟩ := tx_par h
    unfold evArgs at ev
    split at ev
    · rename_i y s1 e1
      rw [show evArgs [] F s1 = some ([], s1) from rfl] at ev
      cases ev
      refine ⟨g, s, y, s', r, e1, fun v g1 H1 r1 v1 rp1 f1 => ?_⟩
      obtain ⟨g2, s2, xs2, s2', r2, e2, q2⟩ := pend_cons (F := F) (m := M i) (ms := []) (cs := []) (xs := []) (Q := fun vs H1 => D.nx (setAll [i] vs σ) H1) r1 v1 rp1 (fun z => f1 (hm z)) rfl q
      cases e2
      exact q2 [] g2 H1 [] r2 Evo.refl .nil fun _ h => nomatch h
    · cases ev
theorem PendA.lenV {K : KK} {g : G} {H : Hp} : ∀ {ms : List Bool} {vs : List V} {xs : List Vx} {as : List Addr}, PendA K g H ms vs xs as → vs.length = ms.length
  | _, _, _, _, .nil => rfl
  | _, _, _, _, .plain _ _ h => by rw [List.length_cons, List.length_cons, PendA.lenV h]
  | _, _, _, _, .own _ _ _ _ _ _ h => by rw [List.length_cons, List.length_cons, PendA.lenV h]
theorem ss_par2 {i j : Nat} {x y : Str} {ca cb : CE} {fr fr' : Bool} {px py pt : Pos} {kt k2 pt2} (hc : X.calm = true) (hN : X.N.Nodup) (hi : X.N[i]? = some x) (hj : X.N[j]? = some y) (hij : i ≠ j)
    (hx : X.env.scope.names.lookup x = some .local) (hy : X.env.scope.names.lookup y = some .local) (ha : PE X a (TX X.kk F M fr ca)) (hb : PE X b (TX X.kk F M fr' cb)) (m1 : M i = true → fr = true) (m2 : M j = true → fr' = true)
    (hw : swappedStores [.Tuple [.Name x px, .Name y py] kt pt] (.Tuple [a, b] k2 pt2) X.env = pure (some [x, y]) := by rfl)
    (h1 : starEach [a, b] X.env = (false, eval a X.env) :: starEach [b] X.env := by rfl) (h2 : starEach [b] X.env = (false, eval b X.env) :: starEach [] X.env := by rfl) :
    PS X (.Assign [.Tuple [.Name x px, .Name y py] kt pt] (.Tuple [a, b] k2 pt2) pos) (TSt X.kk F M (sPar [i, j] [ca, cb])) :=
  psI (ps_par hc hN hi hj hij hx hy (aps_cons (m := M i) ha (aps_cons (m := M j) hb aps_nil m2 h2) m1 h1) hw) fun D σ H h => by
    obtain ⟨g, s, xs, s', r, ev, q⟩ := tx_par h
    refine ⟨g, s, xs, s', r, ev, fun vs g1 H1 as r1 v1 p1 n1 => ?_⟩
    have z := q vs g1 H1 as r1 v1 p1 n1
    have hl := p1.lenV
    match vs, hl, z with
    | [v, w], _, z => exact ⟨v, w, rfl, z⟩
theorem ss_par3 {i j l : Nat} {x y z : Str} {ca cb cc : CE} {f1 f2 f3 : Bool} {px py pz pt : Pos} {kt k2 pt2} (hc : X.calm = true) (hN : X.N.Nodup) (hi : X.N[i]? = some x) (hj : X.N[j]? = some y) (hl : X.N[l]? = some z) (hij : i ≠ j) (hil : i ≠ l) (hjl : j ≠ l)
    (hx : X.env.scope.names.lookup x = some .local) (hy : X.env.scope.names.lookup y = some .local) (hz : X.env.scope.names.lookup z = some .local) (ha : PE X a (TX X.kk F M f1 ca)) (hb : PE X b (TX X.kk F M f2 cb)) (hcc : PE X c (TX X.kk F M f3 cc)) (m1 : M i = true → f1 = true) (m2 : M j = true → f2 = true) (m3 : M l = true → f3 = true)
    (hw : swappedStores [.Tuple [.Name x px, .Name y py, .Name z pz] kt pt] (.Tuple [a, b, c] k2 pt2) X.env = pure (some [x, y, z]) := by rfl)
    (h1 : starEach [a, b, c] X.env = (false, eval a X.env) :: starEach [b, c] X.env := by rfl) (h2 : starEach [b, c] X.env = (false, eval b X.env) :: starEach [c] X.env := by rfl) (h3 : starEach [c] X.env = (false, eval c X.env) :: starEach [] X.env := by rfl) :
    PS X (.Assign [.Tuple [.Name x px, .Name y py, .Name z pz] kt pt] (.Tuple [a, b, c] k2 pt2) pos) (TSt X.kk F M (sPar [i, j, l] [ca, cb, cc])) :=
  psI (ps_par3 hc hN hi hj hl hij hil hjl hx hy hz (aps_cons (m := M i) ha (aps_cons (m := M j) hb (aps_cons (m := M l) hcc aps_nil m3 h3) m2 h2) m1 h1) hw) fun D σ H h => by
    obtain ⟨g, s, xs, s', r, ev, q⟩ := tx_par h
    refine ⟨g, s, xs, s', r, ev, fun vs g1 H1 as r1 v1 p1 n1 => ?_⟩
    have z := q vs g1 H1 as r1 v1 p1 n1
    have hl := p1.lenV
    match vs, hl, z with
    | [u, v, w], _, z => exact ⟨u, v, w, rfl, z⟩
/-- the ordinary road: the tuple is made, taken apart, stored from the left -/
inductive Nms (X : Cx) : List Expr → List Nat → Prop
  | nil : Nms X [] []
  | cons {i x ts is pp} : X.N[i]? = some x → Loc X.env.scope x → (X.fn x = true ∨ X.env.scope.names.lookup x = some .local) → (assignEach (.Name x pp :: ts) X.env).map (·.2) = assign (.Name x pp) X.env :: (assignEach ts X.env).map (·.2) → Nms X ts is → Nms X (.Name x pp :: ts) (i :: is)
/-- names stored one after another -/
def gAll (is : List Nat) : TGs := fun vs σ H Q => vs.length = is.length ∧ Q (setAll is vs σ) H
theorem pgs_names (hN : X.N.Nodup) : ∀ {ts : List Expr} {is : List Nat}, Nms X ts is → PGs X ts (gAll is)
  | _, _, .nil => ⟨fun pins s σ H vs us Q I r ⟨h1, h2⟩ => by
      have e : vs = [] := List.length_eq_zero_iff.mp h1
      subst e
      exact (pgs_nil (X := X)).run pins s σ H [] us Q I r ⟨rfl, h2⟩⟩
  | _, _, .cons (i := i) h1 h2 h3 h4 t => ⟨fun pins s σ H vs us Q I r ⟨e1, e2⟩ => by
      cases vs with
      | nil => cases e1
      | cons v vs =>
        exact (pgs_cons (pg_name hN h1 h2 h3) (pgs_names hN t) h4).run pins s σ H (v :: vs) us Q I r ⟨v, vs, rfl, by simpa using e1, e2⟩⟩
theorem ss_parO {ts : List Expr} {is : List Nat} {cs : List CE} {kt k2 : Nat} {pt pt2 : Pos} (hc : X.calm = true) (hN : X.N.Nodup) (hn : Nms X ts is) (ha : PA X es (TXP X.kk F M (is.map M) cs)) (hz : is.length ≤ sizeLine)
    (hl : (assignEach ts X.env).length = is.length := by rfl) (hst : (assignEach ts X.env).findIdx? (·.1) = none := by rfl)
    (hs : swapsWithSole [.Tuple ts kt pt] (.Tuple es k2 pt2) pos.line X.env = pure false := by rfl) (hw : swappedStores [.Tuple ts kt pt] (.Tuple es k2 pt2) X.env = pure none := by rfl) (h1 : (assignEach [.Tuple ts kt pt] X.env).map (·.2) = [assign (.Tuple ts kt pt) X.env] := by rfl) :
    PS X (.Assign [.Tuple ts kt pt] (.Tuple es k2 pt2) pos) (TSt X.kk F M (sPar is cs)) :=
  psI (ps_asg (pe_tup ha) (pg_tup hc (pgs_names hN hn) hl hst) hs hw h1) fun D σ H h => by
    obtain ⟨g, s, xs, s', r, ev, q⟩ := tx_par h
    refine ⟨g, s, xs, s', r, ev, fun vs g1 H1 as r1 v1 p1 n1 => ?_⟩
    have hl := p1.lenV
    rw [List.length_map] at hl
    refine ⟨by rw [hl]; exact hz, fun p hp => ⟨p, vs, rfl, .inl (.inl upd_same), hl, hl, ?_⟩⟩
    have k : Same H1 (upd H1 p (.tup vs)) := fun b o e => by rw [upd_ne (ne_of_none e hp)]; exact e
    exact q vs g1 _ as (r1.same k) (v1.trans (Evo.same k)) (p1.move (Evo.same k) r1) n1
end
end Ev
/-! Ev6: blocks, tests, while, for; what is walked. -/
namespace Ev
open PySem PySem.Spec L2

section
variable {X : Cx} {M : Nat → Bool} {F : Fn} {a b c e : Expr} {es : List Expr} {pos p : Pos} {st : Stmt} {rest : List Stmt}
theorem FlOk.back {K : KK} {g : G} {H : Hp} {D : Ends} {σ : L2.St} {f : Fl} (h : FlOk K g H D σ f) : FlOk K g H D σ f := h
def sPass : CS := fun _ s => some (.nx, s)
theorem ss_pass : PS X (.Pass pos) (TSt X.kk F M sPass) := psI ps_pass fun D σ H ⟨g, s, f, s', r, e, q⟩ => by
  cases e
  exact q σ g H r Evo.refl
def sCont : CS := fun _ s => some (.ct, s)
theorem ss_cont : PS X (.Continue pos) (TSt X.kk F M sCont) := psI ps_continue fun D σ H ⟨g, s, f, s', r, e, q⟩ => by
  cases e
  exact q σ g H r Evo.refl
def sRet (c : CE) : CS := fun F s => match c F s with
  | some (x, s') => some (.rt x, s')
  | none => none
theorem ss_ret {ce : CE} {fr : Bool} (he : PE X e (TX X.kk F M fr ce)) : PS X (.Return (some e) pos) (TSt X.kk F M (sRet ce)) := psI (ps_ret he) fun D σ H ⟨g, s, f, s', r, ev, q⟩ => by
  unfold sRet at ev
  split at ev
  · rename_i x s1 e1
    cases ev
    exact ⟨g, s, x, s', r, e1, fun v g' H' r' e' rp _ => q σ g' H' r' e' v rp⟩
  · cases ev
theorem ss_retN : PS X (.Return none pos) (TSt X.kk F M (sRet (cC .none))) := psI ps_retN fun D σ H ⟨g, s, f, s', r, ev, q⟩ => by
  cases ev
  exact q σ g H r Evo.refl .non .non
def sExpr (c : CE) : CS := fun F s => match c F s with
  | some (_, s') => some (.nx, s')
  | none => none
theorem ss_expr {ce : CE} {fr : Bool} (he : PE X e (TX X.kk F M fr ce)) (hs : swapsWith e none pos.line X.env = pure false := by rfl) : PS X (.Expr e pos) (TSt X.kk F M (sExpr ce)) := psI (ps_expr he hs) fun D σ H ⟨g, s, f, s', r, ev, q⟩ => by
  unfold sExpr at ev
  split at ev
  · rename_i x s1 e1
    cases ev
    exact ⟨g, s, x, s', r, e1, fun v g' H' r' e' rp _ => q σ g' H' r' e'⟩
  · cases ev
def sIf (c : CB) (a b : CS) : CS := fun F s => match c F s with
  | some (true, s') => a F s'
  | some (false, s') => b F s'
  | none => none
theorem FlOk.mono {K : KK} {g : G} {H : Hp} {D : Ends} {σ : L2.St} {f : Fl} (h : FlOk K g H D σ f) : FlOk K g H D σ f := h
theorem ss_if {cb : CB} {ca cc : CS} {la lb : List Stmt} (hc : PT X c (TB X.kk F M cb)) (ha : PSs X la (TSt X.kk F M ca)) (hb : PSs X lb (TSt X.kk F M cc)) : PS X (.If c la lb pos) (TSt X.kk F M (sIf cb ca cc)) := psI (ps_if hc ha hb) fun D σ H ⟨g, s, f, s', r, ev, q⟩ => by
  unfold sIf at ev
  split at ev
  · rename_i s1 e1
    exact ⟨g, s, true, s1, r, e1, fun g1 H1 r1 v1 => iteT ⟨g1, s1, f, s', r1, ev, fun σ' g2 H2 r2 v2 => q σ' g2 H2 r2 (v1.trans v2)⟩⟩
  · rename_i s1 e1
    exact ⟨g, s, false, s1, r, e1, fun g1 H1 r1 v1 => iteF ⟨g1, s1, f, s', r1, ev, fun σ' g2 H2 r2 v2 => q σ' g2 H2 r2 (v1.trans v2)⟩⟩
  · cases ev
/-- a if c else b -/
theorem sx_if {cb : CB} {ca cc : CE} {f1 f2 : Bool} (hc : PT X c (TB X.kk F M cb)) (ha : PE X a (TX X.kk F M f1 ca)) (hb : PE X b (TX X.kk F M f2 cc)) : PE X (.IfExp c a b pos) (TX X.kk F M (f1 && f2) (cIf cb ca cc)) := peI (pe_ifExp hc ha hb) fun σ H Q ⟨g, s, x, s', r, ev, q⟩ => by
  unfold cIf at ev
  split at ev
  · rename_i s1 e1
    refine ⟨g, s, true, s1, r, e1, fun g1 H1 r1 v1 => iteT ⟨g1, s1, x, s', r1, ev, fun v g2 H2 r2 v2 rp fr => q v g2 H2 r2 (v1.trans v2) rp fun z => ?_⟩⟩
    rw [Bool.and_eq_true] at z
    exact (fr z.1).back v1
  · rename_i s1 e1
    refine ⟨g, s, false, s1, r, e1, fun g1 H1 r1 v1 => iteF ⟨g1, s1, x, s', r1, ev, fun v g2 H2 r2 v2 rp fr => q v g2 H2 r2 (v1.trans v2) rp fun z => ?_⟩⟩
    rw [Bool.and_eq_true] at z
    exact (fr z.2).back v1
  · cases ev
def sSeq (a b : CS) : CS := fun F s => match a F s with
  | some (.nx, s') => b F s'
  | some (f, s') => some (f, s')
  | none => none
theorem tss_nil : PSs X [] (TSt X.kk F M sPass) := pssI pss_nil fun D σ H ⟨g, s, f, s', r, e, q⟩ => by
  cases e
  exact q σ g H r Evo.refl
theorem tss_one {ca : CS} (h : PS X st (TSt X.kk F M ca)) : PSs X [st] (TSt X.kk F M ca) := pss_one h
theorem tss_cons {ca cc : CS} (h1 : PS X st (TSt X.kk F M ca)) (h2 : PSs X rest (TSt X.kk F M cc)) : PSs X (st :: rest) (TSt X.kk F M (sSeq ca cc)) := pssI (pss_cons h1 h2) fun D σ H ⟨g, s, f, s', r, ev, q⟩ => by
  unfold sSeq at ev
  split at ev
  · rename_i s1 e1
    exact ⟨g, s, .nx, s1, r, e1, fun σ1 g1 H1 r1 v1 => ⟨g1, s1, f, s', r1, ev, fun σ' g2 H2 r2 v2 => q σ' g2 H2 r2 (v1.trans v2)⟩⟩
  · rename_i f1 s1 hf e1
    cases ev
    refine ⟨g, s, f, s', r, e1, fun σ1 g1 H1 r1 v1 => ?_⟩
    have z := q σ1 g1 H1 r1 v1
    cases f with
    | nx => exact absurd rfl hf
    | ct => exact z
    | rt x => exact z
  · cases ev

/-! ### while -/
def whileN : Nat → CB → CS → Fn → S → Option (Fl × S)
  | 0, _, _, _, _ => none
  | n + 1, c, b, F, s => match c F s with
    | some (true, s1) => match b F s1 with
      | some (.rt x, s2) => some (.rt x, s2)
      | some (_, s2) => whileN n c b F s2
      | none => none
    | some (false, s1) => some (.nx, s1)
    | none => none
def sWhile (c : CB) (b : CS) : CS := fun F s => whileN F.fuel c b F s
theorem ss_while {cb : CB} {ca : CS} {body : List Stmt} (hp : PassesOwn (model X.prog X.w) X.A X.env X.xe) (hc : PT X c (TB X.kk F M cb)) (hb : PSs X body (TSt X.kk F M ca)) : PS X (.While c body [] pos) (TSt X.kk F M (sWhile cb ca)) :=
  psI (ps_while hp hc hb) fun D σ H ⟨g, s, f, s', r, ev, q⟩ => by
    refine ⟨fun m σ1 H1 => ∃ g1 s1 f s', Rel X.kk M g1 s1 σ1 H1 ∧ whileN m cb ca F s1 = some (f, s') ∧ ∀ σ' g2 H2, Rel X.kk M g2 s' σ' H2 → Evo g1 g2 H1 H2 → FlOk X.kk g2 H2 D σ' f, ⟨F.fuel, g, s, f, s', r, ev, q⟩, ?_⟩
    rintro m σ1 H1 ⟨g1, s1, f1, s1', r1, e1, q1⟩
    cases m with
    | zero => cases e1
    | succ n =>
      unfold whileN at e1
      split at e1
      · rename_i s2 e2
        split at e1
        · rename_i x s3 e3
          cases e1
          refine ⟨g1, s1, true, s2, r1, e2, fun g2 H2 r2 v2 => iteT ⟨fun _ _ => False, fun _ _ z => z.elim, g2, s2, .rt x, _, r2, e3, fun σ3 g3 H3 r3 v3 => ?_⟩⟩
          exact q1 σ3 g3 H3 r3 (v2.trans v3)
        · rename_i f3 s3 hf e3
          refine ⟨g1, s1, true, s2, r1, e2, fun g2 H2 r2 v2 => iteT ⟨fun σ3 H3 => ∃ g3, Rel X.kk M g3 s3 σ3 H3 ∧ Evo g1 g3 H1 H3, fun σ3 H3 z => ?_, g2, s2, f3, s3, r2, e3, fun σ3 g3 H3 r3 v3 => ?_⟩⟩
          · obtain ⟨g3, r3, v3⟩ := z
            exact ⟨n, Nat.lt_succ_self n, g3, s3, f1, s1', r3, e1, fun σ' g4 H4 r4 v4 => q1 σ' g4 H4 r4 (v3.trans v4)⟩
          · cases f3 with
            | nx => exact ⟨g3, r3, v2.trans v3⟩
            | ct => exact ⟨g3, r3, v2.trans v3⟩
            | rt x => exact absurd rfl (hf x)
        · cases e1
      · rename_i s2 e2
        cases e1
        exact ⟨g1, s1, false, _, r1, e2, fun g2 H2 r2 v2 => iteF (q1 σ1 g2 H2 r2 v2)⟩
      · cases e1

/-! ### targets -/
/-- only the slots ts are stored to -/
def Only' (ts : List Nat) (σ σ' : L2.St) : Prop := ∀ vs : List Nat, (∀ t ∈ ts, t ∈ vs) → wipe σ' vs = wipe σ vs
def TGX (K : KK) (M : Nat → Bool) (ts : List Nat) (as : PyData → S → Option S) : TG := fun v σ H Q => ∃ g s d s', Rel K M g s σ H ∧ Rp K g.N H v d ∧ as d s = some s' ∧ ∀ σ' g' H', Rel K M g' s' σ' H' → Evo g g' H H' → Only' ts σ σ' → Q σ' H'
def TGXs (K : KK) (M : Nat → Bool) (ts : List Nat) (as : List PyData → S → Option S) : TGs := fun vs σ H Q => ∃ g s ds s', Rel K M g s σ H ∧ RpA K g.N H vs ds ∧ as ds s = some s' ∧ ∀ σ' g' H', Rel K M g' s' σ' H' → Evo g g' H H' → Only' ts σ σ' → Q σ' H'
theorem set_comm' {α : Type} (l : List α) (i j : Nat) (x y : α) (h : i ≠ j) : (l.set i x).set j y = (l.set j y).set i x := List.set_comm _ _ h
theorem wipe_set : ∀ (σ : L2.St) (i : Nat) (x : Option V) (vs : List Nat), i ∈ vs → wipe (σ.set i x) vs = wipe σ vs := by
  have out : ∀ (σ : L2.St) (i : Nat) (x : Option V) (vs : List Nat), i ∉ vs → wipe (σ.set i x) vs = (wipe σ vs).set i x := by
    intro σ i x vs
    induction vs with
    | nil => intro _; rfl
    | cons v vs ih =>
      intro h
      unfold wipe
      rw [ih fun z => h (List.mem_cons_of_mem _ z)]
      exact List.set_comm _ _ fun z => h (by rw [z]; exact List.mem_cons_self)
  intro σ i x vs
  induction vs with
  | nil => intro h; cases h
  | cons v vs ih =>
    intro h
    unfold wipe
    by_cases hi : i ∈ vs
    · rw [ih hi]
    · have e : i = v := (List.mem_cons.mp h).resolve_right hi
      subst e
      rw [out σ i x vs hi, List.set_set]
theorem Only'.refl {ts : List Nat} {σ : L2.St} : Only' ts σ σ := fun _ _ => rfl
theorem Only'.trans {ts us : List Nat} {σ σ' σ'' : L2.St} (h : Only' ts σ σ') (h' : Only' us σ' σ'') : Only' (ts ++ us) σ σ'' := fun vs q => (h' vs fun t z => q t (List.mem_append_right _ z)).trans (h vs fun t z => q t (List.mem_append_left _ z))
def aName (i : Nat) : PyData → S → Option S := fun d s => some { s with env := s.env.set i (some (.d d)) }
theorem pgI {t t' : TG} (h : PG X e t) (hi : ∀ v σ H Q, t' v σ H Q → t v σ H Q) : PG X e t' := ⟨fun pins s σ H v u Q I r q => h.run pins s σ H v u Q I r (hi _ _ _ _ q)⟩
theorem pgsI {t t' : TGs} (h : PGs X es t) (hi : ∀ v σ H Q, t' v σ H Q → t v σ H Q) : PGs X es t' := ⟨fun pins s σ H v u Q I r q => h.run pins s σ H v u Q I r (hi _ _ _ _ q)⟩
theorem tg_name {i : Nat} {x : Str} (hN : X.N.Nodup) (hi : X.N[i]? = some x) (hx : Loc X.env.scope x) (hm : M i = false) (hf : X.fn x = true ∨ X.env.scope.names.lookup x = some .local := by first | exact .inl rfl | exact .inr rfl | assumption) : PG X (.Name x pos) (TGX X.kk M [i] (aName i)) :=
  pgI (pg_name hN hi hx hf) fun v σ H Q ⟨g, s, d, s', r, rp, e, q⟩ => by
    cases e
    exact q _ (g.drop i) H (r.set (i := i) (x := .d d) rp fun d' ed z => by rw [hm] at z; cases z.1) Evo.drop fun vs h => wipe_set σ i _ vs (h i List.mem_cons_self)
def aNil : List PyData → S → Option S := fun ds s => match ds with
  | [] => some s
  | _ => none
def aCons (a : PyData → S → Option S) (b : List PyData → S → Option S) : List PyData → S → Option S := fun ds s => match ds with
  | d :: r => match a d s with
    | some s1 => b r s1
    | none => none
  | [] => none
theorem tg_nil : PGs X [] (TGXs X.kk M [] aNil) := pgsI pgs_nil fun vs σ H Q ⟨g, s, ds, s', r, rp, e, q⟩ => by
  unfold aNil at e
  split at e
  · cases e
    cases rp
    exact ⟨rfl, q σ g H r Evo.refl .refl⟩
  · cases e
theorem tg_cons {ts us : List Nat} {t : PyData → S → Option S} {u : List PyData → S → Option S} (h1 : PG X e (TGX X.kk M ts t)) (h2 : PGs X es (TGXs X.kk M us u)) (hs : (assignEach (e :: es) X.env).map (·.2) = assign e X.env :: (assignEach es X.env).map (·.2) := by rfl) : PGs X (e :: es) (TGXs X.kk M (ts ++ us) (aCons t u)) :=
  pgsI (pgs_cons h1 h2 hs) fun vs σ H Q ⟨g, s, ds, s', r, rp, e, q⟩ => by
    unfold aCons at e
    split at e
    · rename_i d ds'
      split at e
      · rename_i s1 e1
        cases rp with
        | cons rp1 rp2 => exact ⟨_, _, rfl, g, s, d, s1, r, rp1, e1, fun σ1 g1 H1 r1 v1 o1 => ⟨g1, s1, ds', s', r1, v1.rpA r.wn rp2, e, fun σ2 g2 H2 r2 v2 o2 => q σ2 g2 H2 r2 (v1.trans v2) (o1.trans o2)⟩⟩
      · cases e
    · cases e
/-- a, b, .. = a tuple -/
def aTup (n : Nat) (a : List PyData → S → Option S) : PyData → S → Option S := fun d s => match d with
  | .tuple ds => if ds.length = n then a ds s else none
  | _ => none
theorem tg_tup {k n : Nat} {ts : List Nat} {t : List PyData → S → Option S} (hc : X.calm = true) (h : PGs X es (TGXs X.kk M ts t)) (hn : (assignEach es X.env).length = n := by rfl) (hst : (assignEach es X.env).findIdx? (·.1) = none := by rfl) : PG X (.Tuple es k pos) (TGX X.kk M ts (aTup n t)) :=
  pgI (pg_tup hc h hn hst) fun v σ H Q ⟨g, s, d, s', r, rp, e, q⟩ => by
    unfold aTup at e
    split at e
    · rename_i ds
      split at e
      · rename_i hl
        cases rp with
        | tup h1 h2 => exact ⟨_, _, rfl, h1, by rw [h2.length]; exact hl, g, s, ds, s', r, h2, e, q⟩
      · cases e
    · cases e
/-- target = e -/
def sAsg (a : PyData → S → Option S) (c : CE) : CS := fun F s => match c F s with
  | some (.d d, s1) => match a d s1 with
    | some s2 => some (.nx, s2)
    | none => none
  | _ => none
theorem ss_asg {tg : Expr} {ce : CE} {fr : Bool} {ts : List Nat} {t : PyData → S → Option S} (he : PE X e (TX X.kk F M fr ce)) (hg : PG X tg (TGX X.kk M ts t)) (hs : swapsWithSole [tg] e pos.line X.env = pure false := by rfl) (hw : swappedStores [tg] e X.env = pure none := by rfl)
    (h1 : (assignEach [tg] X.env).map (·.2) = [assign tg X.env] := by rfl) : PS X (.Assign [tg] e pos) (TSt X.kk F M (sAsg t ce)) := psI (ps_asg he hg hs hw h1) fun D σ H ⟨g, s, f, s', r, ev, q⟩ => by
  unfold sAsg at ev
  split at ev
  · rename_i d s1 e1
    split at ev
    · rename_i s2 e2
      cases ev
      exact ⟨g, s, .d d, s1, r, e1, fun v g1 H1 r1 v1 rp _ => ⟨g1, s1, d, s', r1, rp, e2, fun σ2 g2 H2 r2 v2 _ => q σ2 g2 H2 r2 (v1.trans v2)⟩⟩
    · cases ev
  · cases ev

/-! ### what is walked -/
abbrev IC := Fn → S → Option (List PyData × S × List (Nat × PyData))
/-- the iterator yields the data ds, whatever is done meanwhile to what is owned -/
def Walk (K : KK) (g : G) (H : Hp) (J : It) (ds : List PyData) : Prop := ∀ g2 H2, Evo g g2 H H2 → (∀ b, g2.W b → g2.N b) → (∀ b, g2.N b → H2 b ≠ none) →
  (∀ i d, ds[i]? = some d → J.go i H2 ∧ ∀ x H3, J.yld i H2 x H3 → Same H2 H3 ∧ Rp K g2.N H3 x d) ∧ J.stop ds.length H2
def TIX (K : KK) (F : Fn) (M : Nat → Bool) (ic : IC) : TI := fun σ H R => ∃ g s ds s' l, Rel K M g s σ H ∧ ic F s = some (ds, s', l) ∧
  ∀ J g' H', Rel K M g' s' σ H' → Evo g g' H H' → Lent K M σ g H l g' H' → Walk K g' H' J ds → R J H'
theorem piI {tg : Expr} {t t' : TI} (h : PI X tg e t) (hi : ∀ σ H R, t' σ H R → t σ H R) : PI X tg e t' := ⟨fun pins s σ H R I q => h.run pins s σ H R I (hi _ _ _ q)⟩
def forL (as : PyData → S → Option S) (b : CS) (F : Fn) : List PyData → S → Option (Fl × S)
  | [], s => some (.nx, s)
  | d :: ds, s => match as d s with
    | some s1 => match b F s1 with
      | some (.rt x, s2) => some (.rt x, s2)
      | some (_, s2) => forL as b F ds s2
      | none => none
    | none => none
/-- for target in ..: nothing may be lent -/
def sFor (as : PyData → S → Option S) (ic : IC) (b : CS) : CS := fun F s => match ic F s with
  | some (ds, s1, []) => forL as b F ds s1
  | _ => none
theorem ss_for {tg iter : Expr} {ic : IC} {ts : List Nat} {t : PyData → S → Option S} {ca : CS} {body : List Stmt} (hp : PassesOwn (model X.prog X.w) X.A X.env X.xe) (hc : X.calm = true) (hi : PI X tg iter (TIX X.kk F M ic)) (hg : PG X tg (TGX X.kk M ts t)) (hb : PSs X body (TSt X.kk F M ca)) (hs : ∀ x, foldedSetIterable iter X.env x = pure x := by intro _; rfl) :
    PS X (.For tg iter body [] pos) (TSt X.kk F M (sFor t ic ca)) := psI (ps_for hp hc hi hg hb hs) fun D σ H ⟨g, s, f, s', r, ev, q⟩ => by
  unfold sFor at ev
  split at ev
  · rename_i ds s1 e1
    refine ⟨g, s, ds, s1, [], r, e1, fun J g1 H1 r1 v1 _ W => ?_⟩
    refine ⟨fun i m σ2 H2 => m + i = ds.length ∧ ∃ g2 s2 f s', Rel X.kk M g2 s2 σ2 H2 ∧ Evo g1 g2 H1 H2 ∧ forL t ca F (ds.drop i) s2 = some (f, s') ∧ ∀ σ' g3 H3, Rel X.kk M g3 s' σ' H3 → Evo g2 g3 H2 H3 → FlOk X.kk g3 H3 D σ' f,
      ⟨ds.length, rfl, g1, s1, f, s', r1, Evo.refl, by simpa using ev, fun σ' g3 H3 r3 v3 => q σ' g3 H3 r3 (v1.trans v3)⟩, ?_⟩
    rintro i m σ2 H2 ⟨hm, g2, s2, f2, s2', r2, v2, e2, q2⟩
    obtain ⟨w1, w2⟩ := W g2 H2 v2 r2.wn r2.ex
    cases m with
    | zero =>
      have hi : i = ds.length := by omega
      subst hi
      rw [List.drop_length] at e2
      cases e2
      exact .inl ⟨w2, q2 σ2 g2 H2 r2 Evo.refl⟩
    | succ m =>
      have hi : i < ds.length := by omega
      have hd : ds[i]? = some ds[i] := List.getElem?_eq_getElem hi
      obtain ⟨go, yl⟩ := w1 i _ hd
      rw [List.drop_eq_getElem_cons hi] at e2
      unfold forL at e2
      split at e2
      · rename_i s3 e3
        split at e2
        · rename_i x s4 e4
          cases e2
          refine .inr ⟨go, fun _ _ => False, fun _ _ z => z.elim, fun x' H3 y => ?_⟩
          obtain ⟨k, rp⟩ := yl x' H3 y
          refine ⟨g2, s2, ds[i], s3, r2.same k, rp, e3, fun σ4 g4 H4 r4 v4 _ => ⟨g4, s3, .rt x, _, r4, e4, fun σ5 g5 H5 r5 v5 => ?_⟩⟩
          exact q2 σ5 g5 H5 r5 (((Evo.same k).trans v4).trans v5)
        · rename_i f4 s4 hf e4
          refine .inr ⟨go, fun σ5 H5 => ∃ g5, Rel X.kk M g5 s4 σ5 H5 ∧ Evo g2 g5 H2 H5, fun σ5 H5 z => ?_, fun x' H3 y => ?_⟩
          · obtain ⟨g5, r5, v5⟩ := z
            exact ⟨m, Nat.lt_succ_self m, by omega, g5, s4, f2, s2', r5, v2.trans v5, e2, fun σ' g6 H6 r6 v6 => q2 σ' g6 H6 r6 (v5.trans v6)⟩
          · obtain ⟨k, rp⟩ := yl x' H3 y
            refine ⟨g2, s2, ds[i], s3, r2.same k, rp, e3, fun σ4 g4 H4 r4 v4 _ => ⟨g4, s3, f4, s4, r4, e4, fun σ5 g5 H5 r5 v5 => ?_⟩⟩
            have z : Evo g2 g5 H2 H5 := ((Evo.same k).trans v4).trans v5
            cases f4 with
            | nx => exact ⟨g5, r5, z⟩
            | ct => exact ⟨g5, r5, z⟩
            | rt x => exact absurd rfl (hf x)
        · cases e2
      · cases e2
  · cases ev

/-! ### the sources -/
theorem walk_list {K : KK} {g : G} {H : Hp} {a : Addr} {xs : List V} {ds : List PyData} (wn : ∀ b, g.W b → g.N b) (st : ∀ g2 H2, Evo g g2 H H2 → SqL K.k H2 a xs) (r : RpA K g.N H xs ds) : Walk K g H (Itl K.k a) ds := fun g2 H2 v _ _ => by
  have hr2 : SqL K.k H2 a xs := st g2 H2 v
  have r2 := v.rpA wn r
  refine ⟨fun i d e => ?_, ⟨xs, hr2, by rw [r.length]; exact Nat.le_refl _⟩⟩
  obtain ⟨x, ex, rx⟩ := r2.get e
  refine ⟨⟨xs, x, hr2, ex⟩, fun y H3 ⟨e1, e2⟩ => ?_⟩
  subst e1
  have e3 := e2 xs hr2
  rw [ex] at e3
  cases e3
  exact ⟨fun _ _ h => h, rx⟩
end
end Ev
/-! Ev7: sources: lists, tuples, ranges, enumerate, zip. -/
namespace Ev
open PySem PySem.Spec L2

section
variable {X : Cx} {M : Nat → Bool} {F : Fn} {tg a b c e : Expr} {es : List Expr} {pos p : Pos}
theorem walk_tup {K : KK} {g : G} {H : Hp} {a : Addr} {xs : List V} {ds : List PyData} (wn : ∀ b, g.W b → g.N b) (hr : SqT K.k H a xs) (r : RpA K g.N H xs ds) : Walk K g H (Itt K.k a) ds := fun g2 H2 v _ _ => by
  have hr2 : SqT K.k H2 a xs := v.seq hr
  have r2 := v.rpA wn r
  refine ⟨fun i d e => ?_, ⟨xs, hr2, by rw [r.length]; exact Nat.le_refl _⟩⟩
  obtain ⟨x, ex, rx⟩ := r2.get e
  refine ⟨⟨xs, x, hr2, ex⟩, fun y H3 ⟨e1, e2⟩ => ?_⟩
  subst e1
  have e3 := e2 xs hr2
  rw [ex] at e3
  cases e3
  exact ⟨fun _ _ h => h, rx⟩
/-- a list or a tuple that is read, and stays -/
theorem RpT.seqL {K : KK} {g : G} {H : Hp} {v : V} {ds : List PyData} (wn : ∀ b, g.W b → g.N b) (h : RpT K g H v (.list ds)) : ∃ a xs, v = .ref a ∧ SqL K.k H a xs ∧ RpA K g.N H xs ds ∧ ∀ g2 H2, Evo g g2 H H2 → SqL K.k H2 a xs := by
  have kp : ∀ {a : Addr} {xs : List V}, Rd H a (.lst xs) → ¬ g.W a → ∀ g2 H2, Evo g g2 H H2 → SqL K.k H2 a xs := fun {a xs} hr nw g2 H2 v => by
    rcases hr with h | ⟨o, h⟩
    · exact .inl (.inl (v.keep _ _ h nw))
    · exact .inl (.inr ⟨o, v.keep _ _ h nw⟩)
  rcases h with h | ⟨a, rfl, ⟨xs, e, r⟩, nw⟩
  · cases h with
    | lst h1 h2 h3 => exact ⟨_, _, rfl, .inl h1, h3, kp h1 fun z => h2 (wn _ z)⟩
    | lstK h1 h2 h3 h4 => exact ⟨_, _, rfl, Lr.sq (.inr ⟨_, _, h1, h2, h3⟩), h4, fun g2 H2 v => Lr.sq (.inr ⟨_, _, h1, h2, h3⟩)⟩
  · exact ⟨a, xs, rfl, .inl (.inl e), r, kp (.inl e) nw⟩
theorem RpT.seqT {K : KK} {g : G} {H : Hp} {v : V} {ds : List PyData} (h : RpT K g H v (.tuple ds)) : ∃ a xs, v = .ref a ∧ SqT K.k H a xs ∧ RpA K g.N H xs ds := by
  rcases h with h | ⟨a, rfl, t, nw⟩
  · cases h with
    | tup h1 h2 => exact ⟨_, _, rfl, h1, h2⟩
  · exact t.elim
def itemsOf : PyData → Option (List PyData)
  | .list ds => some ds
  | .tuple ds => some ds
  | _ => none
/-- a list or a tuple, as it stands -/
def icSeq (o : Opd) : IC := fun F s => match o.ev F s with
  | some (d, s', l) => match itemsOf d with
    | some ds => some (ds, s', l)
    | none => none
  | none => none
def iSeq (K : KK) (te : TE) : TI := fun σ H R => te σ H fun x H1 => (∃ a xs, x = .ref a ∧ SqL K.k H1 a xs ∧ R (Itl K.k a) H1) ∨ ∃ a xs, x = .ref a ∧ SqT K.k H1 a xs ∧ R (Itt K.k a) H1
theorem pi_seq {te : TE} (he : PE X e te) : PI X tg e (iSeq X.kk te) := by
  refine ⟨fun pins s σ H R I h => thn (he.run pins s σ H _ I h) fun v s1 ⟨x, H1, I1, r1, q1⟩ => ?_⟩
  have mine : ∀ b, b ∈ [s1.heap.objs.size] → FpOk X pins H1 b := fun b hb => by
    have e : b = s1.heap.objs.size := by simpa using hb
    subst e
    exact I1.fpOk (Nat.le_refl _) (I1.hok.fresh (Nat.le_refl _))
  rcases q1 with ⟨a, xs, e, hq, q⟩ | ⟨a, xs, e, hq, q⟩
  · subst e
    cases r1
    obtain ⟨its, rv, p, hz⟩ := I1.list hq
    exact wpAny_pyIter_list p.isList ⟨_, _, _, _, H1, rfl, I1.kept (t' := s1.toks) fun b o e => Heap.get?_push_of_some _ e, turn_list a _, ⟨_, Heap.get?_push_size _ rfl, rfl, rfl⟩, mine, q⟩
  · subst e
    cases r1
    obtain ⟨its, rv, p, hz⟩ := I1.tuple hq
    exact wpAny_pyIter_tuple (show s1.heap.IsTuple a its.toArray from p) ⟨_, _, _, _, H1, rfl, I1.kept (t' := s1.toks) fun b o e => Heap.get?_push_of_some _ e, turn_tuple a _, ⟨_, Heap.get?_push_size _ rfl, rfl, rfl⟩, mine, q⟩
theorem it_seq {o : Opd} (he : PE X e (TP X.kk F M o)) : PI X tg e (TIX X.kk F M (icSeq o)) := piI (pi_seq he) fun σ H R ⟨g, s, ds, s', l, r, ev, q⟩ => by
  unfold icSeq at ev
  split at ev
  · rename_i d s1 l1 e1
    split at ev
    · rename_i ds1 e2
      cases ev
      refine ⟨g, s, d, s', l, r, e1, fun v g1 H1 r1 v1 rp L => ?_⟩
      cases d with
      | list ds' =>
        cases e2
        obtain ⟨a, xs, rfl, hr, ra, nw⟩ := rp.seqL r1.wn
        exact .inl ⟨a, xs, rfl, hr, q _ g1 H1 r1 v1 L (walk_list r1.wn nw ra)⟩
      | tuple ds' =>
        cases e2
        obtain ⟨a, xs, rfl, hr, ra⟩ := rp.seqT
        exact .inr ⟨a, xs, rfl, hr, q _ g1 H1 r1 v1 L (walk_tup r1.wn hr ra)⟩
      | _ => cases e2
    · cases ev
  · cases ev

/-! ### ranges -/
def intsFrom (lo : Int) (n : Nat) : List PyData := (List.range n).map fun k => .int (lo + (k : Nat))
theorem walk_rng {K : KK} {g : G} {H : Hp} (lo : Int) (n : Nat) : Walk K g H (Itr lo n) (intsFrom lo n) := fun g2 H2 v _ _ => by
  have hl : (intsFrom lo n).length = n := by unfold intsFrom; simp
  refine ⟨fun i d e => ?_, by rw [hl]; exact Nat.le_refl _⟩
  have hi : i < n := by rw [← hl]; exact (List.getElem?_eq_some_iff.mp e).1
  refine ⟨hi, fun x H3 ⟨e1, e2⟩ => ?_⟩
  subst e1 e2
  unfold intsFrom at e
  rw [List.getElem?_map, List.getElem?_range hi] at e
  cases e
  exact ⟨fun _ _ h => h, .int _⟩
def rgOk (i : Int) : Bool := decide (-(2 ^ 62) ≤ i) && decide (i < 2 ^ 62)
theorem rgOk_iff {i : Int} (h : rgOk i = true) : -(2 ^ 62) ≤ i ∧ i < 2 ^ 62 := by
  unfold rgOk at h
  rw [Bool.and_eq_true, decide_eq_true_eq, decide_eq_true_eq] at h
  exact h
/-- range(n), range(a, b), range(a, b, c) -/
def icRng1 (o : Opd) : IC := fun F s => match evOps [o] F s with
  | some ([.int j], s', l) => if rgOk j then some (intsFrom 0 j.toNat, s', l) else none
  | _ => none
def icRng2 (o o' : Opd) : IC := fun F s => match evOps [o, o'] F s with
  | some ([.int i, .int j], s', l) => if rgOk i && rgOk j then some (intsFrom i (j - i).toNat, s', l) else none
  | _ => none
theorem it_rng1 {o : Opd} (hg : Gl X "range") (hm : X.mg "range" = none) (ha : PE X a (TP X.kk F M o)) (hs : starEach [a] X.env = [(false, eval a X.env)] := by rfl) : PI X tg (.Call (.Name "range" p) [a] [] pos) (TIX X.kk F M (icRng1 o)) :=
  piI (pi_range1 hg hm (ops_cons ha ops_nil hs) hs) fun σ H R ⟨g, s, ds, s', l, r, ev, q⟩ => by
    unfold icRng1 at ev
    split at ev
    · rename_i j s1 l1 e1
      split at ev
      · rename_i hj
        cases ev
        refine ⟨g, s, _, s', l, r, e1, fun vs g1 H1 r1 v1 rp L => ?_⟩
        cases rp with
        | cons rp1 rp2 =>
          cases rp2
          obtain ⟨h1, h2⟩ := rgOk_iff hj
          exact ⟨j, by rw [rp1.v.int], h1, h2, q _ g1 H1 r1 v1 L (walk_rng 0 j.toNat)⟩
      · cases ev
    · cases ev
theorem it_rng2 {o o' : Opd} (hg : Gl X "range") (hm : X.mg "range" = none) (ha : PE X a (TP X.kk F M o)) (hb : PE X b (TP X.kk F M o')) (hs : starEach [a, b] X.env = [(false, eval a X.env), (false, eval b X.env)] := by rfl) (hs2 : starEach [b] X.env = [(false, eval b X.env)] := by rfl) :
    PI X tg (.Call (.Name "range" p) [a, b] [] pos) (TIX X.kk F M (icRng2 o o')) :=
  piI (pi_range2 hg hm (ops_cons ha (ops_cons hb ops_nil hs2) (by rw [hs, hs2])) hs hs2) fun σ H R ⟨g, s, ds, s', l, r, ev, q⟩ => by
    unfold icRng2 at ev
    split at ev
    · rename_i i j s1 l1 e1
      split at ev
      · rename_i hj
        cases ev
        refine ⟨g, s, _, s', l, r, e1, fun vs g1 H1 r1 v1 rp L => ?_⟩
        cases rp with
        | cons rp1 rp2 =>
          cases rp2 with
          | cons rp2 rp3 =>
            cases rp3
            rw [Bool.and_eq_true] at hj
            obtain ⟨h1, h2⟩ := rgOk_iff hj.1
            obtain ⟨h3, h4⟩ := rgOk_iff hj.2
            exact ⟨i, j, by rw [rp1.v.int, rp2.v.int], ⟨h1, h2, h3, h4⟩, q _ g1 H1 r1 v1 L (walk_rng i (j - i).toNat)⟩
      · cases ev
    · cases ev

/-! ### enumerate of a list -/
def pairUp : Nat → List PyData → List PyData
  | _, [] => []
  | k, d :: ds => .tuple [.int k, d] :: pairUp (k + 1) ds
theorem pairUp_length : ∀ (k : Nat) (ds : List PyData), (pairUp k ds).length = ds.length
  | _, [] => rfl
  | k, _ :: ds => by unfold pairUp; rw [List.length_cons, List.length_cons, pairUp_length]
theorem pairUp_get : ∀ {k : Nat} {ds : List PyData} {i : Nat} {d : PyData}, (pairUp k ds)[i]? = some d → ∃ d', ds[i]? = some d' ∧ d = .tuple [.int ((k + i : Nat) : Int), d']
  | _, [], _, _, e => by simp [pairUp] at e
  | k, d' :: ds, 0, d, e => by simp [pairUp] at e; exact ⟨d', rfl, by simp [← e]⟩
  | k, d' :: ds, i + 1, d, e => by
    obtain ⟨d2, h1, h2⟩ := pairUp_get (k := k + 1) (ds := ds) (i := i) (d := d) (by simpa [pairUp] using e)
    exact ⟨d2, by simpa using h1, by rw [h2, show k + 1 + i = k + (i + 1) by omega]⟩
theorem pair_at {K : KK} {N : Addr → Prop} {H : Hp} {T : Addr} {x y : V} {dx dy : PyData} (hT : H T = none) (rx : Rp K N H x dx) (ry : Rp K N H y dy) : Same H (upd H T (.tup [x, y])) ∧ Rp K N (upd H T (.tup [x, y])) (.ref T) (.tuple [dx, dy]) := by
  have k : Same H (upd H T (.tup [x, y])) := fun b o e => by rw [upd_ne (ne_of_none e hT)]; exact e
  exact ⟨k, .tup (.inl (.inl upd_same)) (.cons (rx.same k) (.cons (ry.same k) .nil))⟩
theorem walk_enum {K : KK} {g : G} {H : Hp} {a : Addr} {xs : List V} {ds : List PyData} (wn : ∀ b, g.W b → g.N b) (st : ∀ g2 H2, Evo g g2 H H2 → SqL K.k H2 a xs) (r : RpA K g.N H xs ds) : Walk K g H (Ite K.k a) (pairUp 0 ds) := fun g2 H2 v _ _ => by
  have hr2 : SqL K.k H2 a xs := st g2 H2 v
  have r2 := v.rpA wn r
  refine ⟨fun i d e => ?_, ⟨xs, hr2, by rw [pairUp_length, r.length]; exact Nat.le_refl _⟩⟩
  obtain ⟨d', e', rfl⟩ := pairUp_get e
  obtain ⟨x, ex, rx⟩ := r2.get e'
  refine ⟨⟨xs, x, hr2, ex⟩, fun y H3 ⟨T, x', e1, hT, e2, e3⟩ => ?_⟩
  subst e1 e2
  have e4 := e3 xs hr2
  rw [ex] at e4
  cases e4
  rw [Nat.zero_add]
  exact pair_at hT (.int _) rx
end
end Ev
/-! Ev8a: a tuple times any int. -/
namespace Ev
open PySem PySem.Spec PyProof.Rows L2
theorem tuple_same (l : Addr) (items : Array Value) (n : Nat) (dd : Option Addr) (sl : Array (Option Value)) (x : Int) (u : Tok) (c0 : (decide (x < -(2 ^ 63)) || decide (x ≥ 2 ^ 63)) = false) (c1 : (items.isEmpty || x == 1) = true) :
    Meets (Builtin.«tuple.__mul__» ⟨[.ref l, .int x u], []⟩) (fun _ R s => s.heap.get? l = some { cls := .type "tuple", dict := dd, data := .seq items n, slots := sl } ∧ R (.ok (.ret (.ref l))) s) :=
  .of_wp fun prog w A R s h => by
    obtain ⟨hp, g, d, tk, os⟩ := s
    obtain ⟨hl, h⟩ := h
    have f1 := AutoSeq1.idx_int
    wp_walk using wpAny_loadPart' hl
    refine wpAny_ite_false (decide_eq_false (by rw [c0]; exact Bool.false_ne_true)) ?_
    wp_walk using wpAny_loadPart' hl
    exact ⟨_, rfl, h⟩
theorem tuple_zero (l : Addr) (items : Array Value) (n : Nat) (dd : Option Addr) (sl : Array (Option Value)) (x : Int) (u : Tok) (c0 : (decide (x < -(2 ^ 63)) || decide (x ≥ 2 ^ 63)) = false) (c1 : (items.isEmpty || x == 1) = false) (c2 : (decide (x ≤ 0) || items.isEmpty) = true) :
    Meets (Builtin.«tuple.__mul__» ⟨[.ref l, .int x u], []⟩) (fun _ R s => s.heap.get? l = some { cls := .type "tuple", dict := dd, data := .seq items n, slots := sl } ∧ R (.ok (.ret (.ref s.heap.objs.size))) { s with heap := s.heap.push { cls := Value.type "tuple", data := Data.seq #[] }, toks := s.toks }) :=
  .of_wp fun prog w A R s h => by
    obtain ⟨hp, g, d, tk, os⟩ := s
    obtain ⟨hl, h⟩ := h
    have f1 := AutoSeq1.idx_int
    wp_walk using wpAny_loadPart' hl
    refine wpAny_ite_false (decide_eq_false (by rw [c0]; exact Bool.false_ne_true)) ?_
    wp_walk using wpAny_loadPart' hl
    exact ⟨_, rfl, h⟩
section
variable {X : Cx}
def rRepA (K : KK) : R2 := fun x y H Q => ∃ l k xs, x = .ref l ∧ y = .int k ∧ SqT K.k H l xs ∧ -(2 ^ 63) ≤ k ∧ k ≤ 1000 ∧ xs.length ≤ 1000 ∧ (xs = [] ∨ k = 1 → Q (.ref l) H) ∧ (xs ≠ [] → k ≠ 1 → ∀ p, H p = none → Q (.ref p) (upd H p (.tup (List.replicate k.toNat xs).flatten)))
theorem op_repA : OpR X (binaryOp .Mult) (rRepA X.kk) := by
  intro pins s σ H x y v u Q I rx ry h
  obtain ⟨l, k, xs, rfl, rfl, hT, h1, h2, hz, q1, q2⟩ := h
  cases rx
  obtain ⟨t, rfl⟩ := ry
  obtain ⟨its, r, ⟨⟨cls, dd, data, sl⟩, ho, hc, n, hd⟩, hs⟩ := I.tuple hT
  simp only at hc hd
  subst hc hd
  have hle : its.length = xs.length := r.length.symm
  have c0 : (decide (k < -(2 ^ 63)) || decide (k ≥ 2 ^ 63)) = false := by
    rw [decide_eq_false (by omega), decide_eq_false (by omega)] <;> rfl
  have road : ∀ {R : Value → Shared → Prop}, (wpAny (model X.prog X.w) X.A (call (.builtin "tuple.__mul__") [.ref l, .int k t]) R X.xe s) → wpAny (model X.prog X.w) X.A (binaryOp .Mult (.ref l) (.int k t)) R X.xe s := fun h =>
    wpAny_binaryOp_repeat_ref (T := "tuple") (U := "int") (by decide) ⟨_, ho, rfl⟩ (fun s' => typeIs_int s' k t) noFill_tuple_mul F.fills_int_mul F.slot_int_rmul repeat_tuple F.slot_int_index.lookup
      (call_meets F.slot_int_rmul (typeIs_int s k t) F.entry_int_rmul (F.args_int_rmul_2 _ _) (int_rmul_tuple k t l its.toArray n dd sl) ⟨ho, rfl, ⟨_, ho, rfl⟩, h⟩)
  by_cases hx : xs = [] ∨ k = 1
  · have c1 : (its.toArray.isEmpty || k == 1) = true := by
      rcases hx with e | e
      · subst e; cases r; rfl
      · subst e; simp
    exact road (call_meets F.slot_tuple_mul ⟨_, ho, rfl⟩ F.entry_tuple_mul (F.args_tuple_mul_2 _ _) (tuple_same l its.toArray n dd sl k t c0 c1) ⟨ho, ⟨.ref l, H, I, rfl, q1 hx⟩⟩)
  · have hn : xs ≠ [] := fun e => hx (.inl e)
    have hk : k ≠ 1 := fun e => hx (.inr e)
    by_cases h0 : 2 ≤ k
    · exact op_repT pins s σ H (.ref l) (.int k) _ _ Q I rfl ⟨t, rfl⟩ ⟨l, k, xs, rfl, rfl, hT, hn, h0, h2, hz, q2 hn hk⟩
    · have hi : its.toArray.isEmpty = false := by
        cases its with
        | nil => cases r; exact absurd rfl hn
        | cons a b => rfl
      have c1 : (its.toArray.isEmpty || k == 1) = false := by
        rw [hi, Bool.false_or]
        exact beq_eq_false_iff_ne.mpr hk
      have c2 : (decide (k ≤ 0) || its.toArray.isEmpty) = true := by rw [decide_eq_true (by omega)]; rfl
      refine road (call_meets F.slot_tuple_mul ⟨_, ho, rfl⟩ F.entry_tuple_mul (F.args_tuple_mul_2 _ _) (tuple_zero l its.toArray n dd sl k t c0 c1 c2) ⟨ho, ?_⟩)
      have q := q2 hn hk
      have e0 : k.toNat = 0 := by omega
      rw [e0] at q
      refine ⟨.ref s.heap.objs.size, _, I.laid (t' := s.toks) (o := .tup []) (fun b ob q => Heap.get?_push_of_some _ q) (Nat.le_refl _) ?_, rfl, q _ (I.hok.fresh (Nat.le_refl _))⟩
      exact ⟨Nat.zero_le _, [], .nil, IsTup.new _ _⟩
/-- a list that is read: its object -/
theorem lstR {pins : List (Addr × Obj)} {s : Shared} {σ : L2.St} {H : Hp} {l : Addr} {xs : List V} (I : Inv X pins σ H s) (h : Lr X.K H l xs) : xs.length ≤ sizeLine ∧ ∃ (its : List Value) (n : Nat), Vals xs its ∧ xs.length = its.length ∧ s.heap.get? l = some { cls := .type "list", data := .seq its.toArray n } := by
  rcases h with h | ⟨its, n, e, z, r⟩
  · obtain ⟨z, its, n, r, e⟩ := h.ok I.hok
    exact ⟨z, its, n, r, r.length, e⟩
  · have hl := r.length
    refine ⟨by rw [hl, Array.length_toList]; exact z, its.toList, n, r, hl, ?_⟩
    have q := I.kIn l _ e
    rw [Array.toArray_toList]
    exact q
theorem cat_lists {pins : List (Addr × Obj)} {s : Shared} {σ : L2.St} {H : Hp} {l b : Addr} {xs zs : List V} {Q : VK} (I : Inv X pins σ H s) (hl : Lr X.K H l xs) (hb : Lr X.K H b zs) (hz : xs.length + zs.length ≤ sizeLine)
    (q : ∀ p, H p = none → Q (.ref p) (upd H p (.lst (xs ++ zs)))) : wpAny (model X.prog X.w) X.A (binaryOp .Add (.ref l) (.ref b)) (EP X pins σ Q) X.xe s := by
  obtain ⟨z1, its, n1, r, h1, e1⟩ := lstR I hl
  obtain ⟨z2, its2, n2, r2, h2, e2⟩ := lstR I hb
  refine PySem.P.add_list e1 e2 ?_ (by simp only [List.size_toArray]; omega)
  rw [show its.toArray ++ its2.toArray = (its ++ its2).toArray by simp]
  exact ⟨.ref _, _, I.lnew (t' := s.toks) (r.append r2) (by rw [List.length_append]; omega), rfl, q _ I.fresh⟩
/-- a list that is read, times an int -/
theorem rep_list {pins : List (Addr × Obj)} {s : Shared} {σ : L2.St} {H : Hp} {l : Addr} {k : Int} {t : Tok} {xs : List V} {Q : VK} (I : Inv X pins σ H s) (hl : Lr X.K H l xs) (h1 : -(2 ^ 63) ≤ k) (h2 : k < 2 ^ 63) (hz : xs.length * k.toNat ≤ sizeLine)
    (q : ∀ p, H p = none → Q (.ref p) (upd H p (.lst (List.replicate k.toNat xs).flatten))) : wpAny (model X.prog X.w) X.A (binaryOp .Mult (.ref l) (.int k t)) (EP X pins σ Q) X.xe s := by
  obtain ⟨z1, its, n, r, hln, e⟩ := lstR I hl
  have hlen : its.toArray.size * k.toNat ≤ sizeLine := by rw [List.size_toArray, ← hln]; exact hz
  have big : (sizeLine : Nat) ≤ (2 ^ 63 - 1) / 8 := by decide
  have cap : ¬ its.toArray.size * k.toNat > (2 ^ 63 - 1) / 8 := by omega
  have fit : ¬ (!Builtin.List.listFitsIndex k) = true := by rw [fitsIndex_both h1 h2]; exact Bool.false_ne_true
  have long : ¬ Builtin.List.listTooLong (its.toArray.size * k.toNat) = true := by rw [notLongL hlen]; exact Bool.false_ne_true
  have made : List.foldl (fun x1 x2 => x1 ++ x2) #[] (List.replicate (if its.toArray.isEmpty = true then 0 else k.toNat) its.toArray) = (List.replicate k.toNat its).flatten.toArray := by
    cases its with
    | nil => simp
    | cons a r' => rw [if_neg (by simp), size_rep]
  refine wpAny_binaryOp_repeat_ref (T := "list") (U := "int") (by decide) ⟨_, e, rfl⟩ (fun s' => typeIs_int s' k t) noFill_list_mul F.fills_int_mul F.slot_int_rmul repeat_list F.slot_int_index.lookup
    (call_meets F.slot_int_rmul (typeIs_int s k t) F.entry_int_rmul (F.args_int_rmul_2 _ _) (int___rmul___int_list k t l its.toArray n)
      ⟨e, rfl, ⟨_, e, rfl⟩, call_meets F.slot_list_mul ⟨_, e, rfl⟩ F.entry_list_mul (F.args_list_mul_2 _ _) (AutoListH.list___mul___list_int_3 l its.toArray n k t fit cap long) ⟨e, ?_⟩⟩)
  rw [made]
  exact ⟨.ref _, _, I.lnew (t' := s.toks) (r.rep k.toNat) (by rw [PyProof.Rows.lm_len_rep_flat, Nat.mul_comm]; exact hz), rfl, q _ I.fresh⟩
end
end Ev
/-! Ev8: operators and built-ins by values. -/
namespace Ev
open PySem PySem.Spec L2

section
variable {X : Cx} {M : Nat → Bool} {F : Fn} {tg a b c e : Expr} {es : List Expr} {pos p : Pos}
theorem RpV.lstR {K : KK} {N : Addr → Prop} {H : Hp} {v : V} {ds : List PyData} (h : RpV K N H v (.list ds)) : ∃ a xs, v = .ref a ∧ Lr K.k H a xs ∧ RpA K N H xs ds := by
  rcases h with h | ⟨a, rfl, xs, e, r⟩
  · cases h with
    | lst h1 h2 h3 => exact ⟨_, _, rfl, .inl h1, h3⟩
    | lstK h1 h2 h3 h4 => exact ⟨_, _, rfl, .inr ⟨_, _, h1, h2, h3⟩, h4⟩
  · exact ⟨a, xs, rfl, .inl (.inl e), r⟩
/-! ### + - * // % ** -/
def fAdd : PyData → PyData → Option PyData
  | .int i, .int j => some (.int (i + j))
  | .list xs, .list ys => if xs.length + ys.length ≤ sizeLine then some (.list (xs ++ ys)) else none
  | .tuple xs, .tuple ys => if xs.length + ys.length ≤ sizeLine then some (.tuple (xs ++ ys)) else none
  | .str x, .str y => if x.length + y.length ≤ sizeLine then some (.str (x ++ y)) else none
  | _, _ => none
theorem od_add : OpR X (binaryOp .Add) (R2D X.kk fAdd) := by
  intro pins s σ H x y v u Q I rx ry ⟨N, dx, dy, d, ex, hx, hy, hf, q⟩
  unfold fAdd at hf
  split at hf
  · cases hf
    cases hx.int; cases hy.int
    exact op_add pins s σ H _ _ v u Q I rx ry ⟨_, _, rfl, rfl, vr_val (.int _) rfl q⟩
  · split at hf
    · rename_i hz
      cases hf
      obtain ⟨l, ls, rfl, hl, r1⟩ := hx.lstR
      obtain ⟨b, bs, rfl, hb, r2⟩ := hy.lstR
      cases rx; cases ry
      exact cat_lists I hl hb (by rw [r1.length, r2.length]; exact hz) fun p hp => vr_lst ex (r1.append r2) q hp
    · cases hf
  · split at hf
    · rename_i hz
      cases hf
      obtain ⟨l, ls, rfl, hl, r1⟩ := hx.tup
      obtain ⟨b, bs, rfl, hb, r2⟩ := hy.tup
      refine op_catA pins s σ H _ _ v u Q I rx ry ⟨l, b, ls, bs, rfl, rfl, hl, hb, by rw [r1.length, r2.length]; exact hz, fun e => ?_, fun _ e => ?_, fun _ _ p hp => vr_tup (r1.append r2) q hp⟩
      · subst e
        cases r1
        exact vr_val (.tup hb r2) rfl q
      · subst e
        cases r2
        rw [List.append_nil] at q
        exact vr_val (.tup hl r1) rfl q
    · cases hf
  · split at hf
    · rename_i hz
      cases hf
      cases hx.str; cases hy.str
      exact op_add_str pins s σ H _ _ v u Q I rx ry ⟨_, _, rfl, rfl, hz, vr_val (.str _) rfl q⟩
    · cases hf
  · cases hf
def fSub : PyData → PyData → Option PyData
  | .int i, .int j => some (.int (i - j))
  | _, _ => none
theorem od_sub : OpR X (binaryOp .Sub) (R2D X.kk fSub) := by
  intro pins s σ H x y v u Q I rx ry ⟨N, dx, dy, d, ex, hx, hy, hf, q⟩
  unfold fSub at hf
  split at hf
  · cases hf
    cases hx.int; cases hy.int
    exact op_sub pins s σ H _ _ v u Q I rx ry ⟨_, _, rfl, rfl, vr_val (.int _) rfl q⟩
  · cases hf
def small64 (i : Int) : Bool := decide (-(2 ^ 64) < i) && decide (i < 2 ^ 64)
def small63 (i : Int) : Bool := decide (-(2 ^ 63) ≤ i) && decide (i < 2 ^ 63)
theorem small64_iff {i : Int} (h : small64 i = true) : -(2 ^ 64) < i ∧ i < 2 ^ 64 := by
  unfold small64 at h
  rw [Bool.and_eq_true, decide_eq_true_eq, decide_eq_true_eq] at h
  exact h
theorem small63_iff {i : Int} (h : small63 i = true) : -(2 ^ 63) ≤ i ∧ i < 2 ^ 63 := by
  unfold small63 at h
  rw [Bool.and_eq_true, decide_eq_true_eq, decide_eq_true_eq] at h
  exact h
def fMul : PyData → PyData → Option PyData
  | .int i, .int j => if small64 i || small64 j then some (.int (i * j)) else none
  | .list xs, .int k => if small63 k && decide (xs.length * k.toNat ≤ sizeLine) then some (.list (List.replicate k.toNat xs).flatten) else none
  | .tuple xs, .int k => if decide (-(2 ^ 63) ≤ k) && decide (k ≤ 1000) && decide (xs.length ≤ 1000) then some (.tuple (List.replicate k.toNat xs).flatten) else none
  | _, _ => none
theorem od_mul : OpR X (binaryOp .Mult) (R2D X.kk fMul) := by
  intro pins s σ H x y v u Q I rx ry ⟨N, dx, dy, d, ex, hx, hy, hf, q⟩
  unfold fMul at hf
  split at hf
  · split at hf
    · rename_i hz
      cases hf
      cases hx.int; cases hy.int
      rw [Bool.or_eq_true] at hz
      exact op_mul pins s σ H _ _ v u Q I rx ry ⟨_, _, rfl, rfl, hz.imp small64_iff small64_iff, vr_val (.int _) rfl q⟩
    · cases hf
  · split at hf
    · rename_i hz
      cases hf
      rw [Bool.and_eq_true, decide_eq_true_eq] at hz
      obtain ⟨l, ls, rfl, hl, r1⟩ := hx.lstR
      cases hy.int
      obtain ⟨t, rfl⟩ := ry
      cases rx
      obtain ⟨z1, z2⟩ := small63_iff hz.1
      exact rep_list I hl z1 z2 (by rw [r1.length]; exact hz.2) fun p hp => vr_lst ex (r1.rep _) q hp
    · cases hf
  · split at hf
    · rename_i hz
      cases hf
      simp only [Bool.and_eq_true, decide_eq_true_eq] at hz
      obtain ⟨l, ls, rfl, hl, r1⟩ := hx.tup
      cases hy.int
      refine op_repA pins s σ H _ _ v u Q I rx ry ⟨l, _, ls, rfl, rfl, hl, hz.1.1, hz.1.2, by rw [r1.length]; exact hz.2, fun e => ?_, fun _ _ p hp => vr_tup (r1.rep _) q hp⟩
      rcases e with e | e
      · subst e
        cases r1
        refine vr_val (.tup hl ?_) rfl q
        rw [show ∀ n : Nat, (List.replicate n ([] : List PyData)).flatten = [] from fun n => by induction n <;> simp_all [List.replicate_succ]]
        exact .nil
      · subst e
        refine vr_val (.tup hl ?_) rfl q
        simpa using r1
    · cases hf
  · cases hf
def fDiv : PyData → PyData → Option PyData
  | .int i, .int j => if decide (0 < j) && decide (j < 1073741824) then some (.int (i / j)) else none
  | _, _ => none
theorem od_div : OpR X (binaryOp .FloorDiv) (R2D X.kk fDiv) := by
  intro pins s σ H x y v u Q I rx ry ⟨N, dx, dy, d, ex, hx, hy, hf, q⟩
  unfold fDiv at hf
  split at hf
  · split at hf
    · rename_i hz
      cases hf
      cases hx.int; cases hy.int
      simp only [Bool.and_eq_true, decide_eq_true_eq] at hz
      exact op_fdiv pins s σ H _ _ v u Q I rx ry ⟨_, _, rfl, rfl, hz, vr_val (.int _) rfl q⟩
    · cases hf
  · cases hf
def fMod : PyData → PyData → Option PyData
  | .int i, .int j => if 0 < j then some (.int (i % j)) else none
  | _, _ => none
theorem od_mod : OpR X (binaryOp .Mod) (R2D X.kk fMod) := by
  intro pins s σ H x y v u Q I rx ry ⟨N, dx, dy, d, ex, hx, hy, hf, q⟩
  unfold fMod at hf
  split at hf
  · split at hf
    · rename_i hz
      cases hf
      cases hx.int; cases hy.int
      exact op_mod pins s σ H _ _ v u Q I rx ry ⟨_, _, rfl, rfl, hz, vr_val (.int _) rfl q⟩
    · cases hf
  · cases hf
def fPow : PyData → PyData → Option PyData
  | .int i, .int j => if decide (0 ≤ j) && decide (j ≤ 1000000) && decide (i.natAbs < 2 ^ 64) then some (.int (i ^ j.toNat)) else none
  | _, _ => none
theorem od_pow : OpR X (binaryOp .Pow) (R2D X.kk fPow) := by
  intro pins s σ H x y v u Q I rx ry ⟨N, dx, dy, d, ex, hx, hy, hf, q⟩
  unfold fPow at hf
  split at hf
  · split at hf
    · rename_i hz
      cases hf
      cases hx.int; cases hy.int
      simp only [Bool.and_eq_true, decide_eq_true_eq] at hz
      exact op_pow pins s σ H _ _ v u Q I rx ry ⟨_, _, rfl, rfl, ⟨hz.1.1, hz.1.2, hz.2⟩, vr_val (.int _) rfl q⟩
    · cases hf
  · cases hf
/-! ### minus -/
def R1D (K : KK) (f : PyData → Option PyData) : V → Hp → VK → Prop := fun x H Q => ∃ N dx d, (∀ a, N a → H a ≠ none) ∧ RpV K N H x dx ∧ f dx = some d ∧ VR K N H d Q
def cUn (f : PyData → Option PyData) (o : Opd) : CE := fun F s => match o.ev F s with
  | some (d1, s1, l) => match f d1 with
    | some d => some (.d d, back l s1)
    | none => none
  | none => none
theorem tx_un {o : Opd} {f : PyData → Option PyData} {σ : L2.St} {H : Hp} {Q : VK} (h : TX X.kk F M true (cUn f o) σ H Q) : tUn (R1D X.kk f) (TP X.kk F M o) σ H Q := by
  obtain ⟨g, s, x, s', r, ev, q⟩ := h
  unfold cUn at ev
  split at ev
  · rename_i d1 s1 l1 e1
    split at ev
    · rename_i d e3
      cases ev
      exact ⟨g, s, d1, s1, l1, r, e1, fun v1 g1 H1 r1 v1' rp1 L1 => ⟨g1.N, d1, d, r1.ex, rp1.v, e3, fin_op r1 L1 v1' q⟩⟩
    · cases ev
  · cases ev
def fNeg : PyData → Option PyData
  | .int i => some (.int (-i))
  | _ => none
theorem od_neg : UnR X (unaryOp .USub) (R1D X.kk fNeg) := by
  intro pins s σ H x v Q I rx ⟨N, dx, d, ex, hx, hf, q⟩
  unfold fNeg at hf
  split at hf
  · cases hf
    cases hx.int
    exact un_neg pins s σ H _ v Q I rx ⟨_, rfl, vr_val (.int _) rfl q⟩
  · cases hf
theorem sx_neg {o : Opd} (ha : PE X a (TP X.kk F M o)) : PE X (.UnaryOp .USub a pos) (TX X.kk F M true (cUn fNeg o)) := peI (pe_un od_neg ha) fun _ _ _ h => tx_un h

/-! ### comparisons of whole numbers -/
def fCmp (f : Int → Int → Bool) : PyData → PyData → Option PyData
  | .int i, .int j => some (.bool (f i j))
  | _, _ => none
theorem od_cmp {op : CmpOp} {f : Int → Int → Bool} (h : OpR X (compareOp op) (rI0 fun i j => .bl (f i j))) : OpR X (compareOp op) (R2D X.kk (fCmp f)) := by
  intro pins s σ H x y v u Q I rx ry ⟨N, dx, dy, d, ex, hx, hy, hf, q⟩
  unfold fCmp at hf
  split at hf
  · cases hf
    cases hx.int; cases hy.int
    exact h pins s σ H _ _ v u Q I rx ry ⟨_, _, rfl, rfl, vr_val (.bl _) rfl q⟩
  · cases hf
abbrev fLt := fCmp fun i j => decide (i < j)
abbrev fLe := fCmp fun i j => decide (i ≤ j)
abbrev fGt := fCmp fun i j => decide (j < i)
abbrev fGe := fCmp fun i j => decide (j ≤ i)
theorem od_lt : OpR X (compareOp .Lt) (R2D X.kk fLt) := od_cmp op_lt
theorem od_le : OpR X (compareOp .LtE) (R2D X.kk fLe) := od_cmp op_le
theorem od_gt : OpR X (compareOp .Gt) (R2D X.kk fGt) := od_cmp op_gt
theorem od_ge : OpR X (compareOp .GtE) (R2D X.kk fGe) := od_cmp op_ge

/-! ### == and != of data -/
mutual
theorem Rp.dp {K : KK} {N : Addr → Prop} {H : Hp} : ∀ {v : V} {d : PyData}, Rp K N H v d → PyData.canLay0 d = true → Dp K.k H v d
  | _, _, .non, _ => .non
  | _, _, .bl b, _ => .bl b
  | _, _, .int i, _ => .int i
  | _, _, .str x, _ => .str x
  | _, _, .lst h1 _ h3, h => .lst (.inl h1) (RpA.dp h3 (by simpa [PyData.canLay0] using h))
  | _, _, .lstK h1 h2 h3 h4, h => .lst (Lr.sq (.inr ⟨_, _, h1, h2, h3⟩)) (RpA.dp h4 (by simpa [PyData.canLay0] using h))
  | _, _, .tup h1 h2, h => .tup h1 (RpA.dp h2 (by simpa [PyData.canLay0] using h))
  | _, _, .dct .., h => by simp [PyData.canLay0] at h
theorem RpA.dp {K : KK} {N : Addr → Prop} {H : Hp} : ∀ {v : List V} {d : List PyData}, RpA K N H v d → PyData.canLayAll0 d = true → DpAll K.k H v d
  | _, _, .nil, _ => .nil
  | _, _, .cons h t, e => by
    simp only [PyData.canLayAll0, Bool.and_eq_true] at e
    exact .cons (Rp.dp h e.1) (RpA.dp t e.2)
end
theorem RpV.dp {K : KK} {N : Addr → Prop} {H : Hp} {v : V} {d : PyData} (h : RpV K N H v d) (hd : PyData.canLay0 d = true) : Dp K.k H v d := by
  rcases h with h | ⟨a, rfl, t⟩
  · exact h.dp hd
  · cases d with
    | list ds =>
      obtain ⟨xs, e, r⟩ := t
      exact .lst (.inl (.inl e)) (r.dp (by simpa [PyData.canLay0] using hd))
    | dict _ => simp [PyData.canLay0] at hd
    | _ => exact t.elim
/-- data that may be compared: no dicts, not too deep -/
abbrev shp (d : PyData) : Bool := SeqAt.shaped d
def fEq : PyData → PyData → Option PyData := fun d e => if shp d && shp e then some (.bool (PyData.eqv d e)) else none
def fNe : PyData → PyData → Option PyData := fun d e => if shp d && shp e then some (.bool (!PyData.eqv d e)) else none
theorem od_eq (hu : X.A.units + 64 < cLine) : OpR X (compareOp .Eq) (R2D X.kk fEq) := by
  intro pins s σ H x y v u Q I rx ry ⟨N, dx, dy, d, ex, hx, hy, hf, q⟩
  unfold fEq at hf
  split at hf
  · rename_i hz
    cases hf
    rw [Bool.and_eq_true] at hz
    exact op_eqD hu pins s σ H _ _ v u Q I rx ry ⟨dx, dy, hx.dp (SeqAt.canLay_of_shaped hz.1), hy.dp (SeqAt.canLay_of_shaped hz.2), hz.1, hz.2, vr_val (.bl _) rfl q⟩
  · cases hf
theorem od_ne (hu : X.A.units + 64 < cLine) : OpR X (compareOp .NotEq) (R2D X.kk fNe) := by
  intro pins s σ H x y v u Q I rx ry ⟨N, dx, dy, d, ex, hx, hy, hf, q⟩
  unfold fNe at hf
  split at hf
  · rename_i hz
    cases hf
    rw [Bool.and_eq_true] at hz
    exact op_neD hu pins s σ H _ _ v u Q I rx ry ⟨dx, dy, hx.dp (SeqAt.canLay_of_shaped hz.1), hy.dp (SeqAt.canLay_of_shaped hz.2), hz.1, hz.2, vr_val (.bl _) rfl q⟩
  · cases hf

/-! ### is None, is True -/
def isNon : PyData → Bool
  | .none => true
  | _ => false
def fIs : PyData → PyData → Option PyData
  | d, .none => some (.bool (isNon d))
  | .bool a, .bool b => some (.bool (decide (a = b)))
  | _, _ => none
def fIsNot : PyData → PyData → Option PyData
  | d, .none => some (.bool (!isNon d))
  | .bool a, .bool b => some (.bool (!decide (a = b)))
  | _, _ => none
theorem none_dec {K : KK} {N : Addr → Prop} {H : Hp} {v : V} {d : PyData} (h : RpV K N H v d) : decide (v = V.non) = isNon d := by
  cases d with
  | none => rw [h.non]; rfl
  | bool b => rw [h.bl]; rfl
  | int b => rw [h.int]; rfl
  | str b => rw [h.str]; rfl
  | list b => obtain ⟨a, xs, e, _⟩ := h.lst; rw [e]; rfl
  | tuple b => obtain ⟨a, xs, e, _⟩ := h.tup; rw [e]; rfl
  | dict b =>
    rcases h with h | ⟨a, e, _⟩
    · cases h; rfl
    · rw [e]; rfl
theorem od_is : OpR X (compareOp .Is) (R2D X.kk fIs) := by
  intro pins s σ H x y v u Q I rx ry ⟨N, dx, dy, d, ex, hx, hy, hf, q⟩
  unfold fIs at hf
  split at hf
  · cases hf
    cases hy.non
    refine op_isN pins s σ H _ _ v u Q I rx ry ⟨rfl, ?_⟩
    rw [none_dec hx]
    exact vr_val (.bl _) rfl q
  · cases hf
    cases hx.bl; cases hy.bl
    exact op_isBl pins s σ H _ _ v u Q I rx ry ⟨_, _, rfl, rfl, vr_val (.bl _) rfl q⟩
  · cases hf
theorem od_isNot : OpR X (compareOp .IsNot) (R2D X.kk fIsNot) := by
  intro pins s σ H x y v u Q I rx ry ⟨N, dx, dy, d, ex, hx, hy, hf, q⟩
  unfold fIsNot at hf
  split at hf
  · cases hf
    cases hy.non
    refine op_notN pins s σ H _ _ v u Q I rx ry ⟨rfl, ?_⟩
    rw [none_dec hx]
    exact vr_val (.bl _) rfl q
  · cases hf
    cases hx.bl; cases hy.bl
    exact op_notBl pins s σ H _ _ v u Q I rx ry ⟨_, _, rfl, rfl, vr_val (.bl _) rfl q⟩
  · cases hf
end
end Ev
/-! Ev9: sorted. -/
namespace Ev
open PySem PySem.Spec L2

section
variable {X : Cx}
/-- sorted(src), whatever src is, where its items can be collected -/
theorem sorted_gen {pins : List (Addr × Obj)} {s : Shared} {σ : L2.St} {H : Hp} {src : Value} {xs : List V} {ds : List PyData} {N : Addr → Prop} {Q : VK} (I : Inv X pins σ H s)
    (col : ∀ (R : List Value → Shared → Prop) (E : Value → Shared → Prop), (∀ h' tk vs, (∀ b o, s.heap.get? b = some o → h'.get? b = some o) → Vals xs vs → R vs { s with heap := h', toks := tk }) → wpAny (model X.prog X.w) X.A.in1 (collect src) R E s)
    (hN : ∀ a, N a → H a ≠ none) (ra : RpA X.kk N H xs ds) (hl : ds.length ≤ sizeLine) (hal : PySem.W.AllAlike ds) (hk : PySem.W.Sortable ds) (hlay : PyData.canLayAll0 ds = true) (hu : X.A.units + 70 < cLine) (hd : ∀ d, d ∈ ds → d.depth ≤ 64)
    (q : VR X.kk N H (.list (ds.mergeSort (PySem.W.dataLe false id))) Q) : wpAny (model X.prog X.w) X.A (call (.builtin "sorted") [src]) (EP X pins σ Q) X.xe s := by
  refine Calls.call_function_entry PyProof.Rows.kind_sorted PyProof.Rows.plain_sorted PyProof.Rows.entry_sorted (PyProof.Rows.args_sorted1 _) ?_
  unfold Builtin.«sorted»
  refine wpAny_bind (m := checkCount "sorted" 1 1 _) (wpAny_pure ?_)
  refine wpAny_bind (col _ _ fun h' tk vs hk' rv => ?_)
  have hlen := rv.length
  have hz : vs.length ≤ sizeLine := by rw [← hlen, ra.length]; exact hl
  have I1 : Inv X pins σ H { s with heap := h', toks := tk } := I.kept hk'
  refine wpAny_bind (wpAny_newList ?_ hz)
  have hoL : (h'.push (PyProof.Rows.seqObj "list" vs.toArray 0)).get? h'.objs.size = some (PyProof.Rows.seqObj "list" vs.toArray 0) := Heap.get?_push_size _ rfl
  show wpAny _ _ _ _ _ { s with heap := h'.push (PyProof.Rows.seqObj "list" vs.toArray 0), toks := tk }
  -- the items as data
  have reads : ∀ (s' : Shared), (∀ b o, h'.get? b = some o → s'.heap.get? b = some o) → PySem.W.EachIs (fun v d => ∃ as, Reads s'.heap v d as) vs ds := fun s' ks => by
    have go : ∀ {xs : List V} {vs : List Value} {ds : List PyData}, Vals xs vs → RpA X.kk N H xs ds → PyData.canLayAll0 ds = true → PySem.W.EachIs (fun v d => ∃ as, Reads s'.heap v d as) vs ds := by
      intro xs
      induction xs with
      | nil => intro vs ds r1 r2 _; cases r1; cases r2; exact .nil
      | cons x xs ih =>
        intro vs ds r1 r2 hc
        cases r1 with
        | cons a1 b1 =>
          cases r2 with
          | cons a2 b2 =>
            simp only [PyData.canLayAll0, Bool.and_eq_true] at hc
            obtain ⟨as, rr⟩ := Dp.reads I1 _ _ _ (a2.dp hc.1) a1
            exact .cons ⟨as, PyProof.Rows.Reads.keeps ks rr⟩ (ih b1 b2 hc.2)
    exact go rv ra hlay
  have olds : ∀ b o, h'.get? b = some o → (PySem.W.sortingHeap (h'.push (PyProof.Rows.seqObj "list" vs.toArray 0)) h'.objs.size vs).get? b = some o := fun b o e => PySem.W.sortingHeap_old (Nat.ne_of_lt (Heap.lt_size e)) (Heap.get?_push_of_some _ e)
  refine wpAny_bind (wpAny_holding (wpAny_call_entry PyProof.Rows.slot_list_sort ⟨_, hoL, rfl⟩ PyProof.Rows.entry_list_sort
    (PySem.W.list_sort_vals (s := { s with heap := h'.push (PyProof.Rows.seqObj "list" vs.toArray 0), toks := tk }) hoL
      (PySem.W.SortsAt.data (ds := ds) (s := { s with heap := PySem.W.sortingHeap (h'.push (PyProof.Rows.seqObj "list" vs.toArray 0)) h'.objs.size vs, toks := tk }) (reads _ olds) hal hk fun d h => ?_) hz ⟨_, rfl, ?_⟩)
    (PyProof.Rows.args_list_sort _)))
  · have := hd d h
    show X.A.units + 1 + 1 + d.depth < cLine
    omega
  · -- the sorted values
    have e0 : PySem.W.EachIs (fun v d => ∃ x, RelV x v ∧ Rp X.kk N H x d) vs ds := by
      have go : ∀ {xs : List V} {vs : List Value} {ds : List PyData}, Vals xs vs → RpA X.kk N H xs ds → PySem.W.EachIs (fun v d => ∃ x, RelV x v ∧ Rp X.kk N H x d) vs ds := by
        intro xs
        induction xs with
        | nil => intro vs ds r1 r2; cases r1; cases r2; exact .nil
        | cons x xs ih =>
          intro vs ds r1 r2
          cases r1 with
          | cons a1 b1 =>
            cases r2 with
            | cons a2 b2 => exact .cons ⟨x, a1, a2⟩ (ih b1 b2)
      exact go rv ra
    have e1 := PySem.W.sortVals_data (h' := (PySem.W.sortingHeap (h'.push (PyProof.Rows.seqObj "list" vs.toArray 0)) h'.objs.size vs)) (R := fun v d => ∃ x, RelV x v ∧ Rp X.kk N H x d) (enc := id) false e0
      (reads { s with heap := PySem.W.sortingHeap (h'.push (PyProof.Rows.seqObj "list" vs.toArray 0)) h'.objs.size vs, toks := tk } olds) (by rw [List.map_id]; exact hal)
    rw [List.map_id] at e1
    obtain ⟨ys, ry, rd⟩ : ∃ ys, Vals ys (PySem.W.sortVals (PySem.W.dataKind (PySem.W.sortingHeap (h'.push (PyProof.Rows.seqObj "list" vs.toArray 0)) h'.objs.size vs) ds) false vs vs) ∧ RpA X.kk N H ys (ds.mergeSort (PySem.W.dataLe false id)) := by
      have go : ∀ {vs : List Value} {ds : List PyData}, PySem.W.EachIs (fun v d => ∃ x, RelV x v ∧ Rp X.kk N H x d) vs ds → ∃ ys, Vals ys vs ∧ RpA X.kk N H ys ds := by
        intro vs
        induction vs with
        | nil => intro ds h; cases h; exact ⟨[], .nil, .nil⟩
        | cons v vs ih =>
          intro ds h
          cases h with
          | cons h t =>
            obtain ⟨x, r1, r2⟩ := h
            obtain ⟨ys, q1, q2⟩ := ih t
            exact ⟨x :: ys, .cons r1 q1, .cons r2 q2⟩
      exact go e1
    have hp : H h'.objs.size = none := I1.hok.fresh (Nat.le_refl _)
    have lenY : ys.length ≤ sizeLine := by rw [rd.length, List.length_mergeSort]; exact hl
    obtain ⟨e', he'⟩ := PyProof.Rows.sortedHeap_at (vs := vs) (out := (PySem.W.sortVals (PySem.W.dataKind (PySem.W.sortingHeap (h'.push (PyProof.Rows.seqObj "list" vs.toArray 0)) h'.objs.size vs) ds) false vs vs).toArray) hoL
    refine wpAny_pure ⟨_, rfl, .ref h'.objs.size, upd H h'.objs.size (.lst ys), I1.laid (t' := tk) (fun b u e => ?_) (Nat.le_refl _)
      (show ObjOk X.prog X.w _ _ _ (.lst ys) from ⟨lenY, _, e', ry, he'⟩), rfl, vr_lst hN rd q hp⟩
    have hb : b < h'.objs.size := Heap.lt_size e
    rw [PyProof.Rows.sortedHeap_old (Nat.ne_of_lt hb) (by rw [PyProof.Rows.size_push']; exact Nat.lt_succ_of_lt hb)]
    exact Heap.get?_push_of_some _ e
end
end Ev
namespace Ev
open PySem PySem.Spec PyProof.Rows
section
variable {prog : Program} {w : World} {A : Around} {E : Value → Shared → Prop} {s : Shared}
/-- the items of a tuple, collected -/
theorem collect_tup {l : Addr} {vs : List Value} {Q : List Value → Shared → Prop} {o : Obj} {n : Nat} (ho : s.heap.get? l = some o) (hc : o.cls = .type "tuple") (hd : o.data = .seq vs.toArray n)
    (h : Q vs { s with heap := (s.heap.push (seqObj "list" #[] 0)).update s.heap.objs.size (Obj.mapSeq (· ++ vs.toArray)) }) (hsz : vs.length ≤ sizeLine) : wpAny (model prog w) A (collect (.ref l)) Q E s := by
  have ho' : (s.heap.push (seqObj "list" #[] 0)).get? l = some o := Heap.get?_push_of_some _ ho
  have new : (s.heap.push (seqObj "list" #[] 0)).get? s.heap.objs.size = some (seqObj "list" #[] 0) := Heap.get?_push_size _ rfl
  unfold collect
  refine wpAny_bind (wpAny_runValue (codeAny_builtin entry_proto_collect' ?_))
  show wpAny _ _ (do again (.builtin "list.__iadd__" ⟨[← newList [], .ref l], []⟩)) _ _ s
  refine wpAny_bind (wpAny_newList (wpAny_pure ⟨Code.quiet_builtin _ (by decide +kernel), codeAny_builtin entry_list_iadd' ?_⟩))
  show wpAny _ _ (Builtin.List.listExtendWith (.ref s.heap.objs.size) (.ref l) (.ref s.heap.objs.size)) _ _ { s with heap := s.heap.push (seqObj "list" #[] 0) }
  unfold Builtin.List.listExtendWith
  refine wpAny_bind (wpAny_typeOf (T := "tuple") ⟨o, ho', hc⟩ ?_)
  have yes : (Value.type "tuple" == Value.type "tuple") = true := rfl
  rw [if_pos (by rw [yes]; simp)]
  refine wpAny_bind (listItems_at ho' hd ?_)
  refine wpAny_bind (listItems_at (xs := #[]) (n := 0) new rfl ?_)
  rw [if_neg (by simp)]
  refine wpAny_bind (listUpdate_at (xs := #[]) (n := 0) new rfl ?_ (Nat.zero_le _) (by show (#[] ++ vs.toArray).size ≤ sizeLine + 1; simp only [Array.size_append, List.size_toArray, List.length_nil]; omega))
  refine wpAny_pure ?_
  show wpAny (model prog w) A (do
      let o ← load s.heap.objs.size
      match o.data with
      | .seq xs _ => pure xs.toList
      | _ => unsupported "internal:collect") Q E { s with heap := (s.heap.push (seqObj "list" #[] 0)).update s.heap.objs.size (Obj.mapSeq (· ++ vs.toArray)) }
  refine wpAny_bind (wpAny_load (get?_update_seq new _) ?_)
  show wpAny _ _ (pure ((#[] : Array Value) ++ vs.toArray).toList) Q E _
  rw [show ((#[] : Array Value) ++ vs.toArray).toList = vs by simp]
  exact wpAny_pure h
end
end Ev
/-! Ev10: built-in calls, subscripts, slices, in. -/
namespace Ev
open PySem PySem.Spec L2

section
variable {X : Cx} {M : Nat → Bool} {F : Fn} {tg a b c e : Expr} {es : List Expr} {pos p p2 : Pos}
/-! ### calls -/
theorem sx_callB {id : String} {x : Str} {f : List PyData → Option PyData} {os : List Opd} (hc : CallR X (.builtin id) (RnD X.kk f)) (hg : Gl X x) (hm : X.mg x = none) (hv : bootBuiltins x = some (.builtin id)) (ha : PA X (e :: es) (TPA X.kk F M os)) (hn : x ≠ "__name__" := by decide) (hdb : (x == ("__debug__" : Str)) = false := by decide)
    (he : starEach (e :: es) X.env = (false, eval e X.env) :: starEach es X.env := by rfl) (hpl : (backTo pos (starEach es X.env)).any (·.1) = false := by rfl) : PE X (.Call (.Name x p) (e :: es) [] pos) (TX X.kk F M true (cNat f os)) :=
  peI (pe_callB hc hg hm hv ha hn hdb he hpl) fun _ _ _ h => tx_nat h
theorem sx_callT {T : String} {x : Str} {f : List PyData → Option PyData} {os : List Opd} (hc : CallR X (.type T) (RnD X.kk f)) (hg : Gl X x) (hm : X.mg x = none) (hv : bootBuiltins x = some (.type T)) (ha : PA X (e :: es) (TPA X.kk F M os)) (hn : x ≠ "__name__" := by decide) (hdb : (x == ("__debug__" : Str)) = false := by decide)
    (he : starEach (e :: es) X.env = (false, eval e X.env) :: starEach es X.env := by rfl) (hpl : (backTo pos (starEach es X.env)).any (·.1) = false := by rfl) : PE X (.Call (.Name x p) (e :: es) [] pos) (TX X.kk F M true (cNat f os)) :=
  peI (pe_callTy hc hg hm hv ha hn hdb he hpl) fun _ _ _ h => tx_nat h

theorem rp1 {K : KK} {N : Addr → Prop} {H : Hp} {vs : List V} {d : PyData} (h : Paired (RpV K N H) vs [d]) : ∃ v, vs = [v] ∧ RpV K N H v d := by
  cases h with
  | cons h t => cases t; exact ⟨_, rfl, h⟩
theorem rp2 {K : KK} {N : Addr → Prop} {H : Hp} {vs : List V} {d d' : PyData} (h : Paired (RpV K N H) vs [d, d']) : ∃ v v', vs = [v, v'] ∧ RpV K N H v d ∧ RpV K N H v' d' := by
  cases h with
  | cons h t => cases t with
    | cons h' t => cases t; exact ⟨_, _, rfl, h, h'⟩
def fLen : List PyData → Option PyData
  | [.list ds] => some (.int ds.length)
  | [.tuple ds] => some (.int ds.length)
  | [.str x] => if x.length ≤ sizeLine then some (.int x.length) else none
  | _ => none
theorem cd_len : CallR X (.builtin "len") (RnD X.kk fLen) := by
  intro pins s σ H xs us Q I r ⟨N, ds, d, ex, rp, hf, q⟩
  unfold fLen at hf
  split at hf
  · cases hf
    obtain ⟨v, rfl, h⟩ := rp1 rp
    obtain ⟨a, ls, rfl, hl, ra⟩ := h.lst
    exact call_len_seq pins s σ H _ us Q I r ⟨a, ls, rfl, .inl hl, by rw [ra.length]; exact vr_val (.int _) rfl q⟩
  · cases hf
    obtain ⟨v, rfl, h⟩ := rp1 rp
    obtain ⟨a, ls, rfl, hl, ra⟩ := h.tup
    exact call_len_seq pins s σ H _ us Q I r ⟨a, ls, rfl, .inr hl, by rw [ra.length]; exact vr_val (.int _) rfl q⟩
  · split at hf
    · rename_i hz
      cases hf
      obtain ⟨v, rfl, h⟩ := rp1 rp
      cases h.str
      exact call_len_str pins s σ H _ us Q I r ⟨_, rfl, hz, vr_val (.int _) rfl q⟩
    · cases hf
  · cases hf
def fAbs : List PyData → Option PyData
  | [.int i] => some (.int (if i < 0 then -i else i))
  | _ => none
theorem cd_abs : CallR X (.builtin "abs") (RnD X.kk fAbs) := by
  intro pins s σ H xs us Q I r ⟨N, ds, d, ex, rp, hf, q⟩
  unfold fAbs at hf
  split at hf
  · cases hf
    obtain ⟨v, rfl, h⟩ := rp1 rp
    cases h.int
    exact call_abs pins s σ H _ us Q I r ⟨_, rfl, vr_val (.int _) rfl q⟩
  · cases hf
def fInt : List PyData → Option PyData
  | [.int i] => some (.int i)
  | [.bool b] => some (.int (if b then 1 else 0))
  | _ => none
theorem cd_int : CallR X (.type "int") (RnD X.kk fInt) := by
  intro pins s σ H xs us Q I r ⟨N, ds, d, ex, rp, hf, q⟩
  unfold fInt at hf
  split at hf
  · cases hf
    obtain ⟨v, rfl, h⟩ := rp1 rp
    cases h.int
    exact call_int1 pins s σ H _ us Q I r (.inl ⟨_, rfl, vr_val (.int _) rfl q⟩)
  · cases hf
    obtain ⟨v, rfl, h⟩ := rp1 rp
    cases h.bl
    exact call_int1 pins s σ H _ us Q I r (.inr ⟨_, rfl, vr_val (.int _) rfl q⟩)
  · cases hf
def fMax2 : List PyData → Option PyData
  | [.int i, .int j] => some (.int (if j > i then j else i))
  | _ => none
theorem cd_max2 (hc : X.calm = true) : CallR X (.builtin "max") (RnD X.kk fMax2) := by
  intro pins s σ H xs us Q I r ⟨N, ds, d, ex, rp, hf, q⟩
  unfold fMax2 at hf
  split at hf
  · cases hf
    obtain ⟨v, v', rfl, h, h'⟩ := rp2 rp
    cases h.int; cases h'.int
    exact call_max2 hc pins s σ H _ us Q I r ⟨_, _, rfl, vr_val (.int _) rfl q⟩
  · cases hf
def fMin2 : List PyData → Option PyData
  | [.int i, .int j] => some (.int (if j < i then j else i))
  | _ => none
theorem cd_min2 (hc : X.calm = true) : CallR X (.builtin "min") (RnD X.kk fMin2) := by
  intro pins s σ H xs us Q I r ⟨N, ds, d, ex, rp, hf, q⟩
  unfold fMin2 at hf
  split at hf
  · cases hf
    obtain ⟨v, v', rfl, h, h'⟩ := rp2 rp
    cases h.int; cases h'.int
    exact call_min2 hc pins s σ H _ us Q I r ⟨_, _, rfl, vr_val (.int _) rfl q⟩
  · cases hf
def fList : List PyData → Option PyData
  | [.list ds] => some (.list ds)
  | [.tuple ds] => some (.list ds)
  | _ => none
theorem cd_list : CallR X (.type "list") (RnD X.kk fList) := by
  intro pins s σ H xs us Q I r ⟨N, ds, d, ex, rp, hf, q⟩
  unfold fList at hf
  split at hf
  · cases hf
    obtain ⟨v, rfl, h⟩ := rp1 rp
    obtain ⟨a, ls, rfl, hl, ra⟩ := h.lst
    exact call_list_of pins s σ H _ us Q I r ⟨a, ls, rfl, .inl hl, fun l hl => vr_lst ex ra q hl⟩
  · cases hf
    obtain ⟨v, rfl, h⟩ := rp1 rp
    obtain ⟨a, ls, rfl, hl, ra⟩ := h.tup
    exact call_list_of pins s σ H _ us Q I r ⟨a, ls, rfl, .inr hl, fun l hl => vr_lst ex ra q hl⟩
  · cases hf
def fTuple : List PyData → Option PyData
  | [.list ds] => some (.tuple ds)
  | [.tuple ds] => some (.tuple ds)
  | _ => none
theorem cd_tuple : CallR X (.type "tuple") (RnD X.kk fTuple) := by
  intro pins s σ H xs us Q I r ⟨N, ds, d, ex, rp, hf, q⟩
  unfold fTuple at hf
  split at hf
  · cases hf
    obtain ⟨v, rfl, h⟩ := rp1 rp
    obtain ⟨a, ls, rfl, hl, ra⟩ := h.lst
    exact call_tuple_of pins s σ H _ us Q I r ⟨a, ls, rfl, .inl ⟨hl, fun l hl => vr_tup ra q hl⟩⟩
  · cases hf
    obtain ⟨v, rfl, h⟩ := rp1 rp
    obtain ⟨a, ls, rfl, hl, ra⟩ := h.tup
    exact call_tuple_of pins s σ H _ us Q I r ⟨a, ls, rfl, .inr ⟨hl, vr_val (.tup hl ra) rfl q⟩⟩
  · cases hf
/-- sorted(..) -/
def isTupC : PyData → Bool
  | .tuple (_ :: _) => true
  | _ => false
def isOth : PyData → Bool
  | .none => false
  | .tuple _ => false
  | _ => true
def sortOk (ds : List PyData) : Bool := decide (ds.length ≤ sizeLine) && (ds.all fun d => ds.all fun e => PySem.W.alike d e) && (ds.all isTupC || ds.all isOth) && PyData.canLayAll0 ds && ds.all fun d => decide (d.depth ≤ 64)
def sortD (ds : List PyData) : List PyData := ds.mergeSort (PySem.W.dataLe false id)
def fSorted : List PyData → Option PyData
  | [.list ds] => if sortOk ds then some (.list (sortD ds)) else none
  | [.tuple ds] => if sortOk ds then some (.list (sortD ds)) else none
  | _ => none
theorem sortOk_facts {ds : List PyData} (h : sortOk ds = true) : ds.length ≤ sizeLine ∧ PySem.W.AllAlike ds ∧ PySem.W.Sortable ds ∧ PyData.canLayAll0 ds = true ∧ ∀ d, d ∈ ds → d.depth ≤ 64 := by
  unfold sortOk at h
  simp only [Bool.and_eq_true, Bool.or_eq_true, decide_eq_true_eq, List.all_eq_true] at h
  obtain ⟨⟨⟨⟨h1, h2⟩, h3⟩, h4⟩, h5⟩ := h
  refine ⟨h1, fun d hd d' hd' => h2 d hd d' hd', h3.imp (fun h d hd => ?_) (fun h d hd => ?_), h4, h5⟩
  · have := h d hd
    unfold isTupC at this
    split at this
    · exact ⟨_, _, rfl⟩
    · cases this
  · have := h d hd
    unfold isOth at this
    refine ⟨fun e => ?_, fun xs e => ?_⟩ <;> (subst e; cases this)
theorem cd_sorted (hu : X.A.units + 70 < cLine) : CallR X (.builtin "sorted") (RnD X.kk fSorted) := by
  intro pins s σ H xs us Q I r ⟨N, ds, d, ex, rp, hf, q⟩
  unfold fSorted at hf
  split at hf
  · split at hf
    · rename_i hz
      cases hf
      obtain ⟨h1, h2, h3, h4, h5⟩ := sortOk_facts hz
      obtain ⟨v, rfl, h⟩ := rp1 rp
      obtain ⟨a, ls, rfl, hl, ra⟩ := h.lst
      obtain ⟨u, rfl, ru⟩ := vals1 r
      cases ru
      obtain ⟨its, rv, pl, zz⟩ := I.list hl
      refine sorted_gen I (fun R E h => PyProof.Rows.collect_list pl.isList (h _ s.toks its (fun b o e => ?_) rv) (by rw [← rv.length]; exact zz)) ex ra h1 h2 h3 h4 hu h5 q
      exact (Heap.get?_update_ne _ _ _ _ (Nat.ne_of_lt (Heap.lt_size e))).trans (Heap.get?_push_of_some _ e)
    · cases hf
  · split at hf
    · rename_i hz
      cases hf
      obtain ⟨h1, h2, h3, h4, h5⟩ := sortOk_facts hz
      obtain ⟨v, rfl, h⟩ := rp1 rp
      obtain ⟨a, ls, rfl, hl, ra⟩ := h.tup
      obtain ⟨u, rfl, ru⟩ := vals1 r
      cases ru
      obtain ⟨its, rv, ⟨o, ho, hc, n, hd⟩, zz⟩ := I.tuple hl
      refine sorted_gen I (fun R E h => collect_tup ho hc hd (h _ s.toks its (fun b o e => ?_) rv) (by rw [← rv.length]; exact zz)) ex ra h1 h2 h3 h4 hu h5 q
      exact (Heap.get?_update_ne _ _ _ _ (Nat.ne_of_lt (Heap.lt_size e))).trans (Heap.get?_push_of_some _ e)
    · cases hf
  · cases hf
/-- any, all, sum of a list -/
def boolsOf : List PyData → Option (List Bool)
  | [] => some []
  | .bool b :: r => (boolsOf r).map (b :: ·)
  | _ :: _ => none
theorem boolsOf_v {K : KK} {N : Addr → Prop} {H : Hp} : ∀ {vs : List V} {ds : List PyData} {bs : List Bool}, RpA K N H vs ds → boolsOf ds = some bs → vs = bs.map V.bl
  | _, _, _, .nil, e => by cases e; rfl
  | _, .bool b :: r, bs, .cons h t, e => by
    unfold boolsOf at e
    cases e2 : boolsOf r with
    | none => rw [e2] at e; cases e
    | some bs' =>
      rw [e2] at e
      cases e
      cases h
      rw [boolsOf_v t e2]; rfl
  | _, .none :: r, bs, .cons h t, e => by cases e
  | _, .int _ :: r, bs, .cons h t, e => by cases e
  | _, .str _ :: r, bs, .cons h t, e => by cases e
  | _, .list _ :: r, bs, .cons h t, e => by cases e
  | _, .tuple _ :: r, bs, .cons h t, e => by cases e
  | _, .dict _ :: r, bs, .cons h t, e => by cases e
def intsOf : List PyData → Option (List Int)
  | [] => some []
  | .int b :: r => (intsOf r).map (b :: ·)
  | _ :: _ => none
theorem intsOf_v {K : KK} {N : Addr → Prop} {H : Hp} : ∀ {vs : List V} {ds : List PyData} {bs : List Int}, RpA K N H vs ds → intsOf ds = some bs → vs = bs.map V.int
  | _, _, _, .nil, e => by cases e; rfl
  | _, .int b :: r, bs, .cons h t, e => by
    unfold intsOf at e
    cases e2 : intsOf r with
    | none => rw [e2] at e; cases e
    | some bs' =>
      rw [e2] at e
      cases e
      cases h
      rw [intsOf_v t e2]; rfl
  | _, .none :: r, bs, .cons h t, e => by cases e
  | _, .bool _ :: r, bs, .cons h t, e => by cases e
  | _, .str _ :: r, bs, .cons h t, e => by cases e
  | _, .list _ :: r, bs, .cons h t, e => by cases e
  | _, .tuple _ :: r, bs, .cons h t, e => by cases e
  | _, .dict _ :: r, bs, .cons h t, e => by cases e
def fAny : List PyData → Option PyData
  | [.list ds] => (boolsOf ds).map fun bs => .bool (bs.any id)
  | _ => none
def fAll : List PyData → Option PyData
  | [.list ds] => (boolsOf ds).map fun bs => .bool (bs.all id)
  | _ => none
def fSum : List PyData → Option PyData
  | [.list ds] => (intsOf ds).map fun bs => .int bs.sum
  | _ => none
theorem cd_any (hc : X.calm = true) : CallR X (.builtin "any") (RnD X.kk fAny) := by
  intro pins s σ H xs us Q I r ⟨N, ds, d, ex, rp, hf, q⟩
  unfold fAny at hf
  split at hf
  · obtain ⟨bs, e1, e2⟩ := Option.map_eq_some_iff.mp hf
    subst e2
    obtain ⟨v, rfl, h⟩ := rp1 rp
    obtain ⟨a, ls, rfl, hl, ra⟩ := h.lst
    have e3 := boolsOf_v ra e1
    subst e3
    exact cr_any hc pins s σ H _ us Q I r ⟨a, bs, rfl, hl, vr_val (.bl _) rfl q⟩
  · cases hf
theorem cd_all (hc : X.calm = true) : CallR X (.builtin "all") (RnD X.kk fAll) := by
  intro pins s σ H xs us Q I r ⟨N, ds, d, ex, rp, hf, q⟩
  unfold fAll at hf
  split at hf
  · obtain ⟨bs, e1, e2⟩ := Option.map_eq_some_iff.mp hf
    subst e2
    obtain ⟨v, rfl, h⟩ := rp1 rp
    obtain ⟨a, ls, rfl, hl, ra⟩ := h.lst
    have e3 := boolsOf_v ra e1
    subst e3
    exact cr_all hc pins s σ H _ us Q I r ⟨a, bs, rfl, hl, vr_val (.bl _) rfl q⟩
  · cases hf
theorem cd_sum (hc : X.calm = true) : CallR X (.builtin "sum") (RnD X.kk fSum) := by
  intro pins s σ H xs us Q I r ⟨N, ds, d, ex, rp, hf, q⟩
  unfold fSum at hf
  split at hf
  · obtain ⟨bs, e1, e2⟩ := Option.map_eq_some_iff.mp hf
    subst e2
    obtain ⟨v, rfl, h⟩ := rp1 rp
    obtain ⟨a, ls, rfl, hl, ra⟩ := h.lst
    have e3 := intsOf_v ra e1
    subst e3
    exact cr_sum hc pins s σ H _ us Q I r ⟨a, bs, rfl, hl, vr_val (.int _) rfl q⟩
  · cases hf

/-! ### subscripts -/
def fIx : PyData → PyData → Option PyData
  | .list ds, .int i => atI ds i
  | .tuple ds, .int i => atI ds i
  | _, _ => none
theorem VR.at {K : KK} {N : Addr → Prop} {H : Hp} {v : V} {d : PyData} {Q : VK} (r : Rp K N H v d) (h : ∀ v H', Same H H' → Rp K N H' v d → Q v H') : Q v H := h v H (fun _ _ e => e) r
theorem RpA.atI {K : KK} {N : Addr → Prop} {H : Hp} {vs : List V} {ds : List PyData} {i : Int} {d : PyData} (h : RpA K N H vs ds) (e : L2.atI ds i = some d) : ∃ v, L2.atI vs i = some v ∧ Rp K N H v d := by
  unfold L2.atI at e ⊢
  rw [h.length]
  cases e2 : ixN ds.length i with
  | none => rw [e2] at e; cases e
  | some j =>
    rw [e2] at e
    exact h.get (show ds[j]? = some d from e)
/-- an item: it is not new -/
def R2P (K : KK) (f : PyData → PyData → Option PyData) : R2 := fun x y H Q => ∃ N dx dy d, (∀ a, N a → H a ≠ none) ∧ RpV K N H x dx ∧ RpV K N H y dy ∧ f dx dy = some d ∧ ∀ v H', Same H H' → Rp K N H' v d → Q v H'
theorem tx_binP {oa ob : Opd} {f : PyData → PyData → Option PyData} {σ : L2.St} {H : Hp} {Q : VK} (h : TX X.kk F M false (cBin f oa ob) σ H Q) : tOp (R2P X.kk f) (TP X.kk F M oa) (TP X.kk F M ob) σ H Q := by
  obtain ⟨g, s, x, s', r, ev, q⟩ := h
  unfold cBin at ev
  split at ev
  · rename_i d1 s1 l1 e1
    split at ev
    · rename_i d2 s2 l2 e2
      split at ev
      · rename_i d e3
        cases ev
        refine ⟨g, s, d1, s1, l1, r, e1, fun v1 g1 H1 r1 v1' rp1 L1 => ⟨g1, s1, d2, s2, l2, r1, e2, fun v2 g2 H2 r2 v2' rp2 L2 => ?_⟩⟩
        refine ⟨g2.N, d1, d2, d, r2.ex, (rp1.move v2' r1.wn).v, rp2.v, e3, fun v H' k rp => ?_⟩
        obtain ⟨g3, r3, e3', n3, _⟩ := (L1.trans v2'.grow L2) g2 s2 H' (r2.same k) (Evo.same k)
        exact q v g3 H' r3 e3' (Rp.forbid (fun a h => .inl (n3 a h)) rp) fun z => nomatch z
      · cases ev
    · cases ev
  · cases ev
theorem id_ix : IxR X (R2P X.kk fIx) := by
  have lst : IxR X (fun x y H Q => ∃ N dx dy d, (∀ a, N a → H a ≠ none) ∧ RpV X.kk N H x (.list dx) ∧ RpV X.kk N H y (.int dy) ∧ atI dx dy = some d ∧ ∀ v H', Same H H' → Rp X.kk N H' v d → Q v H') := by
    intro va sl pins s σ H x y v u Q I rx ry ⟨N, dx, dy, d, ex, hx, hy, hf, q⟩ hs
    obtain ⟨a, ls, rfl, hl, ra⟩ := hx.lst
    cases hy.int
    obtain ⟨w, ew, rw⟩ := ra.atI hf
    exact ix_list va sl pins s σ H _ _ v u Q I rx ry ⟨a, ls, _, w, rfl, rfl, hl, ew, VR.at rw q⟩ hs
  have tup : IxR X (fun x y H Q => ∃ N dx dy d, (∀ a, N a → H a ≠ none) ∧ RpV X.kk N H x (.tuple dx) ∧ RpV X.kk N H y (.int dy) ∧ atI dx dy = some d ∧ ∀ v H', Same H H' → Rp X.kk N H' v d → Q v H') := by
    intro va sl pins s σ H x y v u Q I rx ry ⟨N, dx, dy, d, ex, hx, hy, hf, q⟩ hs
    obtain ⟨a, ls, rfl, hl, ra⟩ := hx.tup
    cases hy.int
    obtain ⟨w, ew, rw⟩ := ra.atI hf
    exact ix_tup va sl pins s σ H _ _ v u Q I rx ry ⟨a, ls, _, w, rfl, rfl, hl, ew, VR.at rw q⟩ hs
  intro va sl pins s σ H x y v u Q I rx ry ⟨N, dx, dy, d, ex, hx, hy, hf, q⟩ hs
  unfold fIx at hf
  split at hf
  · exact lst va sl pins s σ H x y v u Q I rx ry ⟨N, _, _, d, ex, hx, hy, hf, q⟩ hs
  · exact tup va sl pins s σ H x y v u Q I rx ry ⟨N, _, _, d, ex, hx, hy, hf, q⟩ hs
  · cases hf
theorem sx_ixP {oa ob : Opd} {f : PyData → PyData → Option PyData} (ho : IxR X (R2P X.kk f)) (ha : PE X a (TP X.kk F M oa)) (hb : PE X b (TP X.kk F M ob)) (hs : PlainIx b) : PE X (.Subscript a b pos) (TX X.kk F M false (cBin f oa ob)) :=
  peI (pe_ix ho ha hb hs) fun _ _ _ h => tx_binP h

/-! ### slices -/
/-- a part of a slice -/
def evPart (o : Option Opd) : Fn → S → Option (Option Int × S × List (Nat × PyData)) := fun F s => match o with
  | none => some (none, s, [])
  | some o => match o.ev F s with
    | some (.int i, s', l) => some (some i, s', l)
    | _ => none
def TPO (K : KK) (F : Fn) (M : Nat → Bool) (o : Option Opd) : TO := fun σ H Q => ∃ g s i s' l, Rel K M g s σ H ∧ evPart o F s = some (i, s', l) ∧
  ∀ g' H', Rel K M g' s' σ H' → Evo g g' H H' → Lent K M σ g H l g' H' → Q i H'
theorem poI {e : Option Expr} {t t' : TO} (h : PO X e t) (hi : ∀ σ H Q, t' σ H Q → t σ H Q) : PO X e t' := ⟨fun pins s σ H Q I q => h.run pins s σ H Q I (hi _ _ _ q)⟩
theorem op_none : PO X none (TPO X.kk F M none) := poI po_none fun σ H Q ⟨g, s, i, s', l, r, e, q⟩ => by
  cases e
  exact q g H r Evo.refl (Lent.nil Evo.refl)
theorem op_some {o : Opd} (h : PE X e (TP X.kk F M o)) : PO X (some e) (TPO X.kk F M (some o)) := poI (po_some h) fun σ H Q ⟨g, s, i, s', l, r, ev, q⟩ => by
  unfold evPart at ev
  simp only at ev
  split at ev
  · rename_i i' s1 l1 e1
    cases ev
    refine ⟨g, s, _, s', l, r, e1, fun v g1 H1 r1 v1 rp L => ⟨i', rp.v.int, q g1 H1 r1 v1 L⟩⟩
  · cases ev
def cutD (xs : List PyData) (lo hi : Option Int) : List PyData := (xs.drop (HT.sIx xs.length 0 lo)).take (HT.sIx xs.length xs.length hi - HT.sIx xs.length 0 lo)
def fCut (d : PyData) (lo hi : Option Int) : Option PyData := match d with
  | .list ds => some (.list (cutD ds lo hi))
  | .tuple ds => some (.tuple (cutD ds lo hi))
  | _ => none
def cCut (o : Opd) (lo hi : Option Opd) : CE := fun F s => match o.ev F s with
  | some (d, s1, l1) => match evPart lo F s1 with
    | some (i, s2, l2) => match evPart hi F s2 with
      | some (j, s3, l3) => match fCut d i j with
        | some d' => some (.d d', back (l1 ++ (l2 ++ l3)) s3)
        | none => none
      | none => none
    | none => none
  | none => none
def rCut (K : KK) : V → Option Int → Option Int → Hp → VK → Prop := fun x lo hi H Q => ∃ N dx d, (∀ a, N a → H a ≠ none) ∧ RpV K N H x dx ∧ fCut dx lo hi = some d ∧ VR K N H d Q
theorem RpA.cut {K : KK} {N : Addr → Prop} {H : Hp} {vs : List V} {ds : List PyData} (h : RpA K N H vs ds) (lo hi : Option Int) : RpA K N H (cutV vs lo hi) (cutD ds lo hi) := by
  unfold cutV cutD
  rw [h.length]
  exact (h.drop _).take _
theorem cutD_whole {ds : List PyData} {lo hi : Option Int} (h : HT.sIx ds.length 0 lo = 0 ∧ HT.sIx ds.length ds.length hi = ds.length) : cutD ds lo hi = ds := by
  unfold cutD
  rw [h.1, h.2]
  simp
theorem sd_cut : SlR X (rCut X.kk) := by
  have lst : SlR X (fun x lo hi H Q => ∃ N dx, (∀ a, N a → H a ≠ none) ∧ RpV X.kk N H x (.list dx) ∧ VR X.kk N H (.list (cutD dx lo hi)) Q) := by
    intro pins s σ H x v vl vu lo hi sl Q I rx hs pl pu ⟨N, dx, ex, hx, q⟩
    obtain ⟨a, ls, rfl, hl, ra⟩ := hx.lst
    exact sl_list pins s σ H _ v vl vu lo hi sl Q I rx hs pl pu ⟨a, ls, rfl, hl, fun p hp => vr_lst ex (ra.cut lo hi) q hp⟩
  have tup : SlR X (fun x lo hi H Q => ∃ N dx, (∀ a, N a → H a ≠ none) ∧ RpV X.kk N H x (.tuple dx) ∧ VR X.kk N H (.tuple (cutD dx lo hi)) Q) := by
    intro pins s σ H x v vl vu lo hi sl Q I rx hs pl pu ⟨N, dx, ex, hx, q⟩
    obtain ⟨a, ls, rfl, hl, ra⟩ := hx.tup
    refine sl_tupA pins s σ H _ v vl vu lo hi sl Q I rx hs pl pu ⟨a, ls, rfl, hl, fun w => ?_, fun _ p hp => vr_tup (ra.cut lo hi) q hp⟩
    rw [ra.length] at w
    rw [cutD_whole w] at q
    exact vr_val (.tup hl ra) rfl q
  intro pins s σ H x v vl vu lo hi sl Q I rx hs pl pu ⟨N, dx, d, ex, hx, hf, q⟩
  unfold fCut at hf
  split at hf
  · cases hf; exact lst pins s σ H x v vl vu lo hi sl Q I rx hs pl pu ⟨N, _, ex, hx, q⟩
  · cases hf; exact tup pins s σ H x v vl vu lo hi sl Q I rx hs pl pu ⟨N, _, ex, hx, q⟩
  · cases hf
theorem sx_cut {o : Opd} {ol oh : Option Opd} {lo hi : Option Expr} (he : PE X e (TP X.kk F M o)) (hl : PO X lo (TPO X.kk F M ol)) (hh : PO X hi (TPO X.kk F M oh)) : PE X (.Subscript e (.Slice lo hi none p2) pos) (TX X.kk F M true (cCut o ol oh)) :=
  peI (pe_slice sd_cut he hl hh) fun σ H Q ⟨g, s, x, s', r, ev, q⟩ => by
    unfold cCut at ev
    split at ev
    · rename_i d1 s1 l1 e1
      split at ev
      · rename_i i s2 l2 e2
        split at ev
        · rename_i j s3 l3 e3
          split at ev
          · rename_i d e4
            cases ev
            refine ⟨g, s, d1, s1, l1, r, e1, fun v g1 H1 r1 v1 rp L1 => ⟨g1, s1, i, s2, l2, r1, e2, fun g2 H2 r2 v2 L2 => ⟨g2, s2, j, s3, l3, r2, e3, fun g3 H3 r3 v3 L3 => ?_⟩⟩⟩
            exact ⟨g3.N, d1, d, r3.ex, ((rp.move v2 r1.wn).move v3 r2.wn).v, e4, fin_op r3 (L1.trans (fun a h => v3.grow a (v2.grow a h)) (L2.trans v3.grow L3)) ((v1.trans v2).trans v3) q⟩
          · cases ev
        · cases ev
      · cases ev
    · cases ev
/-- xs[::-1] of a list -/
def fRev : PyData → Option PyData
  | .list ds => some (.list ds.reverse)
  | _ => none
theorem sx_rev {o : Opd} {k : Nat} {p1 p3 : Pos} (he : PE X e (TP X.kk F M o)) : PE X (.Subscript e (.Slice none none (some (.UnaryOp .USub (.Constant (.int 1) k p1) p2)) p3) pos) (TX X.kk F M true (cUn fRev o)) := peI (pe_revL he) fun σ H Q h => by
  obtain ⟨g, s, d, s', l, r, ev, q⟩ := tx_un h
  refine ⟨g, s, d, s', l, r, ev, fun v g1 H1 r1 v1 rp L => ?_⟩
  obtain ⟨N, dx, d', ex, rp', hf, q'⟩ := q v g1 H1 r1 v1 rp L
  unfold fRev at hf
  split at hf
  · cases hf
    obtain ⟨a, ls, rfl, hl, ra⟩ := rp'.lst
    exact ⟨a, ls, rfl, hl, fun p hp => vr_lst ex ra.reverse q' hp⟩
  · cases hf

/-! ### in, not in, of lists and tuples -/
def fIn (n : Bool) : PyData → PyData → Option PyData := fun d c => match itemsOf c with
  | some ds => if shp d && PyData.canLayAll0 ds then some (.bool (xor n (ds.any fun y => PyData.eqv y d))) else none
  | none => none
theorem fIn_facts {n : Bool} {d c d' : PyData} (h : fIn n d c = some d') : ∃ ds, itemsOf c = some ds ∧ shp d = true ∧ PyData.canLayAll0 ds = true ∧ d' = .bool (xor n (ds.any fun y => PyData.eqv y d)) := by
  unfold fIn at h
  split at h
  · rename_i ds e
    split at h
    · rename_i hz
      rw [Bool.and_eq_true] at hz
      cases h
      exact ⟨ds, e, hz.1, hz.2, rfl⟩
    · cases h
  · cases h
theorem itemsOf_cases {c : PyData} {ds : List PyData} (h : itemsOf c = some ds) : c = .list ds ∨ c = .tuple ds := by
  unfold itemsOf at h
  split at h <;> cases h
  · exact .inl rfl
  · exact .inr rfl
theorem od_in (hu : X.A.units + 65 < cLine) : OpR X (compareOp .In) (R2D X.kk (fIn false)) := by
  intro pins s σ H x y v u Q I rx ry ⟨N, dx, dy, d, ex, hx, hy, hf, q⟩
  obtain ⟨ds, e, h1, h2, rfl⟩ := fIn_facts hf
  obtain ⟨as, r1⟩ := Dp.reads I dx x v (hx.dp (SeqAt.canLay_of_shaped h1)) rx
  have q' : Q (.bl (ds.any fun y => PyData.eqv y dx)) H := vr_val (.bl _) rfl (by simpa using q)
  rcases itemsOf_cases e with rfl | rfl
  · obtain ⟨bs, r2⟩ := Dp.reads I _ y u (hy.dp (by simpa [PyData.canLay0] using h2)) ry
    exact SeqAt.in_list_reads r2 r1 h2 (SeqAt.canLay_of_shaped h1) (PyProof.Rows.room_in_shaped h1 hu) ⟨.bl _, H, I, rfl, q'⟩
  · obtain ⟨bs, r2⟩ := Dp.reads I _ y u (hy.dp (by simpa [PyData.canLay0] using h2)) ry
    exact SeqAt.in_tuple_reads r2 r1 h2 (SeqAt.canLay_of_shaped h1) (PyProof.Rows.room_in_shaped h1 hu) ⟨.bl _, H, I, rfl, q'⟩
theorem od_notIn (hu : X.A.units + 65 < cLine) : OpR X (compareOp .NotIn) (R2D X.kk (fIn true)) := by
  intro pins s σ H x y v u Q I rx ry ⟨N, dx, dy, d, ex, hx, hy, hf, q⟩
  obtain ⟨ds, e, h1, h2, rfl⟩ := fIn_facts hf
  obtain ⟨as, r1⟩ := Dp.reads I dx x v (hx.dp (SeqAt.canLay_of_shaped h1)) rx
  have q' : Q (.bl (!ds.any fun y => PyData.eqv y dx)) H := vr_val (.bl _) rfl (by simpa using q)
  rcases itemsOf_cases e with rfl | rfl
  · obtain ⟨bs, r2⟩ := Dp.reads I _ y u (hy.dp (by simpa [PyData.canLay0] using h2)) ry
    exact SeqAt.notIn_list_reads r2 r1 h2 (SeqAt.canLay_of_shaped h1) (PyProof.Rows.room_in_shaped h1 hu) ⟨.bl _, H, I, rfl, q'⟩
  · obtain ⟨bs, r2⟩ := Dp.reads I _ y u (hy.dp (by simpa [PyData.canLay0] using h2)) ry
    exact SeqAt.notIn_tuple_reads r2 r1 h2 (SeqAt.canLay_of_shaped h1) (PyProof.Rows.room_in_shaped h1 hu) ⟨.bl _, H, I, rfl, q'⟩
end
end Ev
/-! Ev11: methods that change a list of one's own. -/
namespace Ev
open PySem PySem.Spec L2

section
variable {K : KK} {M : Nat → Bool} {F : Fn} {g g' : G} {s s' : S} {σ : L2.St} {H H' : Hp}
/-- may it be overwritten: it is no tuple, nothing locked -/
def Plain0 : HO → Prop
  | .lst _ => True
  | .dK _ => True
  | .ext _ => True
  | _ => False
theorem Top.plain {N : Addr → Prop} {a : Addr} {d : PyData} (h : Top K N H a d) : ∃ o, H a = some o ∧ Plain0 o := by
  cases d with
  | list ds => obtain ⟨xs, e, _⟩ := h; exact ⟨_, e, trivial⟩
  | dict kvs =>
    obtain ⟨o, kv, vv, kds, vds, rfl, e, ho, _⟩ := h
    refine ⟨o, e, ?_⟩
    cases ho <;> exact trivial
  | _ => exact h.elim
theorem upd_keep {N : Addr → Prop} {p : Addr} {o o' : HO} (hp : N p) : ∀ a u, H a = some u → ¬ N a → upd H p o' a = some u := fun a u e hn => by
  rw [upd_ne (fun z => hn (by rw [z]; exact hp))]; exact e
theorem upd_tup {p : Addr} {o o' : HO} (e : H p = some o) (ho : Plain0 o) : ∀ a xs, H a = some (.tup xs) → upd H p o' a = some (.tup xs) := fun a xs h => by
  rw [upd_ne (fun z => by rw [z, e] at h; cases h; exact ho)]; exact h
theorem upd_frz {p : Addr} {o o' : HO} (e : H p = some o) (ho : Plain0 o) : ∀ a ob u, H a = some (.frz ob u) → upd H p o' a = some (.frz ob u) := fun a ob u h => by
  rw [upd_ne (fun z => by rw [z, e] at h; cases h; exact ho)]; exact h
theorem RpA.upd {N : Addr → Prop} {p : Addr} {o o' : HO} (hp : N p) (e : H p = some o) (ho : Plain0 o) {vs : List V} {ds : List PyData} (h : RpA K N H vs ds) : RpA K N (upd H p o') vs ds :=
  h.move (upd_keep (o := o) hp) (fun _ _ => seq_keep (upd_tup e ho) (upd_frz e ho)) fun _ z => .inl z
theorem Rp.upd {N : Addr → Prop} {p : Addr} {o o' : HO} (hp : N p) (e : H p = some o) (ho : Plain0 o) {vs : V} {ds : PyData} (h : Rp K N H vs ds) : Rp K N (upd H p o') vs ds :=
  h.move (upd_keep (o := o) hp) (fun _ _ => seq_keep (upd_tup e ho) (upd_frz e ho)) fun _ z => .inl z
theorem Top.upd {N : Addr → Prop} {p a : Addr} {o o' : HO} (hp : N p) (e : H p = some o) (ho : Plain0 o) (ha : a ≠ p) {d : PyData} (h : Top K N H a d) : Top K N (upd H p o') a d :=
  h.move (upd_ne ha) (upd_keep (o := o) hp) (fun _ _ => seq_keep (upd_tup e ho) (upd_frz e ho)) fun _ z => .inl z
theorem SrcOk.upd {SA CA : Addr → Prop} {p : Addr} {o' : HO} (hs : ¬ SA p) (hc : ¬ CA p) {x : Option Src} (h : SrcOk SA CA H x) : SrcOk SA CA (upd H p o') x := by
  cases x with
  | none => exact h
  | some s =>
    obtain ⟨a, c, h1, h2, h3, h4, h5⟩ := h
    exact ⟨a, c, h1, h2, h3, by rw [upd_ne (fun z => hs ((h1 p).mpr z.symm))]; exact h4, by rw [upd_ne (fun z => hc ((h2 p).mpr z.symm))]; exact h5⟩
/-- an owned slot's thing is changed -/
theorem Rel.owned {i : Nat} {d : PyData} (r : Rel K M g s σ H) (e : s.env[i]? = some (some (.d d))) (hm : M i = true ∧ isM d = true) :
    ∃ p, σ[i]? = some (some (.ref p)) ∧ g.P i = some p ∧ Top K g.N H p d ∧ ∀ o' d', Top K g.N (upd H p o') p d' → Rel K M g { s with env := s.env.set i (some (.d d')) } σ (upd H p o') ∧ Evo g g H (upd H p o') := by
  obtain ⟨v, ev, hs⟩ := r.slot i _ e
  obtain ⟨p, rfl, hp, t⟩ := hs.1 hm
  obtain ⟨o, eo, ho⟩ := t.plain
  have hN : g.N p := .inr ⟨i, hp⟩
  have nS : ¬ (g.SA p ∨ g.CA p) := fun z => r.sep i p hp (r.srN p z)
  refine ⟨p, ev, hp, t, fun o' d' t' => ⟨⟨fun j x ej => ?_, r.inj, r.sep, fun a h => ?_, r.srN, r.src.upd (fun z => nS (.inl z)) (fun z => nS (.inr z)), ?_⟩, ?_⟩⟩
  · rcases get_set ej with ⟨h0, z, hi⟩ | ⟨hne, ej⟩
    · subst h0
      cases z
      exact ⟨_, ev, fun _ => ⟨p, rfl, hp, t'⟩, fun c => absurd ⟨hm.1, t'.isM⟩ c⟩
    · obtain ⟨v, h1, h2⟩ := r.slot j x ej
      refine ⟨v, h1, ?_⟩
      cases x with
      | d d2 => exact ⟨fun c => let ⟨b, e1, q, t2⟩ := h2.1 c; ⟨b, e1, q, t2.upd hN eo ho fun z => hne (r.inj i j p hp (by rw [← z]; exact q))⟩, fun c => (h2.2 c).upd hN eo ho⟩
      | z d => exact Rp.upd hN eo ho h2
      | src => exact h2
      | srcc => exact h2
  · by_cases z : a = p
    · rw [z, upd_same]; simp
    · rw [upd_ne z]; exact r.ex a h
  · rw [env_set_len]; exact r.len
  · refine ⟨fun _ h => .inl h, fun _ h => .inl h, fun _ h => h, fun _ h => h, fun _ h => h, fun a u h hw => ?_, upd_tup eo ho, upd_frz eo ho, fun a h => ?_, fun _ h => .inl h⟩
    · rw [upd_ne (fun z => hw (by rw [z]; exact .inl ⟨i, hp⟩))]; exact h
    · by_cases z : a = p
      · rw [z, upd_same]; simp
      · rw [upd_ne z]; exact h
theorem top_list {p : Addr} {N : Addr → Prop} {o : HO} {ys : List V} {ds : List PyData} (hp : N p) (e : H p = some o) (ho : Plain0 o) (r : RpA K N H ys ds) : Top K N (upd H p (.lst ys)) p (.list ds) := ⟨ys, upd_same, r.upd hp e ho⟩
end

section
variable {X : Cx} {M : Nat → Bool} {F : Fn} {a b c e : Expr} {es : List Expr} {pos p apos cpos : Pos} {x : Str} {i : Nat}
/-- x.append(e) -/
def cAppend (i : Nat) (c : CE) : CE := fun F s => match s.env[i]? with
  | some (some (.d (.list _))) => match c F s with
    | some (.d y, s1) => match s1.env[i]? with
      | some (some (.d (.list ds))) => if ds.length < sizeLine then some (.d .none, { s1 with env := s1.env.set i (some (.d (.list (ds ++ [y])))) }) else none
      | _ => none
    | _ => none
  | _ => none
theorem slot_list {K : KK} {g : G} {s : S} {σ : L2.St} {H : Hp} {ds : List PyData} (r : Rel K M g s σ H) (e : s.env[i]? = some (some (.d (.list ds)))) (hm : M i = true) : ∃ l xs, σ[i]? = some (some (.ref l)) ∧ g.P i = some l ∧ H l = some (.lst xs) ∧ RpA K g.N H xs ds ∧
    ∀ o' d', Top K g.N (upd H l o') l d' → Rel K M g { s with env := s.env.set i (some (.d d')) } σ (upd H l o') ∧ Evo g g H (upd H l o') := by
  obtain ⟨l, ev, hp, ⟨xs, ex, ra⟩, w⟩ := r.owned e ⟨hm, rfl⟩
  exact ⟨l, xs, ev, hp, ex, ra, w⟩
theorem sx_append {ce : CE} {fr : Bool} (hN : X.N[i]? = some x) (hv : Vis X.env.scope x) (hm : M i = true) (ha : PE X e (TX X.kk F M fr ce)) (hd : (x == ("__debug__" : Str)) = false := by decide) (hcd : (x == ("__classdict__" : Str)) = false := by decide)
    (hbase : attributeBase (.Name x p) "append" X.env (eval (.Name x p) X.env) = eval (.Name x p) X.env := by rfl)
    (hfew : ((backTo cpos (starEach [e] X.env)).all (fun x => !x.1) && (backToKw cpos (keywordEach [] X.env)).all (fun x => x.1.isSome) && decide (([e] : List Expr).length + ([] : List Keyword).length + (if ([] : List Keyword).isEmpty then 0 else 1) < 30)) = true := by rfl)
    (hline : (apos.endLine == cpos.line) = true := by rfl) (hs : starEach [e] X.env = (false, eval e X.env) :: starEach [] X.env := by rfl) (hpl : (backTo cpos (starEach [] X.env)).any (·.1) = false := by rfl) :
    PE X (.Call (.Attribute (.Name x p) "append" apos) [e] [] cpos) (TX X.kk F M true (cAppend i ce)) :=
  peI (pe_bm PySem.F.plainAttrs_list PySem.F.slot_list_append PySem.F.type_list_append mt_append (pe_var hN hv hd hcd) (pa_cons ha pa_nil hs) hbase hfew hline hs hpl) fun σ H Q ⟨g, s, y, s', r, ev, q⟩ => by
    unfold cAppend at ev
    split at ev
    · rename_i ds0 e0
      split at ev
      · rename_i y s1 e1
        split at ev
        · rename_i ds e2
          split at ev
          · rename_i hz
            cases ev
            obtain ⟨l0, xs0, ev0, hp0, hl0, ra0, _⟩ := slot_list r e0 hm
            refine ⟨_, ev0, .inl ⟨rfl, xs0, .inl (.inl hl0)⟩, g, s, .d y, s1, r, e1, fun v g1 H1 r1 v1 rp _ => ?_⟩
            obtain ⟨l, xs, ev1, hp, hl, ra, w⟩ := slot_list r1 e2 hm
            rw [ev0] at ev1
            cases ev1
            have t := top_list (.inr ⟨i, hp⟩) hl trivial (ra.append (.cons rp .nil))
            obtain ⟨r2, v2⟩ := w (.lst (xs ++ [v])) _ t
            exact ⟨l0, xs, v, rfl, rfl, hl, by rw [ra.length]; exact hz, q .non g1 _ r2 (v1.trans v2) .non fun _ d' e' h => by cases e'; cases h⟩
          · cases ev
        · cases ev
      · cases ev
    · cases ev
/-- x.pop(): the last -/
def cPop (i : Nat) : CE := fun F s => match s.env[i]? with
  | some (some (.d (.list ds))) => match ds[ds.length - 1]? with
    | some y => some (.d y, { s with env := s.env.set i (some (.d (.list ds.dropLast))) })
    | none => none
  | _ => none
theorem RpA.dropLast {K : KK} {N : Addr → Prop} {H : Hp} {xs : List V} {ds : List PyData} (h : RpA K N H xs ds) : RpA K N H xs.dropLast ds.dropLast := by
  rw [List.dropLast_eq_take, List.dropLast_eq_take, h.length]
  exact h.take _
theorem sx_pop (hN : X.N[i]? = some x) (hv : Vis X.env.scope x) (hm : M i = true) (hd : (x == ("__debug__" : Str)) = false := by decide) (hcd : (x == ("__classdict__" : Str)) = false := by decide)
    (hbase : attributeBase (.Name x p) "pop" X.env (eval (.Name x p) X.env) = eval (.Name x p) X.env := by rfl) (hline : (apos.endLine == cpos.line) = true := by rfl) :
    PE X (.Call (.Attribute (.Name x p) "pop" apos) [] [] cpos) (TX X.kk F M false (cPop i)) :=
  peI (pe_bm0 PySem.F.plainAttrs_list PySem.F.slot_list_pop PySem.F.type_list_pop mt_pop (pe_var hN hv hd hcd) hbase hline) fun σ H Q ⟨g, s, y, s', r, ev, q⟩ => by
    unfold cPop at ev
    split at ev
    · rename_i ds e0
      split at ev
      · rename_i y e1
        cases ev
        obtain ⟨l, xs, ev0, hp, hl, ra, w⟩ := slot_list r e0 hm
        obtain ⟨v, e2, rv⟩ := ra.get e1
        have t := top_list (.inr ⟨i, hp⟩) hl trivial ra.dropLast
        obtain ⟨r2, v2⟩ := w (.lst xs.dropLast) _ t
        refine ⟨_, ev0, .inl ⟨rfl, xs, .inl (.inl hl)⟩, l, xs, v, rfl, rfl, hl, by rw [ra.length]; exact e2, q v g _ r2 v2 (rv.upd (.inr ⟨i, hp⟩) hl trivial) fun z => nomatch z⟩
      · cases ev
    · cases ev
/-- x.pop(k) -/
def cPopAt (i : Nat) (c : CE) : CE := fun F s => match s.env[i]? with
  | some (some (.d (.list _))) => match c F s with
    | some (.d (.int k), s1) => match s1.env[i]? with
      | some (some (.d (.list ds))) => if small63 k then match seqIndex? k ds.length with
        | some j => match ds[j]? with
          | some y => some (.d y, { s1 with env := s1.env.set i (some (.d (.list (ds.eraseIdx j)))) })
          | none => none
        | none => none
        else none
      | _ => none
    | _ => none
  | _ => none
theorem sx_popAt {ce : CE} {fr : Bool} (hN : X.N[i]? = some x) (hv : Vis X.env.scope x) (hm : M i = true) (ha : PE X e (TX X.kk F M fr ce)) (hd : (x == ("__debug__" : Str)) = false := by decide) (hcd : (x == ("__classdict__" : Str)) = false := by decide)
    (hbase : attributeBase (.Name x p) "pop" X.env (eval (.Name x p) X.env) = eval (.Name x p) X.env := by rfl)
    (hfew : ((backTo cpos (starEach [e] X.env)).all (fun x => !x.1) && (backToKw cpos (keywordEach [] X.env)).all (fun x => x.1.isSome) && decide (([e] : List Expr).length + ([] : List Keyword).length + (if ([] : List Keyword).isEmpty then 0 else 1) < 30)) = true := by rfl)
    (hline : (apos.endLine == cpos.line) = true := by rfl) (hs : starEach [e] X.env = (false, eval e X.env) :: starEach [] X.env := by rfl) (hpl : (backTo cpos (starEach [] X.env)).any (·.1) = false := by rfl) :
    PE X (.Call (.Attribute (.Name x p) "pop" apos) [e] [] cpos) (TX X.kk F M false (cPopAt i ce)) :=
  peI (pe_bm PySem.F.plainAttrs_list PySem.F.slot_list_pop PySem.F.type_list_pop mt_popAt (pe_var hN hv hd hcd) (pa_cons ha pa_nil hs) hbase hfew hline hs hpl) fun σ H Q ⟨g, s, y, s', r, ev, q⟩ => by
    unfold cPopAt at ev
    split at ev
    · rename_i ds0 e0
      split at ev
      · rename_i k s1 e1
        split at ev
        · rename_i ds e2
          split at ev
          · rename_i hz
            split at ev
            · rename_i j e3
              split at ev
              · rename_i y e4
                cases ev
                obtain ⟨l0, xs0, ev0, hp0, hl0, ra0, _⟩ := slot_list r e0 hm
                refine ⟨_, ev0, .inl ⟨rfl, xs0, .inl (.inl hl0)⟩, g, s, .d (.int k), s1, r, e1, fun v g1 H1 r1 v1 rp _ => ?_⟩
                obtain ⟨l, xs, ev1, hp, hl, ra, w⟩ := slot_list r1 e2 hm
                rw [ev0] at ev1
                cases ev1
                have ek : v = .int k := by cases rp; rfl
                subst ek
                obtain ⟨v, e5, rv⟩ := ra.get e4
                have t := top_list (.inr ⟨i, hp⟩) hl trivial (ra.eraseIdx j)
                obtain ⟨r2, v2⟩ := w (.lst (xs.eraseIdx j)) _ t
                obtain ⟨z1, z2⟩ := small63_iff hz
                exact ⟨l0, xs, k, j, v, rfl, rfl, hl, z1, z2, by rw [ra.length]; exact e3, e5, q v g1 _ r2 (v1.trans v2) (rv.upd (.inr ⟨i, hp⟩) hl trivial) fun z => nomatch z⟩
              · cases ev
            · cases ev
          · cases ev
        · cases ev
      · cases ev
    · cases ev
/-- x[k] = e, x a list of one's own -/
def sSetIx (i : Nat) (cv ck : CE) : CS := fun F s => match cv F s with
  | some (.d y, s1) => match s1.env[i]? with
    | some (some (.d (.list _))) => match ck F s1 with
      | some (.d (.int k), s2) => match s2.env[i]? with
        | some (some (.d (.list ds))) => match ixN ds.length k with
          | some j => some (.nx, { s2 with env := s2.env.set i (some (.d (.list (ds.set j y)))) })
          | none => none
        | _ => none
      | _ => none
    | _ => none
  | _ => none
theorem ss_setIx {cv ck : CE} {f1 f2 : Bool} {tpos : Pos} (hN : X.N[i]? = some x) (hv : Vis X.env.scope x) (hm : M i = true) (he : PE X e (TX X.kk F M f1 cv)) (hk : PE X b (TX X.kk F M f2 ck)) (hd : (x == ("__debug__" : Str)) = false := by decide) (hcd : (x == ("__classdict__" : Str)) = false := by decide)
    (ha : ∀ v, assign (.Subscript (.Name x p) b tpos) X.env v = (do
      let ov ← holding [v] (eval (.Name x p) X.env)
      let iv ← holding [v, ov] (eval b X.env)
      standAt tpos
      holding [v, ov, iv] (setItem ov iv v)
      release [v, ov, iv] []) := by intro _; rfl)
    (hs : swapsWithSole [.Subscript (.Name x p) b tpos] e pos.line X.env = pure false := by rfl) (hw : swappedStores [.Subscript (.Name x p) b tpos] e X.env = pure none := by rfl)
    (h1 : (assignEach [.Subscript (.Name x p) b tpos] X.env).map (·.2) = [assign (.Subscript (.Name x p) b tpos) X.env] := by rfl) :
    PS X (.Assign [.Subscript (.Name x p) b tpos] e pos) (TSt X.kk F M (sSetIx i cv ck)) :=
  psI (ps_asg he (pg_sub (pe_var hN hv hd hcd) hk set_list ha) hs hw h1) fun D σ H ⟨g, s, f, s', r, ev, q⟩ => by
    unfold sSetIx at ev
    split at ev
    · rename_i y s1 e1
      split at ev
      · rename_i ds0 e0
        split at ev
        · rename_i k s2 e2
          split at ev
          · rename_i ds e3
            split at ev
            · rename_i j e4
              cases ev
              refine ⟨g, s, .d y, s1, r, e1, fun v g1 H1 r1 v1 rp _ => ?_⟩
              obtain ⟨l0, xs0, ev0, hp0, hl0, ra0, _⟩ := slot_list r1 e0 hm
              refine ⟨_, ev0, g1, s1, .d (.int k), s2, r1, e2, fun w g2 H2 r2 v2 rp2 _ => ?_⟩
              obtain ⟨l, xs, ev1, hp, hl, ra, ww⟩ := slot_list r2 e3 hm
              rw [ev0] at ev1
              cases ev1
              have ek : w = .int k := by cases rp2; rfl
              subst ek
              have rv : Rp X.kk g2.N H2 v y := v2.rp r1.wn rp
              have t := top_list (.inr ⟨i, hp⟩) hl trivial (ra.set rv j)
              obtain ⟨r3, v3⟩ := ww (.lst (xs.set j v)) _ t
              exact ⟨l0, xs, k, j, rfl, rfl, hl, by rw [ra.length]; exact e4, q σ g2 _ r3 ((v1.trans v2).trans v3)⟩
            · cases ev
          · cases ev
        · cases ev
      · cases ev
    · cases ev
end
end Ev
/-! Ev12: list comprehensions. -/
namespace Ev
open PySem PySem.Spec L2

/-- the block's own names are not set -/
def wipeE : List (Option Vx) → List Nat → List (Option Vx)
  | e, [] => e
  | e, v :: vs => (wipeE e vs).set v none
def wipeS (own : List Nat) (s : S) : S := { s with env := wipeE s.env own }
/-- they are again what they were -/
def unwipeE : List (Option Vx) → List (Option Vx) → List Nat → List (Option Vx)
  | _, e, [] => e
  | e0, e, v :: vs => (unwipeE e0 e vs).set v (e0.getD v none)
def unwipeS (own : List Nat) (s0 s : S) : S := { s with env := unwipeE s0.env s.env own }
theorem wipeE_len (e : List (Option Vx)) : ∀ vs : List Nat, (wipeE e vs).length = e.length
  | [] => rfl
  | v :: vs => by unfold wipeE; rw [List.length_set, wipeE_len e vs]
theorem unwipeE_len (e0 e : List (Option Vx)) : ∀ vs : List Nat, (unwipeE e0 e vs).length = e.length
  | [] => rfl
  | v :: vs => by unfold unwipeE; rw [List.length_set, unwipeE_len e0 e vs]
theorem wipeE_some {e : List (Option Vx)} {i : Nat} {x : Vx} : ∀ {vs : List Nat}, (wipeE e vs)[i]? = some (some x) → e[i]? = some (some x) ∧ i ∉ vs
  | [], h => ⟨h, fun z => nomatch z⟩
  | v :: vs, h => by
    unfold wipeE at h
    rcases get_set h with ⟨_, z, _⟩ | ⟨hne, h⟩
    · cases z
    · have q := wipeE_some h
      exact ⟨q.1, fun z => (List.mem_cons.mp z).elim (fun z => hne z.symm) q.2⟩
theorem wipe_keep {σ : L2.St} {i : Nat} {v : V} : ∀ {vs : List Nat}, i ∉ vs → σ[i]? = some (some v) → (wipe σ vs)[i]? = some (some v)
  | [], _, h => h
  | w :: vs, hn, h => by
    unfold wipe
    rw [List.getElem?_set_ne (fun z => hn (by rw [z]; exact List.mem_cons_self))]
    exact wipe_keep (fun z => hn (List.mem_cons_of_mem _ z)) h
theorem unwipeE_some {e0 e : List (Option Vx)} {i : Nat} {x : Vx} : ∀ {vs : List Nat}, (unwipeE e0 e vs)[i]? = some (some x) → (i ∈ vs ∧ e0[i]? = some (some x)) ∨ (i ∉ vs ∧ e[i]? = some (some x))
  | [], h => .inr ⟨(fun z => nomatch z), h⟩
  | v :: vs, h => by
    unfold unwipeE at h
    rcases get_set h with ⟨e1, z, _⟩ | ⟨hne, h⟩
    · subst e1
      refine .inl ⟨List.mem_cons_self, ?_⟩
      rw [List.getD_eq_getElem?_getD] at z
      cases q : e0[v]? with
      | none => rw [q] at z; cases z
      | some y => rw [q] at z; rw [show y = some x from z]
    · rcases unwipeE_some h with ⟨h1, h2⟩ | ⟨h1, h2⟩
      · exact .inl ⟨List.mem_cons_of_mem _ h1, h2⟩
      · exact .inr ⟨fun z => (List.mem_cons.mp z).elim (fun z => hne z.symm) h1, h2⟩

section
variable {K : KK} {M : Nat → Bool} {F : Fn} {g g' : G} {s s' s0 : S} {σ : L2.St} {H H' H0 : Hp}
theorem Rel.wiped {own : List Nat} (ho : ∀ i ∈ own, M i = false) (r : Rel K M g s σ H) : Rel K M g (wipeS own s) (wipe σ own) H where
  slot := fun i x e => by
    obtain ⟨h1, h2⟩ := wipeE_some e
    obtain ⟨v, e1, h3⟩ := r.slot i x h1
    exact ⟨v, wipe_keep h2 e1, h3⟩
  inj := r.inj
  sep := r.sep
  ex := r.ex
  srN := r.srN
  src := r.src
  len := by
    show (wipeE s.env own).length = (wipe σ own).length
    rw [wipeE_len, wipe_length]; exact r.len
/-- back from the block: its own names as they were -/
theorem Rel.unwiped {own : List Nat} {g0 : G} (ho : ∀ i ∈ own, M i = false) (r0 : Rel K M g0 s0 σ H0) (e : Evo g0 g H0 H) (r : Rel K M g s (wipe σ own) H) : Rel K M g (unwipeS own s0 s) σ H where
  slot := fun i x e1 => by
    rcases unwipeE_some e1 with ⟨h1, h2⟩ | ⟨h1, h2⟩
    · obtain ⟨v, e2, h3⟩ := r0.slot i x h2
      refine ⟨v, e2, ?_⟩
      have hm := ho i h1
      cases x with
      | d d => exact ⟨fun c => (by rw [hm] at c; cases c.1), fun c => e.rp r0.wn (h3.2 c)⟩
      | z d => exact e.rp r0.wn h3
      | src => exact Evo.rpX (K := K) e r0.wn (x := .src) h3
      | srcc => exact Evo.rpX (K := K) e r0.wn (x := .srcc) h3
    · obtain ⟨v, e2, h3⟩ := r.slot i x h2
      exact ⟨v, (wipe_some e2).1, h3⟩
  inj := r.inj
  sep := r.sep
  ex := r.ex
  srN := r.srN
  src := r.src
  len := by
    show (unwipeE s0.env s.env own).length = σ.length
    rw [unwipeE_len, r.len, wipe_length]
/-- what is locked, and nothing knows, is changed -/
theorem Rel.scratch {D : Addr} {o o' : HO} (r : Rel K M g s σ H) (hD : g.N0 D) (hs : ¬ g.SA D) (hc : ¬ g.CA D) (e : H D = some o) (ho : Plain0 o) : Rel K M g s σ (upd H D o') where
  slot := fun i x ei => by
    obtain ⟨v, h1, h2⟩ := r.slot i x ei
    refine ⟨v, h1, ?_⟩
    cases x with
    | d d => exact ⟨fun c => let ⟨b, e1, q, t⟩ := h2.1 c; ⟨b, e1, q, t.upd (.inl hD) e ho fun z => r.sep i b q (by rw [z]; exact hD)⟩, fun c => (h2.2 c).upd (.inl hD) e ho⟩
    | z d => exact Rp.upd (.inl hD) e ho h2
    | src => exact h2
    | srcc => exact h2
  inj := r.inj
  sep := r.sep
  ex := fun a h => by
    by_cases z : a = D
    · rw [z, upd_same]; simp
    · rw [upd_ne z]; exact r.ex a h
  srN := r.srN
  src := r.src.upd hs hc
  len := r.len
theorem Evo.scratch {D : Addr} {o o' : HO} {g0 : G} (v : Evo g0 g H0 H) (h0 : H0 D = none) (e : H D = some o) (ho : Plain0 o) : Evo g0 g H0 (upd H D o') where
  n := v.n
  w := v.w
  sa := v.sa
  ca := v.ca
  n0 := v.n0
  keep := fun a u h hw => by rw [upd_ne (fun z => by rw [z, h0] at h; cases h)]; exact v.keep a u h hw
  tup := fun a xs h => upd_tup e ho a xs (v.tup a xs h)
  frz := fun a ob u h => upd_frz e ho a ob u (v.frz a ob u h)
  grow := fun a h => by
    by_cases z : a = D
    · rw [z, upd_same]; simp
    · rw [upd_ne z]; exact v.grow a h
  sr := v.sr
/-- the lock taken off -/
def G.open (g : G) (a : Addr) : G := { g with N0 := fun b => g.N0 b ∧ b ≠ a }
theorem G.open_N {a b : Addr} (h : (g.open a).N b) : g.N b := h.imp (fun z => z.1) id
theorem Rel.opened {D : Addr} (r : Rel K M g s σ H) (hs : ¬ g.SA D) (hc : ¬ g.CA D) : Rel K M (g.open D) s σ H where
  slot := fun i x ei => by
    obtain ⟨v, h1, h2⟩ := r.slot i x ei
    refine ⟨v, h1, ?_⟩
    have hn : ∀ b, (g.open D).N b → g.N b ∨ H b = none := fun b h => .inl (G.open_N h)
    cases x with
    | d d => exact ⟨fun c => let ⟨b, e1, q, t⟩ := h2.1 c; ⟨b, e1, q, t.forbid hn⟩, fun c => (h2.2 c).forbid hn⟩
    | z d => exact Rp.forbid hn h2
    | src => exact h2
    | srcc => exact h2
  inj := r.inj
  sep := fun i a h z => r.sep i a h z.1
  ex := fun a h => r.ex a (G.open_N h)
  srN := fun a h => ⟨r.srN a h, fun z => by rw [z] at h; exact h.elim hs hc⟩
  src := r.src
  len := r.len
theorem Evo.opened {D : Addr} {g0 : G} (v : Evo g0 g H0 H) (ex : ∀ a, g0.N a → H0 a ≠ none) (h0 : H0 D = none) : Evo g0 (g.open D) H0 H :=
  ⟨fun b h => v.n b (G.open_N h), fun b h => v.w b h, v.sa, v.ca, fun b h => ⟨v.n0 b h, fun z => ex b (.inl h) (by rw [z]; exact h0)⟩, v.keep, v.tup, v.frz, v.grow, v.sr⟩
end

/-! ### [elt for target in .. if ..] -/
def lcL (as : PyData → S → Option S) (own : List Nat) (t : CB) (c : CE) (F : Fn) : List PyData → S → Option (List PyData × S)
  | [], s => some ([], s)
  | d :: ds, s => match as d (wipeS own s) with
    | some s1 => match t F s1 with
      | some (true, s2) => match c F s2 with
        | some (.d y, s3) => match lcL as own t c F ds s3 with
          | some (ys, s4) => some (y :: ys, s4)
          | none => none
        | _ => none
      | some (false, s2) => lcL as own t c F ds s2
      | none => none
    | none => none
def cLc (own : List Nat) (as : PyData → S → Option S) (ic : IC) (t : CB) (c : CE) : CE := fun F s => match ic F s with
  | some (ds, s1, l) => if ds.length ≤ sizeLine then match lcL as own t c F ds s1 with
      | some (ys, s2) => some (.d (.list ys), back l (unwipeS own s1 (wipeS own s2)))
      | none => none
    else none
  | none => none
def bYes : CB := fun _ s => some (true, s)
section
variable {X : Cx} {M : Nat → Bool} {F : Fn} {elt tg iter : Expr} {ifs : List Expr} {scope : Scope} {own : List (Str × Nat)} {pos : Pos}
structure PTss (X : Cx) (ifs : List Expr) (t : TT) : Prop where
  p : PTs X ifs t
theorem ptsI {t t' : TT} (h : PTs X ifs t) (hi : ∀ σ H Q, t' σ H Q → t σ H Q) : PTs X ifs t' := ⟨fun pins s σ H Q I q => h.run pins s σ H Q I (hi _ _ _ q)⟩
theorem tb_yes : PTs X [] (TB X.kk F M bYes) := ptsI pts_nil fun σ H Q ⟨g, s, b, s', r, e, q⟩ => by
  cases e
  exact q g H r Evo.refl
theorem tb_if {c : Expr} {cb : CB} (h : PT X c (TB X.kk F M cb)) : PTs X [c] (TB X.kk F M cb) := pts_one h
theorem tx_lc {ic : IC} {ts own : List Nat} {as : PyData → S → Option S} {cb : CB} {ce : CE} {fr : Bool} {σ : L2.St} {H : Hp} {Q : VK} (hm : ∀ i ∈ own, M i = false) (hts : ∀ t ∈ ts, t ∈ own)
    (h : TX X.kk F M true (cLc own as ic cb ce) σ H Q) : tLc (TIX X.kk F M ic) (TGX X.kk M ts as) (TB X.kk F M cb) (TX X.kk F M fr ce) own σ H Q := by
  obtain ⟨g, s, x, s', r, ev, q⟩ := h
  unfold cLc at ev
  split at ev
  · rename_i ds s1 l e1
    split at ev
    · rename_i hz
      split at ev
      · rename_i ys s2 e2
        cases ev
        refine ⟨g, s, ds, s1, l, r, e1, fun J g1 H1 r1 v1 L W D hD => ?_⟩
        have nSC : ¬ (g1.SA D ∨ g1.CA D) := fun z => r1.ex D (.inl (r1.srN D z)) hD
        have k0 : Same H1 (upd H1 D (.lst [])) := fun b o e => by rw [upd_ne (ne_of_none e hD)]; exact e
        refine ⟨fun i m Hk => m + i = ds.length ∧ ∃ gk sk accV accD ys', Rel X.kk M gk (wipeS own sk) (wipe σ own) Hk ∧ Evo g1 gk H1 Hk ∧ gk.N0 D ∧ ¬ (gk.SA D ∨ gk.CA D) ∧ Hk D = some (.lst accV) ∧ RpA X.kk gk.N Hk accV accD ∧ accD.length ≤ i ∧
          lcL as own cb ce F (ds.drop i) sk = some (ys', s2) ∧ accD ++ ys' = ys, ⟨ds.length, rfl, g1.lock D, s1, [], [], ys, (r1.wiped hm).fresh hD k0 (by rw [upd_same]; simp), ?_, .inr rfl, nSC, upd_same, .nil, Nat.zero_le _, by simpa using e2, rfl⟩, ?_⟩
        · have e := Evo.same (g := g1) k0
          exact ⟨fun b h => (G.lock_N.mp h).elim .inl fun z => .inr (by rw [z]; exact hD), fun b h => .inl h, fun _ h => h, fun _ h => h, fun _ h => .inl h, e.keep, e.tup, e.frz, e.grow, fun _ h => .inl h⟩
        · rintro i m Hk ⟨him, gk, sk, accV, accD, ys', rk, vk, hN0, hS, hDk, ra, hla, ek, ey⟩
          obtain ⟨w1, w2⟩ := W gk Hk vk rk.wn rk.ex
          have nW : ¬ gk.W D := by
            rintro (⟨j, z⟩ | z)
            · exact rk.sep j D z hN0
            · exact hS z
          cases m with
          | zero =>
            have hi : i = ds.length := by omega
            subst hi
            rw [List.drop_length] at ek
            cases ek
            rw [List.append_nil] at ey
            subst ey
            refine .inl ⟨w2, ?_⟩
            have rf := Rel.unwiped hm r1 vk rk
            obtain ⟨g3, r3, v3, n3, sa3, ca3, k3⟩ := L gk _ Hk rf vk
            have n03 : g3.N0 D := k3 D hD hN0
            have hS3 : ¬ (g3.SA D ∨ g3.CA D) := fun z => hS (by rw [sa3, ca3] at z; exact z)
            have hDH : H D = none := none_back v1.grow hD
            have ra3 : RpA X.kk g3.N Hk accV accD := ra.forbid fun a h => .inl (n3 a h)
            refine q (.ref D) (g3.open D) Hk (r3.opened (fun z => hS3 (.inl z)) fun z => hS3 (.inr z)) (v3.opened r.ex hDH) (.lst (.inl hDk) ?_ (ra3.forbid fun a h => .inl (G.open_N h))) fun _ d ed hd => ?_
            · rintro (z | ⟨j, z⟩)
              · exact z.2 rfl
              · exact r3.sep j D z n03
            · cases ed
              exact ⟨D, g3, rfl, hDH, r3, v3, n03, fun z => hS3 (.inl z), fun z => hS3 (.inr z), accV, hDk, ra3⟩
          | succ m =>
            have hi : i < ds.length := by omega
            obtain ⟨go, yl⟩ := w1 i _ (List.getElem?_eq_getElem hi)
            rw [List.drop_eq_getElem_cons hi] at ek
            unfold lcL at ek
            split at ek
            · rename_i sa ea
              split at ek
              · rename_i sb eb
                split at ek
                · rename_i y sc ec
                  split at ek
                  · rename_i ys2 s4 er
                    cases ek
                    refine .inr ⟨go, fun H' => ∃ g4, Rel X.kk M g4 (wipeS own sc) (wipe σ own) H' ∧ Evo g1 g4 H1 H' ∧ g4.N0 D ∧ ¬ (g4.SA D ∨ g4.CA D) ∧ ∃ accV', H' D = some (.lst accV') ∧ RpA X.kk g4.N H' accV' (accD ++ [y]), fun H' z => ?_, fun x H3 yx => ?_⟩
                    · obtain ⟨g4, r4, v4, n4, s4', accV', d4, ra4⟩ := z
                      exact ⟨m, Nat.lt_succ_self m, by omega, g4, sc, accV', accD ++ [y], ys2, r4, v4, n4, s4', d4, ra4, by simp; omega, er, by rw [List.append_assoc]; exact ey⟩
                    · obtain ⟨k, rp⟩ := yl x H3 yx
                      refine ⟨gk, _, ds[i], sa, rk.same k, rp, ea, fun σ2 g2 H2 r2 v2 o2 => ⟨?_, g2, sa, true, sb, r2, eb, fun g3 H4 r3 v3 => ?_⟩⟩
                      · rw [o2 own hts]
                        have id : ∀ (τ : L2.St) (vs : List Nat), wipe (wipe τ vs) vs = wipe τ vs := by
                          intro τ vs
                          have sub : ∀ (us ws : List Nat) (τ : L2.St), (∀ u ∈ us, u ∈ ws) → wipe (wipe τ us) ws = wipe τ ws := by
                            intro us
                            induction us with
                            | nil => intro ws τ _; rfl
                            | cons u us ih =>
                              intro ws τ h
                              show wipe ((wipe τ us).set u none) ws = _
                              rw [wipe_set _ _ _ _ (h u List.mem_cons_self)]
                              exact ih ws τ fun z hz => h z (List.mem_cons_of_mem _ hz)
                          exact sub vs vs τ fun _ h => h
                        exact id σ own
                      · refine iteT ⟨g3, sb, .d y, sc, r3, ec, fun v g4 H5 r4 v4 rpv _ => ?_⟩
                        have vv : Evo gk g4 Hk H5 := (((Evo.same k).trans v2).trans v3).trans v4
                        have d5 : H5 D = some (.lst accV) := vv.keep D _ hDk nW
                        have n5 : g4.N0 D := vv.n0 D hN0
                        have s5 : ¬ (g4.SA D ∨ g4.CA D) := fun z => (vv.sr D z).elim hS fun z => by rw [hDk] at z; cases z
                        have ra5 := (vv.rpA rk.wn ra).append (.cons rpv .nil)
                        have hw : wipe σ2 own = wipe σ own := by
                          rw [o2 own hts]
                          have sub : ∀ (us ws : List Nat) (τ : L2.St), (∀ u ∈ us, u ∈ ws) → wipe (wipe τ us) ws = wipe τ ws := by
                            intro us
                            induction us with
                            | nil => intro ws τ _; rfl
                            | cons u us ih =>
                              intro ws τ h
                              show wipe ((wipe τ us).set u none) ws = _
                              rw [wipe_set _ _ _ _ (h u List.mem_cons_self)]
                              exact ih ws τ fun z hz => h z (List.mem_cons_of_mem _ hz)
                          exact sub own own σ fun _ h => h
                        have rs := (r4.scratch (o' := .lst (accV ++ [v])) n5 (fun z => s5 (.inl z)) (fun z => s5 (.inr z)) d5 trivial).wiped hm
                        rw [hw] at rs
                        refine ⟨accV, d5, ?_, g4, rs, (vk.trans vv).scratch hD d5 trivial, n5, s5, accV ++ [v], upd_same, ra5.upd (.inl n5) d5 trivial⟩
                        rw [ra.length]
                        omega
                  · cases ek
                · cases ek
              · rename_i sb eb
                refine .inr ⟨go, fun H' => ∃ g4, Rel X.kk M g4 (wipeS own sb) (wipe σ own) H' ∧ Evo gk g4 Hk H', fun H' z => ?_, fun x H3 yx => ?_⟩
                · obtain ⟨g4, r4, v4⟩ := z
                  exact ⟨m, Nat.lt_succ_self m, by omega, g4, sb, accV, accD, ys', r4, vk.trans v4, v4.n0 D hN0, fun z => (v4.sr D z).elim hS fun z => (by rw [hDk] at z; cases z), v4.keep D _ hDk nW, v4.rpA rk.wn ra, by omega, ek, ey⟩
                · obtain ⟨k, rp⟩ := yl x H3 yx
                  have sub : ∀ (us ws : List Nat) (τ : L2.St), (∀ u ∈ us, u ∈ ws) → wipe (wipe τ us) ws = wipe τ ws := by
                    intro us
                    induction us with
                    | nil => intro ws τ _; rfl
                    | cons u us ih =>
                      intro ws τ h
                      show wipe ((wipe τ us).set u none) ws = _
                      rw [wipe_set _ _ _ _ (h u List.mem_cons_self)]
                      exact ih ws τ fun z hz => h z (List.mem_cons_of_mem _ hz)
                  refine ⟨gk, _, ds[i], sa, rk.same k, rp, ea, fun σ2 g2 H2 r2 v2 o2 => ?_⟩
                  have hw : wipe σ2 own = wipe σ own := by
                    rw [o2 own hts]
                    exact sub own own σ fun _ h => h
                  refine ⟨hw, g2, sa, false, sb, r2, eb, fun g3 H4 r3 v3 => iteF ⟨g3, ?_, ((Evo.same k).trans v2).trans v3⟩⟩
                  have rs := r3.wiped hm
                  rw [hw] at rs
                  exact rs
              · cases ek
            · cases ek
      · cases ev
    · cases ev
  · cases ev
theorem sx_lc {ic : IC} {ts : List Nat} {as : PyData → S → Option S} {cb : CB} {ce : CE} {fr : Bool} (hc : X.calm = true) (hN : X.N.Nodup) (hi : PI X tg iter (TIX X.kk F M ic)) (ok : BlkOk X.N X.env.scope scope own) (hm : ∀ i ∈ own.map (·.2), M i = false) (hts : ∀ t ∈ ts, t ∈ own.map (·.2))
    (hg : ∀ (s : Shared) (H : Hp) (C : Addr) (cl : List (Str × Addr)) (fp : List Addr), PG (X.blk s H scope (compEnvC scope cl C X.env) fp) tg (TGX X.kk M ts as)) (ht : ∀ (s : Shared) (H : Hp) (C : Addr) (cl : List (Str × Addr)) (fp : List Addr), PTs (X.blk s H scope (compEnvC scope cl C X.env) fp) ifs (TB X.kk F M cb))
    (he : ∀ (s : Shared) (H : Hp) (C : Addr) (cl : List (Str × Addr)) (fp : List Addr), PE (X.blk s H scope (compEnvC scope cl C X.env) fp) elt (TX X.kk F M fr ce)) (hs : ∀ x, foldedSetIterable iter X.env x = pure x := by intro _; rfl) :
    PE X (.ListComp elt [⟨tg, iter, ifs, 0⟩] scope pos) (TX X.kk F M true (cLc (own.map (·.2)) as ic cb ce)) :=
  peI (pe_lc hc hN hi ok hg ht he hs) fun _ _ _ h => tx_lc hm hts h
end
end Ev
/-! Ev13: defs and their calls. -/
namespace Ev
open PySem PySem.Spec L2 PyProof.Rows

/-- a def's promise where no object is being shown (so repr may be asked) -/
structure FnG (P : Program) (w : World) (K : PySem.W.Frag) (mg : Str → Option Value) (base : Heap) (k : Nat) (f : Addr) (fd : FuncData) (ps : List Str) (sp : List V → Hp → VK → Prop) : Prop where
  len : ∀ vs H Q, sp vs H Q → vs.length = ps.length
  run : ∀ (A : Around) (outer : List Env) (s : Shared) (H : Hp) (args : Args) (us : List Value) (vs : List V) (Q : VK), Room k A → A.guards = some [] → Env0 P w K mg base A outer s H → BindsTo s fd args (ps.zip us) → Vals vs us → sp vs H Q →
    codeAny (model P w) A (.call (.ref f) args) (CR CX0 outer P w H s Q E0) s
/-- where a def's body runs -/
abbrev cxG (P : Program) (w : World) (K : PySem.W.Frag) (mg : Str → Option Value) (base : Heap) (N : List Str) (qual : Str) (sc : Scope) (f : Addr) (cdv : Value) (A : Around) (outer : List Env) (s : Shared) (H : Hp) : Cx := (cxOf CX0 P w K mg base N qual sc f cdv A outer s H E0).nox

theorem fnG_of {P : Program} {w : World} {K : PySem.W.Frag} {mg : Str → Option Value} {base : Heap} {x qual : Str} {st : Stmt} {f : Addr} {fd : FuncData} {N ps : List Str} {k : Nat} {sp : List V → Hp → VK → Prop} (D : Fun K x qual st f fd) (S : FnScope N ps (defScope st)) (len : ∀ vs H Q, sp vs H Q → vs.length = ps.length)
    (body : ∀ (cdv : Value) (A : Around) (outer : List Env) (s : Shared) (H : Hp) (vs : List V) (Q : VK), Room k (A.deeper (envOfC qual (defScope st) s.heap.objs.size f cdv)) → (A.deeper (envOfC qual (defScope st) s.heap.objs.size f cdv)).guards = some [] → sp vs H Q →
      ∃ t, PSs (cxG P w K mg base N qual (defScope st) f cdv A outer s H) (defBody st) t ∧ t { nx := fun _ H' => Q .non H', rt := Q } (L2.start N vs) H) : FnG P w K mg base (k + 1) f fd ps sp := by
  obtain ⟨oc, od, kV, doc, pm, an, cdv, ct, osl, rfl, lk, hcd⟩ := D.ex
  refine ⟨len, fun A outer s H args us vs Q hr hgd e0 hb r hsp => ?_⟩
  have hl := len _ _ _ hsp
  have KX : K.In s.heap := e0.mod.kin.keeps fun b o e => (e0.bs b o e).1
  have lim : s.heap.NoLimit := e0.mod.nolimit.keeps fun b o e => (e0.bs b o e).1
  have kinds : ∀ y ∈ ps.zip us, (defScope st).names.lookup y.1 = some .local ∨ ((defScope st).names.lookup y.1 = some .cell ∧ ((cellsFrom (s.heap.objs.size + 1) (defScope st).names []).lookup y.1).isSome = true) := fun ⟨n, v⟩ hy =>
    (S.par n (List.of_mem_zip hy).1).imp id fun q => ⟨q, PySem.W.cellsFrom_some _ _ _ (.inl q)⟩
  refine codeAny_call_function hr.depth (KX _ _ lk) rfl S.co S.gen rfl (PySem.W.codeRec_of KX hcd) (hb _ _ _ _ ?_)
  refine wpAny_newFunctionEnv_cells S.kind kinds fun env he s1 x1 => ?_
  subst he
  refine ⟨lim.keeps x1.toInCall.keep, codeAny_func ?_⟩
  obtain ⟨t, ht, hq⟩ := body cdv A outer s H vs Q (hr.deeper _) hgd hsp
  have I := inv_start (CX := CX0) (E := E0) (qual := qual) (f := f) (cd := cdv) S hr.hd e0 hl r x1
  refine wpAny_mono (ht.nox.run [] s1 (L2.start N vs) H _ I hq) (fun fl s' hs => ?_) fun e s' hs => hs
  cases fl with
  | ret u =>
    obtain ⟨v, σ', H', J, rv, q⟩ := hs
    exact ⟨v, H', J.os, J.bare, J.base, J.hok, rv, q⟩
  | next =>
    obtain ⟨σ', H', J, q⟩ := hs
    exact ⟨V.non, H', J.os, J.bare, J.base, J.hok, rfl, q⟩
  | brk =>
    obtain ⟨_, _, _, q⟩ := hs
    exact q.elim
  | cont =>
    obtain ⟨_, _, _, q⟩ := hs
    exact q.elim

/-! ### the defs of a program -/
structure FnDef where
  n : Nat
  nn : Nat
  body : CS
def runDef (d : FnDef) (F : Fn) (xs : List Vx) (src : Option Src) : Option (Vx × Option Src) :=
  if xs.length = d.n then match d.body F ⟨xs.map some ++ List.replicate (d.nn - xs.length) none, src⟩ with
    | some (.rt x, s') => some (x, s'.src)
    | some (.nx, s') => some (.d .none, s'.src)
    | _ => none
  else none
def fnAt (T : String → Option FnDef) (fuel : Nat) : Nat → Fn
  | 0 => ⟨fun _ _ _ => none, fuel⟩
  | k + 1 => ⟨fun nm xs src => match T nm with
    | some d => runDef d (fnAt T fuel k) xs src
    | none => none, fuel⟩
def g0 (N SA CA : Addr → Prop) : G := ⟨N, fun _ => none, SA, CA⟩
theorem g0_N {N SA CA : Addr → Prop} {a : Addr} : (g0 N SA CA).N a ↔ N a := ⟨fun h => h.elim id fun ⟨_, z⟩ => (nomatch z), .inl⟩
/-- what a call promises -/
def SpF (K : KK) (F : Fn) (nm : String) (n : Nat) : List V → Hp → VK → Prop := fun vs H Q => vs.length = n ∧ ∃ N SA CA xs src x src', (∀ a, N a → H a ≠ none) ∧ (∀ a, SA a ∨ CA a → N a) ∧ SrcOk SA CA H src ∧ Paired (RpX K (g0 N SA CA) H) vs xs ∧ F.call nm xs src = some (x, src') ∧
  ∀ v gc H', Evo (g0 N SA CA) gc H H' → SrcOk gc.SA gc.CA H' src' → (∀ a, gc.SA a ∨ gc.CA a → gc.N0 a) → RpX K gc H' v x → Q v H'
theorem paired_get {α β : Type} {R : α → β → Prop} : ∀ {l : List α} {m : List β} {i : Nat} {y : β}, Paired R l m → m[i]? = some y → ∃ x, l[i]? = some x ∧ R x y
  | _, _, _, _, .nil, e => by simp at e
  | _, _, 0, _, .cons h _, e => by simp at e; subst e; exact ⟨_, rfl, h⟩
  | _, _, i + 1, y, .cons _ t, e => by
    obtain ⟨x, h1, h2⟩ := paired_get (i := i) t (by simpa using e)
    exact ⟨x, by simpa using h1, h2⟩
theorem start_get {vs : List V} {xs : List Vx} {R : V → Vx → Prop} {N : List Str} {m : Nat} (r : Paired R vs xs) {i : Nat} {x : Vx} (e : (xs.map some ++ List.replicate m none)[i]? = some (some x)) : ∃ v, i < xs.length ∧ (L2.start N vs)[i]? = some (some v) ∧ R v x := by
  have hl := r.length
  by_cases hi : i < xs.length
  · rw [List.getElem?_append_left (by simpa using hi), List.getElem?_map] at e
    cases q : xs[i]? with
    | none => rw [q] at e; cases e
    | some y =>
      rw [q] at e
      cases e
      obtain ⟨v, h1, h2⟩ := paired_get r q
      refine ⟨v, hi, ?_, h2⟩
      unfold L2.start
      rw [List.getElem?_append_left (by simp; omega), List.getElem?_map, h1]
      rfl
  · rw [List.getElem?_append_right (by simpa using hi), List.getElem?_replicate] at e
    split at e <;> cases e
/-- a def whose body is read so keeps its promise -/
theorem defG {P : Program} {w : World} {K : PySem.W.Frag} {mg : Str → Option Value} {base : Heap} {x qual : Str} {st : Stmt} {f : Addr} {fd : FuncData} {N ps : List Str} {k fuel : Nat} {T : String → Option FnDef} {nm : String} {d : FnDef} {M : Nat → Bool} (D : Fun K x qual st f fd) (S : FnScope N ps (defScope st)) (hT : T nm = some d) (hn : d.n = ps.length) (hnn : d.nn = N.length) (hM : ∀ i, i < d.n → M i = false)
    (body : ∀ (cdv : Value) (A : Around) (outer : List Env) (s : Shared) (H : Hp), Room k (A.deeper (envOfC qual (defScope st) s.heap.objs.size f cdv)) → (A.deeper (envOfC qual (defScope st) s.heap.objs.size f cdv)).guards = some [] →
      PSs (cxG P w K mg base N qual (defScope st) f cdv A outer s H) (defBody st) (TSt ⟨K, w, P⟩ (fnAt T fuel k) M d.body)) : FnG P w K mg base (k + 1) f fd ps (SpF ⟨K, w, P⟩ (fnAt T fuel (k + 1)) nm d.n) := by
  refine fnG_of D S (fun vs H Q h => h.1.trans hn) fun cdv A outer s H vs Q hr hgd hsp => ⟨_, body cdv A outer s H hr hgd, ?_⟩
  obtain ⟨hv, N', SA, CA, xs, src, y, src', hex, hsN, hsrc, rp, hcall, q⟩ := hsp
  have hc : runDef d (fnAt T fuel k) xs src = some (y, src') := by
    have z : (match T nm with | some d => runDef d (fnAt T fuel k) xs src | none => none) = some (y, src') := hcall
    rw [hT] at z
    exact z
  unfold runDef at hc
  split at hc
  · rename_i hx
    have rel : Rel ⟨K, w, P⟩ M (g0 N' SA CA) ⟨xs.map some ++ List.replicate (d.nn - xs.length) none, src⟩ (L2.start N vs) H := by
      refine ⟨fun i z e => ?_, fun i j a h => (nomatch h), fun i a h => (nomatch h), fun a h => hex a (g0_N.mp h), fun a h => hsN a h, hsrc, ?_⟩
      · obtain ⟨v, h1, h2, h3⟩ := start_get (N := N) rp e
        refine ⟨v, h2, ?_⟩
        have hm := hM i (by rw [← hx]; exact h1)
        cases z with
        | d dd => exact ⟨fun c => (by rw [hm] at c; cases c.1), fun _ => h3⟩
        | z d => exact h3
        | src => exact h3
        | srcc => exact h3
      · have hl := rp.length
        show (xs.map some ++ List.replicate (d.nn - xs.length) none).length = (L2.start N vs).length
        unfold L2.start
        simp only [List.length_append, List.length_map, List.length_replicate]
        omega
    split at hc
    · rename_i z s' e1
      cases hc
      exact ⟨_, _, _, _, rel, e1, fun σ' g' H' r' v' => fun v rv => q v g' H' v' r'.src (fun a h => r'.srN a h) rv⟩
    · rename_i s' e1
      cases hc
      exact ⟨_, _, _, _, rel, e1, fun σ' g' H' r' v' => q .non g' H' v' r'.src (fun a h => r'.srN a h) .non⟩
    · cases hc
  · cases hc

/-! ### calls -/
/-- the def nm of the text, as it stands behind the name x -/
def Callee (P : Program) (w : World) (K : PySem.W.Frag) (mg : Str → Option Value) (base : Heap) (F : Fn) (k : Nat) (nm : String) (x : Str) (n : Nat) : Prop :=
  ∃ f fd ps, FnG P w K mg base k f fd ps (SpF ⟨K, w, P⟩ F nm n) ∧ mg x = some (.ref f) ∧ PySem.W.keepIn K (.ref f) = true ∧ Binds K fd ps []
def cCall (nm : String) (cs : List CE) : CE := fun F s => match evArgs cs F s with
  | some (xs, s1) => match F.call nm xs s1.src with
    | some (x, src') => some (x, { s1 with src := src' })
    | none => none
  | none => none
theorem SrcOk.ex {SA CA : Addr → Prop} {H : Hp} {o : Option Src} (h : SrcOk SA CA H o) : ∀ a, SA a ∨ CA a → H a ≠ none := fun a z => by
  cases o with
  | none => exact absurd z fun z => z.elim (h.1 a) (h.2 a)
  | some s =>
    obtain ⟨p, c, h1, h2, h3, h4, h5⟩ := h
    rcases z with z | z
    · rw [(h1 a).mp z, h4]; simp
    · rw [(h2 a).mp z, h5]; simp
section
variable {K : KK} {M : Nat → Bool} {F : Fn} {g gc : G} {s s' : S} {σ : L2.St} {H H' : Hp}
def G.behind (g gc : G) : G := { N0 := fun a => g.N0 a ∨ gc.SA a ∨ gc.CA a, P := g.P, SA := gc.SA, CA := gc.CA }
theorem Rel.called {src' : Option Src} (r : Rel K M g s σ H) (v : Evo (g0 g.N g.SA g.CA) gc H H') (hs : SrcOk gc.SA gc.CA H' src') : Rel K M (g.behind gc) { s with src := src' } σ H' ∧ Evo g (g.behind gc) H H' := by
  have W0 : ∀ a, (g0 g.N g.SA g.CA).W a → g.SA a ∨ g.CA a := fun a h => h.elim (fun ⟨_, z⟩ => by cases z) id
  have hn : ∀ a, (g.behind gc).N a → g.N a ∨ H a = none := fun a h => by
    rcases h with (h | h) | h
    · exact .inl (.inl h)
    · exact (v.sr a h).imp (fun z => .inl (r.srN a z)) id
    · exact .inl (.inr h)
  have kp : ∀ a o, H a = some o → ¬ g.N a → H' a = some o := fun a o e h => v.keep a o e fun z => h (.inl (r.srN a (W0 a z)))
  refine ⟨⟨fun i x e => ?_, r.inj, fun i a h z => ?_, fun a h => ?_, fun a h => .inr h, hs, r.len⟩, ?_⟩
  · obtain ⟨u, e1, hx⟩ := r.slot i x e
    refine ⟨u, e1, ?_⟩
    cases x with
    | d d =>
      refine ⟨fun c => ?_, fun c => (hx.2 c).move kp (fun _ _ => seq_keep v.tup v.frz) hn⟩
      obtain ⟨p, e2, hp, t⟩ := hx.1 c
      refine ⟨p, e2, hp, t.move ?_ kp (fun _ _ => seq_keep v.tup v.frz) hn⟩
      cases q : H p with
      | none => exact absurd q t.nn
      | some o => exact v.keep p o q fun z => r.sep i p hp (r.srN p (W0 p z))
    | z d => exact Rp.move kp (fun _ _ => seq_keep v.tup v.frz) hn hx
    | src => obtain ⟨a, e2, h⟩ := hx; exact ⟨a, e2, v.sa a h⟩
    | srcc => obtain ⟨a, e2, h⟩ := hx; exact ⟨a, e2, v.ca a h⟩
  · rcases z with z | z
    · exact r.sep i a h z
    · exact (v.sr a z).elim (fun q => r.sep i a h (r.srN a q)) fun q => r.ex a (.inr ⟨i, h⟩) q
  · rcases hn a h with z | z
    · exact v.grow a (r.ex a z)
    · rcases h with (h | h) | h
      · exact absurd z (r.ex a (.inl h))
      · exact hs.ex a h
      · exact absurd z (r.ex a (.inr h))
  · refine ⟨hn, fun a h => ?_, v.sa, v.ca, fun a h => .inl h, fun a o e hw => v.keep a o e fun z => hw (.inr (W0 a z)), v.tup, v.frz, v.grow, fun a h => v.sr a h⟩
    rcases h with h | h
    · exact .inl (.inl h)
    · exact (v.sr a h).imp .inr id
end
section
variable {X : Cx} {M : Nat → Bool} {F : Fn} {e : Expr} {es : List Expr} {x : Str} {p pos : Pos} {k n : Nat} {nm : String}
def tCallG (sp : List V → Hp → VK → Prop) (t : TA) : TE := fun σ H Q => t σ H fun vs H1 => sp vs H1 Q
theorem run_g {f : Addr} {fd : FuncData} {ps : List Str} {sp : List V → Hp → VK → Prop} {pins : List (Addr × Obj)} {σ : L2.St} {H : Hp} {s : Shared} {Q : VK} {us : List Value} {vs : List V} (D : FnG X.prog X.w X.K X.mg X.base k f fd ps sp) (hr : Room k X.A) (hgd : X.A.guards = some []) (hb : Binds X.K fd ps [])
    (I : Inv X pins σ H s) (r : Vals vs us) (h : sp vs H Q) : wpAny (model X.prog X.w) X.A (call (.ref f) us) (EP X pins σ Q) X.xe s := by
  have hl : us.length = ps.length := by rw [← r.length]; exact D.len _ _ _ h
  have b := hb s us I.kIn (by rw [List.append_nil]; exact hl)
  rw [List.append_nil] at b
  refine wpAny_call (codeAny_mono (D.run X.A X.stack s H ⟨us, []⟩ us vs Q hr hgd I.env0 b r h) fun res s' hq => ?_)
  cases res with
  | error er => exact hq.elim
  | ok fl =>
    cases fl with
    | ret u => exact I.after hq
    | next => exact hq.elim
    | brk => exact hq.elim
    | cont => exact hq.elim
theorem tx_call {cs : List CE} {σ : L2.St} {H : Hp} {Q : VK} (hlen : cs.length = n) (h : TX X.kk F M false (cCall nm cs) σ H Q) : tCallG (SpF X.kk F nm n) (TXA X.kk F M cs) σ H Q := by
  obtain ⟨g, s, y, s', r, ev, q⟩ := h
  unfold cCall at ev
  split at ev
  · rename_i xs s1 e1
    split at ev
    · rename_i y' src' e2
      cases ev
      refine ⟨g, s, xs, s1, r, e1, fun vs g1 H1 r1 v1 rp => ⟨?_, g1.N, g1.SA, g1.CA, xs, s1.src, y, src', r1.ex, fun a z => .inl (r1.srN a z), r1.src, ?_, e2, fun v gc H' vc hs hN rv => ?_⟩⟩
      · have len : ∀ {cs : List CE} {s : S} {xs : List Vx} {s1 : S}, evArgs cs F s = some (xs, s1) → xs.length = cs.length := by
          intro cs
          induction cs with
          | nil => intro s xs s1 e; cases e; rfl
          | cons c cs ih =>
            intro s xs s1 e
            unfold evArgs at e
            split at e
            · split at e
              · rename_i e3
                cases e
                rw [List.length_cons, List.length_cons, ih e3]
              · cases e
            · cases e
        rw [rp.length, len e1]; exact hlen
      · refine Paired.mapP rp fun v z hz => ?_
        cases z with
        | d d => exact Rp.forbid (fun a h => .inl (g0_N.mp h)) hz
        | z d => exact Rp.forbid (fun a h => .inl (g0_N.mp h)) hz
        | src => exact hz
        | srcc => exact hz
      · obtain ⟨r2, v2⟩ := r1.called vc hs
        refine q v _ H' r2 (v1.trans v2) ?_ fun z => nomatch z
        cases y with
        | d d =>
          refine Rp.forbid (fun a h => ?_) rv
          rcases h with (h | h) | h
          · exact .inl (.inl (vc.n0 a (.inl h)))
          · exact .inl (.inl (hN a h))
          · exact .inl (.inl (vc.n0 a (.inr h)))
        | z d =>
          refine Rp.forbid (fun a h => ?_) rv
          rcases h with (h | h) | h
          · exact .inl (.inl (vc.n0 a (.inl h)))
          · exact .inl (.inl (hN a h))
          · exact .inl (.inl (vc.n0 a (.inr h)))
        | src => exact rv
        | srcc => exact rv
    · cases ev
  · cases ev
/-- f(e, ..) -/
theorem sx_call {cs : List CE} (C : Callee X.prog X.w X.K X.mg X.base F k nm x n) (hr : Room k X.A) (hgd : X.A.guards = some []) (hg : Gl X x) (ha : PA X (e :: es) (TXA X.kk F M cs)) (hlen : cs.length = n) (hdb : (x == ("__debug__" : Str)) = false := by decide)
    (he : starEach (e :: es) X.env = (false, eval e X.env) :: starEach es X.env := by rfl) (hpl : (backTo pos (starEach es X.env)).any (·.1) = false := by rfl) : PE X (.Call (.Name x p) (e :: es) [] pos) (TX X.kk F M false (cCall nm cs)) := by
  obtain ⟨f, fd, ps, D, hm, hk, hb⟩ := C
  refine ⟨fun pins s σ H Q I h => ?_⟩
  refine wpAny_Call_Name_kw (ld_glob I hg hm ?_ hdb)
  refine PySem.W.callWith_K (h₀ := X.base) I.ok.mod.kin hk (thn (ha.run pos pins s σ H _ I (tx_call hlen h)) fun us s1 ⟨vs, H1, I1, r, q⟩ => ⟨I1.kIn, ?_⟩) he hpl
  exact run_g D hr hgd hb I1 r q
end
end Ev
/-! Ev14: the law's source; a comprehension for a name. -/
namespace Ev
open PySem PySem.Spec L2

section
variable {K : KK} {M : Nat → Bool} {F : Fn} {g g' : G} {s s' : S} {σ : L2.St} {H H' : Hp}
/-- something that no data stand on is written -/
theorem Rel.hidden {p : Addr} {o o' : HO} {SA' CA' : Addr → Prop} {src' : Option Src} (r : Rel K M g s σ H) (hp : g.N0 p) (e : H p = some o) (ho : Plain0 o) (hs : SrcOk SA' CA' (upd H p o') src') (hsa : ∀ a, g.SA a → SA' a) (hca : ∀ a, g.CA a → CA' a) (hN : ∀ a, SA' a ∨ CA' a → g.N0 a) :
    Rel K M { g with SA := SA', CA := CA' } { s with src := src' } σ (upd H p o') where
  slot := fun i x ei => by
    obtain ⟨v, h1, h2⟩ := r.slot i x ei
    refine ⟨v, h1, ?_⟩
    have hNp : g.N p := .inl hp
    cases x with
    | d d => exact ⟨fun c => let ⟨b, e1, q, t⟩ := h2.1 c; ⟨b, e1, q, t.upd hNp e ho fun z => r.sep i b q (by rw [z]; exact hp)⟩, fun c => (h2.2 c).upd hNp e ho⟩
    | z d => exact Rp.upd hNp e ho h2
    | src => obtain ⟨a, e1, h⟩ := h2; exact ⟨a, e1, hsa a h⟩
    | srcc => obtain ⟨a, e1, h⟩ := h2; exact ⟨a, e1, hca a h⟩
  inj := r.inj
  sep := r.sep
  ex := fun a h => by
    by_cases z : a = p
    · rw [z, upd_same]; simp
    · rw [upd_ne z]; exact r.ex a h
  srN := hN
  src := hs
  len := r.len
theorem Evo.hidden {p : Addr} {o o' : HO} (hp : g.W p) (e : H p = some o) (ho : Plain0 o) : Evo g g H (upd H p o') :=
  ⟨fun _ h => .inl h, fun _ h => .inl h, fun _ h => h, fun _ h => h, fun _ h => h, fun a u h hw => by rw [upd_ne (fun z => hw (by rw [z]; exact hp))]; exact h, upd_tup e ho, upd_frz e ho, fun a h => by
    by_cases z : a = p
    · rw [z, upd_same]; simp
    · rw [upd_ne z]; exact h, fun _ h => .inl h⟩
end

/-- a field of the source that tells a number -/
inductive SF where
  | left | mixed | turn
def SF.str : SF → Str
  | .left => "left"
  | .mixed => "mixed"
  | .turn => "turn"
def SF.get : SF → Src → Int
  | .left, s => s.left
  | .mixed, s => s.mixed
  | .turn, s => s.turn
def SF.set : SF → Src → Int → Src
  | .left, s, i => { s with left := i }
  | .mixed, s, i => { s with mixed := i }
  | .turn, s, i => { s with turn := i }
/-- source[..] -/
def cSF (q : SF) (i : Nat) : CE := fun _ s => match s.env[i]? with
  | some (some .src) => match s.src with
    | some x => some (.d (.int (q.get x)), s)
    | none => none
  | _ => none
def cCells (i : Nat) : CE := fun _ s => match s.env[i]? with
  | some (some .src) => match s.src with
    | some _ => some (.srcc, s)
    | none => none
  | _ => none
def sSF (q : SF) (i : Nat) (c : CE) : CS := fun F s => match c F s with
  | some (.d (.int k), s1) => match s1.env[i]? with
    | some (some .src) => match s1.src with
      | some x => some (.nx, { s1 with src := some (q.set x k) })
      | none => none
    | _ => none
  | _ => none
def cPopS (c : CE) : CE := fun F s => match c F s with
  | some (.srcc, s1) => match s1.src with
    | some x => match x.cells[x.cells.length - 1]? with
      | some y => some (.d (.int y), { s1 with src := some { x with cells := x.cells.dropLast } })
      | none => none
    | none => none
  | _ => none
def cLenS (c : CE) : CE := fun F s => match c F s with
  | some (.srcc, s1) => match s1.src with
    | some x => some (.d (.int x.cells.length), s1)
    | none => none
  | _ => none
section
variable {X : Cx} {M : Nat → Bool} {F : Fn} {a b c e : Expr} {es : List Expr} {pos p p2 apos cpos : Pos} {x : Str} {i : Nat}
theorem src_at {K : KK} {g : G} {s : S} {σ : L2.St} {H : Hp} {y : Src} (r : Rel K M g s σ H) (e : s.env[i]? = some (some .src)) (hs : s.src = some y) :
    ∃ a c, σ[i]? = some (some (.ref a)) ∧ (∀ b, g.SA b ↔ b = a) ∧ (∀ b, g.CA b ↔ b = c) ∧ a ≠ c ∧ H a = some (.dK [(.inr ("cells" : Str), .ref c), (.inr ("left" : Str), .int y.left), (.inr ("mixed" : Str), .int y.mixed), (.inr ("turn" : Str), .int y.turn)]) ∧ H c = some (.lst (y.cells.map V.int)) := by
  obtain ⟨v, ev, a', rfl, ha⟩ := r.slot i _ e
  have z := r.src
  rw [hs] at z
  obtain ⟨a, c, h1, h2, h3, h4, h5⟩ := z
  have := (h1 a').mp ha
  subst this
  exact ⟨a', c, ev, h1, h2, h3, h4, h5⟩
theorem sx_SF (q : SF) {j} (hu : X.A.units + 1 < cLine) (hN : X.N[i]? = some x) (hv : Vis X.env.scope x) (hd : (x == ("__debug__" : Str)) = false := by decide) (hcd : (x == ("__classdict__" : Str)) = false := by decide) : PE X (.Subscript (.Name x p) (.Constant (.str q.str) j p2) pos) (TX X.kk F M true (cSF q i)) :=
  peI (pe_dget hu (pe_var hN hv hd hcd) pe_str fun _ _ => rfl) fun σ H Q ⟨g, s, y, s', r, ev, z⟩ => by
    unfold cSF at ev
    split at ev
    · rename_i e1
      split at ev
      · rename_i sr e2
        cases ev
        obtain ⟨a, c, ea, h1, h2, h3, h4, h5⟩ := src_at r e1 e2
        refine ⟨_, ea, a, .int (q.get sr), rfl, DGet.k (k := .inr q.str) h4 |> fun z => ?_, z _ g H r Evo.refl (.int _) fun _ d e h => by cases e; cases h⟩
        cases q <;> exact z
      · cases ev
    · cases ev
theorem sx_cells {j} (hu : X.A.units + 1 < cLine) (hN : X.N[i]? = some x) (hv : Vis X.env.scope x) (hd : (x == ("__debug__" : Str)) = false := by decide) (hcd : (x == ("__classdict__" : Str)) = false := by decide) : PE X (.Subscript (.Name x p) (.Constant (.str ("cells" : Str)) j p2) pos) (TX X.kk F M false (cCells i)) :=
  peI (pe_dget hu (pe_var hN hv hd hcd) pe_str fun _ _ => rfl) fun σ H Q ⟨g, s, y, s', r, ev, z⟩ => by
    unfold cCells at ev
    split at ev
    · rename_i e1
      split at ev
      · rename_i sr e2
        cases ev
        obtain ⟨a, c, ea, h1, h2, h3, h4, h5⟩ := src_at r e1 e2
        exact ⟨_, ea, a, .ref c, rfl, DGet.k (k := .inr ("cells" : Str)) h4, z _ g H r Evo.refl ⟨c, rfl, (h2 c).mpr rfl⟩ fun z => nomatch z⟩
      · cases ev
    · cases ev
theorem ss_SF (q : SF) {j} {ce : CE} {fr : Bool} (hu : X.A.units + 1 < cLine) (hN : X.N[i]? = some x) (hv : Vis X.env.scope x) (he : PE X e (TX X.kk F M fr ce)) (hd : (x == ("__debug__" : Str)) = false := by decide) (hcd : (x == ("__classdict__" : Str)) = false := by decide)
    (hs : swapsWith e (some (.Subscript (.Name x p) (.Constant (.str q.str) j p2) apos)) pos.line X.env = pure false := by rfl) : PS X (.Assign [.Subscript (.Name x p) (.Constant (.str q.str) j p2) apos] e pos) (TSt X.kk F M (sSF q i ce)) :=
  psI (ps_dput hu (pe_var hN hv hd hcd) pe_str he hs) fun D σ H ⟨g, s, f, s', r, ev, z⟩ => by
    unfold sSF at ev
    split at ev
    · rename_i k s1 e1
      split at ev
      · rename_i e2
        split at ev
        · rename_i sr e3
          cases ev
          refine ⟨g, s, .d (.int k), s1, r, e1, fun v g1 H1 r1 v1 rp _ => ?_⟩
          have ek : v = .int k := by cases rp; rfl
          subst ek
          obtain ⟨a, c, ea, h1, h2, h3, h4, h5⟩ := src_at r1 e2 e3
          refine ⟨_, ea, a, _, rfl, DPut.k (k := .inr q.str) h4 (by rw [sizeLine_eq]; simp), ?_⟩
          have hN0 : g1.N0 a := r1.srN a (.inl ((h1 a).mpr rfl))
          have hW : g1.W a := .inr (.inl ((h1 a).mpr rfl))
          refine z σ _ _ (r1.hidden (SA' := g1.SA) (CA' := g1.CA) hN0 h4 trivial ?_ (fun _ h => h) (fun _ h => h) r1.srN) (v1.trans (Evo.hidden hW h4 trivial))
          refine ⟨a, c, h1, h2, h3, ?_, by rw [upd_ne (Ne.symm h3)]; cases q <;> exact h5⟩
          rw [upd_same]
          cases q <;> rfl
        · cases ev
      · cases ev
    · cases ev
theorem sx_popS {ce : CE} {fr : Bool} (he : PE X e (TX X.kk F M fr ce)) (hbase : attributeBase e "pop" X.env (eval e X.env) = eval e X.env := by rfl) (hline : (apos.endLine == cpos.line) = true := by rfl) :
    PE X (.Call (.Attribute e "pop" apos) [] [] cpos) (TX X.kk F M true (cPopS ce)) :=
  peI (pe_bm0 PySem.F.plainAttrs_list PySem.F.slot_list_pop PySem.F.type_list_pop mt_pop he hbase hline) fun σ H Q ⟨g, s, y, s', r, ev, z⟩ => by
    unfold cPopS at ev
    split at ev
    · rename_i s1 e1
      split at ev
      · rename_i sr e2
        split at ev
        · rename_i y e3
          cases ev
          refine ⟨g, s, .srcc, s1, r, e1, fun v g1 H1 r1 v1 rp _ => ?_⟩
          obtain ⟨c', rfl, hc⟩ := rp
          have q := r1.src
          rw [e2] at q
          obtain ⟨a, c, h1, h2, h3, h4, h5⟩ := q
          have := (h2 c').mp hc
          subst this
          have hN0 : g1.N0 c' := r1.srN c' (.inr hc)
          have hW : g1.W c' := .inr (.inr hc)
          refine ⟨.inl ⟨rfl, _, .inl (.inl h5)⟩, c', sr.cells.map V.int, .int y, rfl, rfl, h5, by rw [List.length_map, List.getElem?_map, e3]; rfl, ?_⟩
          refine z _ _ _ (r1.hidden (SA' := g1.SA) (CA' := g1.CA) hN0 h5 trivial ?_ (fun _ h => h) (fun _ h => h) r1.srN) (v1.trans (Evo.hidden hW h5 trivial)) (.int _) fun _ d e h => by cases e; cases h
          exact ⟨a, c', h1, h2, h3, by rw [upd_ne h3]; exact h4, by rw [upd_same, List.map_dropLast]⟩
        · cases ev
      · cases ev
    · cases ev
theorem sx_lenS {ce : CE} {fr : Bool} (hg : Gl X ("len" : Str)) (hm : X.mg ("len" : Str) = none) (he : PE X e (TX X.kk F M fr ce)) 
    (hst : starEach [e] X.env = (false, eval e X.env) :: starEach [] X.env := by rfl) (hpl : (backTo pos (starEach [] X.env)).any (·.1) = false := by rfl) : PE X (.Call (.Name ("len" : Str) p) [e] [] pos) (TX X.kk F M true (cLenS ce)) :=
  peI (pe_callB call_len_seq hg hm rfl (pa_cons he pa_nil hst) (by decide) (by decide) hst hpl) fun σ H Q ⟨g, s, y, s', r, ev, z⟩ => by
    unfold cLenS at ev
    split at ev
    · rename_i s1 e1
      split at ev
      · rename_i sr e2
        cases ev
        refine ⟨g, s, .srcc, _, r, e1, fun v g1 H1 r1 v1 rp _ => ?_⟩
        obtain ⟨c', rfl, hc⟩ := rp
        have q := r1.src
        rw [e2] at q
        obtain ⟨a, c, h1, h2, h3, h4, h5⟩ := q
        have := (h2 c').mp hc
        subst this
        refine ⟨c', sr.cells.map V.int, rfl, .inl (.inl (.inl h5)), ?_⟩
        rw [List.length_map]
        exact z _ _ _ r1 v1 (.int _) fun _ d e h => by cases e; cases h
      · cases ev
    · cases ev

/-! ### the new source -/
def cellsOf : List PyData → Option (List Int)
  | [] => some []
  | .int i :: ds => (cellsOf ds).map (i :: ·)
  | _ => none
theorem ints_at {K : KK} {N : Addr → Prop} {H : Hp} : ∀ {xs : List V} {ds : List PyData} {is : List Int}, RpA K N H xs ds → cellsOf ds = some is → xs = is.map V.int
  | _, _, _, .nil, e => by cases e; rfl
  | _, _, _, .cons (d := d) h t, e => by
    cases d with
    | int i =>
      unfold cellsOf at e
      rw [Option.map_eq_some_iff] at e
      obtain ⟨js, e1, rfl⟩ := e
      cases h
      rw [List.map_cons, ints_at t e1]
    | _ => cases e
def cSrc (c1 c2 c3 c4 : CE) : CE := fun F s => match c1 F s with
  | some (.d (.list ds), s1) => match cellsOf ds with
    | some cs => match c2 F s1 with
      | some (.d (.int l), s2) => match c3 F s2 with
        | some (.d (.int m), s3) => match c4 F s3 with
          | some (.d (.int t), s4) => match s4.src with
            | none => some (.src, { s4 with src := some ⟨cs, l, m, t⟩ })
            | _ => none
          | _ => none
        | _ => none
      | _ => none
    | none => none
  | _ => none
theorem sx_src {e1 e2 e3 e4 : Expr} {j1 j2 j3 j4} {q1 q2 q3 q4 : Pos} {c1 c2 c3 c4 : CE} {f2 f3 f4 : Bool} (h1 : PE X e1 (TX X.kk F M true c1)) (h2 : PE X e2 (TX X.kk F M f2 c2)) (h3 : PE X e3 (TX X.kk F M f3 c3)) (h4 : PE X e4 (TX X.kk F M f4 c4)) :
    PE X (.Dict [some (.Constant (.str ("cells" : Str)) j1 q1), some (.Constant (.str ("left" : Str)) j2 q2), some (.Constant (.str ("mixed" : Str)) j3 q3), some (.Constant (.str ("turn" : Str)) j4 q4)] [e1, e2, e3, e4] pos) (TX X.kk F M false (cSrc c1 c2 c3 c4)) :=
  peI (pe_disp (pps_cons pe_str h1 (pps_cons pe_str h2 (pps_cons pe_str h3 (pps_cons pe_str h4 pps_nil)))) rfl rfl (by simp) (by simp)) fun σ H Q ⟨g, s, y, s', r, ev, z⟩ => by
    unfold cSrc at ev
    split at ev
    rotate_left
    · cases ev
    rename_i ds s1 e1
    split at ev
    rotate_left
    · cases ev
    rename_i cs ei
    split at ev
    rotate_left
    · cases ev
    rename_i l s2 e2
    split at ev
    rotate_left
    · cases ev
    rename_i m s3 e3
    split at ev
    rotate_left
    · cases ev
    rename_i t s4 e4
    split at ev
    rotate_left
    · cases ev
    rename_i e5
    cases ev
    intro p hp
    have k0 : Same H (upd H p (.dK [])) := fun b o e => by rw [upd_ne (ne_of_none e hp)]; exact e
    have r0 := r.fresh (H' := upd H p (.dK [])) hp k0 (by rw [upd_same]; simp)
    have v0 : Evo g (g.lock p) H (upd H p (.dK [])) := by
      have e := Evo.same (g := g) k0
      exact ⟨fun b h => (G.lock_N.mp h).elim .inl fun z => .inr (by rw [z]; exact hp), fun b h => .inl h, fun _ h => h, fun _ h => h, fun _ h => .inl h, e.keep, e.tup, e.frz, e.grow, fun _ h => .inl h⟩
    refine ⟨g.lock p, s, _, s1, r0, e1, fun v1 g1 H1 r1 w1 rp1 f1 => ?_⟩
    obtain ⟨a, g1', rfl, ha, r1', w1', n1, sa1, ca1, xs, ex, rxs⟩ := f1 rfl _ rfl rfl
    have hxs := ints_at rxs ei
    refine ⟨g1', s1, _, s2, r1', e2, fun v2 g2 H2 r2 w2 rp2 _ => ⟨g2, s2, _, s3, r2, e3, fun v3 g3 H3 r3 w3 rp3 _ => ⟨g3, s3, _, s4, r3, e4, fun v4 g4 H4 r4 w4 rp4 _ => ?_⟩⟩⟩
    have i2 : v2 = .int l := by cases rp2; rfl
    have i3 : v3 = .int m := by cases rp3; rfl
    have i4 : v4 = .int t := by cases rp4; rfl
    subst i2 i3 i4
    have w := w2.trans (w3.trans w4)
    have W := w1'.trans w
    have npW : ¬ (g.lock p).W p := by
      rintro (⟨j, z⟩ | z)
      · exact r0.sep j p z (.inr rfl)
      · exact r.ex p (.inl (r.srN p z)) hp
    have naW : ¬ g1'.W a := by
      rintro (⟨j, z⟩ | z | z)
      · exact r1'.sep j a z n1
      · exact sa1 z
      · exact ca1 z
    have hp4 : H4 p = some (.dK []) := W.keep p _ upd_same npW
    have ha4 : H4 a = some (.lst xs) := w.keep a _ ex naW
    have np4 : g4.N0 p := W.n0 p (.inr rfl)
    have na4 : g4.N0 a := w.n0 a n1
    have hpa : p ≠ a := fun z => by rw [z, upd_same] at ha; cases ha
    have hHa : H a = none := by rw [upd_ne (Ne.symm hpa)] at ha; exact ha
    have S4 : (∀ b, ¬ g4.SA b) ∧ ∀ b, ¬ g4.CA b := by have q := r4.src; rw [e5] at q; exact q
    refine ⟨hp4, [(.inr ("cells" : Str), .ref a), (.inr ("left" : Str), .int l), (.inr ("mixed" : Str), .int m), (.inr ("turn" : Str), .int t)], rfl, by simp, ?_⟩
    have r5 := r4.hidden (p := p) (o := .dK []) (o' := .dK (mergeK [] [(.inr ("cells" : Str), .ref a), (.inr ("left" : Str), .int l), (.inr ("mixed" : Str), .int m), (.inr ("turn" : Str), .int t)])) (SA' := fun b => b = p) (CA' := fun b => b = a) (src' := some ⟨cs, l, m, t⟩) np4 hp4 trivial
      ⟨p, a, fun _ => Iff.rfl, fun _ => Iff.rfl, hpa, by rw [upd_same]; rfl, by rw [upd_ne (Ne.symm hpa), ha4, hxs]⟩ (fun b h => absurd h (S4.1 b)) (fun b h => absurd h (S4.2 b)) (fun b h => by
        rcases h with h | h
        · rw [h]; exact np4
        · rw [h]; exact na4)
    refine z (.ref p) _ _ r5 ?_ ⟨p, rfl, rfl⟩ fun z => nomatch z
    have V := v0.trans W
    refine ⟨V.n, fun b h => ?_, fun b h => absurd (V.sa b h) (S4.1 b), fun b h => absurd (V.ca b h) (S4.2 b), V.n0, fun b o h hw => ?_, fun b ys h => ?_, fun b o u h => ?_, fun b h => ?_, fun b h => ?_⟩
    · rcases h with h | h | h
      · exact V.w b (.inl h)
      · exact .inr (by rw [h]; exact hp)
      · exact .inr (by rw [h]; exact hHa)
    · rw [upd_ne (ne_of_none h hp)]; exact V.keep b o h hw
    · rw [upd_ne (ne_of_none h hp)]; exact V.tup b ys h
    · rw [upd_ne (ne_of_none h hp)]; exact V.frz b o u h
    · by_cases q : b = p
      · rw [q, upd_same]; simp
      · rw [upd_ne q]; exact V.grow b h
    · rcases h with h | h
      · exact .inr (by rw [h]; exact hp)
      · exact .inr (by rw [h]; exact hHa)

/-! ### a comprehension for a name -/
theorem tx_set {ce : CE} {fr : Bool} {σ : L2.St} {H : Hp} {D : Ends} (hm : M i = true → fr = true) (h : TSt X.kk F M (sPar [i] [ce]) D σ H) : TX X.kk F M fr ce σ H fun v H1 => gName i v σ H1 D.nx := by
  obtain ⟨g, s, xs, s', r, ev, q⟩ := tx_par h
  unfold evArgs at ev
  split at ev
  · rename_i y s1 e1
    rw [show evArgs [] F s1 = some ([], s1) from rfl] at ev
    cases ev
    refine ⟨g, s, y, s', r, e1, fun v g1 H1 r1 v1 rp1 f1 => ?_⟩
    obtain ⟨g2, s2, xs2, s2', r2, e2, q2⟩ := pend_cons (F := F) (m := M i) (ms := []) (cs := []) (xs := []) (Q := fun vs H1 => D.nx (setAll [i] vs σ) H1) r1 v1 rp1 (fun z => f1 (hm z)) rfl q
    cases e2
    exact q2 [] g2 H1 [] r2 Evo.refl .nil fun _ h => nomatch h
  · cases ev
theorem ss_setLc {y : Str} {py spos : Pos} {elt tg iter : Expr} {ifs : List Expr} {scope : Scope} {own : List (Str × Nat)} {ic : IC} {ts : List Nat} {as : PyData → S → Option S} {cb : CB} {ce : CE} {fr : Bool} (hc : X.calm = true) (hN : X.N.Nodup) (hy : X.N[i]? = some y) (hyl : X.env.scope.names.lookup y = some .local)
    (hi : PI X tg iter (TIX X.kk F M ic)) (ok : BlkOk X.N X.env.scope scope own) (hm : ∀ i ∈ own.map (·.2), M i = false) (hts : ∀ t ∈ ts, t ∈ own.map (·.2))
    (hg : ∀ (s : Shared) (H : Hp) (C : Addr) (cl : List (Str × Addr)) (fp : List Addr), PG (X.blk s H scope (compEnvC scope cl C X.env) fp) tg (TGX X.kk M ts as)) (ht : ∀ (s : Shared) (H : Hp) (C : Addr) (cl : List (Str × Addr)) (fp : List Addr), PTs (X.blk s H scope (compEnvC scope cl C X.env) fp) ifs (TB X.kk F M cb))
    (he : ∀ (s : Shared) (H : Hp) (C : Addr) (cl : List (Str × Addr)) (fp : List Addr), PE (X.blk s H scope (compEnvC scope cl C X.env) fp) elt (TX X.kk F M fr ce)) (hsw : swapsWith (.ListComp elt [⟨tg, iter, ifs, 0⟩] scope pos) (some (.Name y py)) spos.line X.env = pure true) (hs : ∀ x, foldedSetIterable iter X.env x = pure x := by intro _; rfl) :
    PS X (.Assign [.Name y py] (.ListComp elt [⟨tg, iter, ifs, 0⟩] scope pos) spos) (TSt X.kk F M (sPar [i] [cLc (own.map (·.2)) as ic cb ce])) :=
  psI (ps_setLc hc hN hy hyl hsw hi ok hg ht he hs) fun D σ H h => tx_lc hm hts (tx_set (fun _ => rfl) h)
end
end Ev
/-! Ev15: repr. -/
namespace Ev
open PySem PySem.Spec L2
def fRepr : List PyData → Option PyData
  | [d] => if PyData.canLay0 d && d.showable && decide (d.shown.length ≤ sizeLine) && decide (d.depth ≤ 64) then some (.str d.shown) else none
  | _ => none
section
variable {X : Cx}
theorem cd_repr (hu : X.A.units + 70 < cLine) (hg : X.A.guards = some []) : CallR X (.builtin "repr") (RnD X.kk fRepr) := by
  intro pins s σ H xs us Q I r ⟨N, ds, d, ex, rp, hf, q⟩
  unfold fRepr at hf
  split at hf
  · split at hf
    · rename_i d0 hz
      cases hf
      simp only [Bool.and_eq_true, decide_eq_true_eq] at hz
      obtain ⟨⟨⟨h1, h2⟩, h3⟩, h4⟩ := hz
      obtain ⟨v, rfl, h⟩ := rp1 rp
      have dp := h.dp h1
      obtain ⟨u, rfl, ru⟩ := L2.vals1 r
      obtain ⟨as, rd⟩ := Dp.reads I _ _ _ dp ru
      have fin : ∀ h' t tk, (∀ b o, s.heap.get? b = some o → h'.get? b = some o) → EP X pins σ Q (.str d0.shown t) { s with heap := h', toks := tk } := fun h' t tk hk => by
        have I' := I.kept (h' := h') (t' := tk) hk
        exact ⟨.str d0.shown, H, I', ⟨t, rfl⟩, vr_val (.str _) rfl q⟩
      have tok : ∀ t, EP X pins σ Q (.str d0.shown t) { s with toks := s.toks + 1 } := fun t => fin s.heap t _ fun _ _ e => e
      cases rd with
      | none => exact PySem.P.repr_of_none (tok _)
      | bool b => exact PySem.P.repr_of_bool (tok _)
      | int i t => exact PySem.P.repr_of_int (by simpa [PyData.showable] using h2) (tok _)
      | str x t => exact PySem.P.repr_of_str (tok _) (by simpa [PyData.shown] using h3)
      | list g1 g2 g3 g4 => exact repr_of_reads' (.list g1 g2 g3 g4) h2 (PyData.noDict_hsm (PyData.hasDict_of_canLay _ h1)) hg (by omega) (fun _ _ e => e) (fun h' u tk hk => fin h' u tk hk) h3
      | tuple g1 g2 g3 g4 => exact repr_of_reads' (.tuple g1 g2 g3 g4) h2 (PyData.noDict_hsm (PyData.hasDict_of_canLay _ h1)) hg (by omega) (fun _ _ e => e) (fun h' u tk hk => fin h' u tk hk) h3
      | dict g1 g2 g3 g4 g5 => simp [PyData.canLay0] at h1
    · cases hf
  · cases hf
end
end Ev
/-! Ev16: dicts, by their data. -/
namespace Ev
open PySem PySem.Spec L2

/-! ### data -/
def keq (a b : PyData) : Bool := match keyOf a, keyOf b with
  | some x, some y => decide (x = y)
  | _, _ => false
def dGet (kvs : List (PyData × PyData)) (k : PyData) : Option PyData := (kvs.find? fun p => keq p.1 k).map (·.2)
def dPut (kvs : List (PyData × PyData)) (k v : PyData) : List (PyData × PyData) :=
  if (kvs.any fun p => keq p.1 k) = true then kvs.map (fun p => if keq p.1 k = true then (p.1, v) else p) else kvs ++ [(k, v)]
def isK1 : PyData → Bool
  | .int _ | .str _ => true
  | _ => false
def isKN : PyData → Bool
  | .tuple ds => match keyOf (.tuple ds) with
    | some k => decide (k.depth ≤ 8)
    | none => false
  | _ => false
/-- may k be asked of the dict kvs -/
def dKey (kvs : List (PyData × PyData)) (k : PyData) : Bool := (isK1 k && kvs.all fun p => isK1 p.1) || (isKN k && kvs.all fun p => isKN p.1)

/-! ### entries -/
def E2 (K : KK) (N : Addr → Prop) (H : Hp) (p : V × V) (q : PyData × PyData) : Prop := Rp K N H p.1 q.1 ∧ Rp K N H p.2 q.2
inductive DE (K : KK) (a : Addr) : HO → List (V × V) → List (PyData × PyData) → Prop
  | dK {ob : Obj} {ks : List (Key × V)} {kvs} : DE K a (.ext (PhiK K a ob ks)) (ks.map fun p => (kV p.1, p.2)) kvs
  | dN {ob : Obj} {xs : List (NestedKey × Addr × V)} {kvs} : xs.map (fun x => some x.1) = kvs.map (fun p => keyOf p.1) → DE K a (.ext (PhiN K a ob xs)) (xs.map fun x => (.ref x.2.1, x.2.2)) kvs
def DAt (K : KK) (N : Addr → Prop) (H : Hp) (a : Addr) (kvs : List (PyData × PyData)) : Prop := ∃ o es, H a = some o ∧ DE K a o es kvs ∧ Paired (E2 K N H) es kvs
section
variable {K : KK} {N : Addr → Prop} {H : Hp} {a : Addr} {o : HO}
theorem zip_paired : ∀ {kv vv : List V} {kds vds : List PyData}, RpA K N H kv kds → RpA K N H vv vds → kv.length = vv.length → Paired (E2 K N H) (kv.zip vv) (kds.zip vds)
  | _, _, _, _, .nil, .nil, _ => .nil
  | _, _, _, _, .cons h t, .cons h' t', e => .cons ⟨h, h'⟩ (zip_paired t t' (by simpa using e))
  | _, _, _, _, .nil, .cons .., e => by simp at e
  | _, _, _, _, .cons .., .nil, e => by simp at e
theorem paired_fst : ∀ {es : List (V × V)} {kvs : List (PyData × PyData)}, Paired (E2 K N H) es kvs → RpA K N H (es.map (·.1)) (kvs.map (·.1))
  | _, _, .nil => .nil
  | _, _, .cons h t => .cons h.1 (paired_fst t)
theorem paired_snd : ∀ {es : List (V × V)} {kvs : List (PyData × PyData)}, Paired (E2 K N H) es kvs → RpA K N H (es.map (·.2)) (kvs.map (·.2))
  | _, _, .nil => .nil
  | _, _, .cons h t => .cons h.2 (paired_snd t)
theorem zip_self {α β : Type} : ∀ l : List (α × β), (l.map (·.1)).zip (l.map (·.2)) = l
  | [] => rfl
  | p :: l => by rw [List.map_cons, List.map_cons, List.zip_cons_cons, zip_self l]
theorem dat_of {kv vv : List V} {kds vds : List PyData} (e : H a = some o) (d : DObj K a o kv vv kds) (r1 : RpA K N H kv kds) (r2 : RpA K N H vv vds) : DAt K N H a (kds.zip vds) := by
  have hl : kv.length = vv.length := by cases d <;> simp
  have hz : kds.length = vds.length := by rw [← r1.length, ← r2.length, hl]
  refine ⟨o, kv.zip vv, e, ?_, zip_paired r1 r2 hl⟩
  cases d with
  | dK => rw [List.zip_map']; exact .dK
  | dN h =>
    rw [List.zip_map']
    refine .dN ?_
    rw [h]
    have : (kds.zip vds).map (fun p => keyOf p.1) = ((kds.zip vds).map (·.1)).map keyOf := by rw [List.map_map]; rfl
    rw [this, List.map_fst_zip (by omega)]
theorem DAt.obj {kvs : List (PyData × PyData)} (h : DAt K N H a kvs) : ∃ o kv vv, H a = some o ∧ DObj K a o kv vv (kvs.map (·.1)) ∧ RpA K N H kv (kvs.map (·.1)) ∧ RpA K N H vv (kvs.map (·.2)) := by
  obtain ⟨o, es, e, d, r⟩ := h
  have r1 := paired_fst r
  have r2 := paired_snd r
  cases d with
  | dK =>
    rw [List.map_map] at r1 r2
    exact ⟨_, _, _, e, .dK, r1, r2⟩
  | dN h =>
    rw [List.map_map] at r1 r2
    exact ⟨_, _, _, e, .dN (by rw [h, List.map_map]; rfl), r1, r2⟩
theorem DAt.rp {kvs : List (PyData × PyData)} (h : DAt K N H a kvs) (hn : ¬ N a) : Rp K N H (.ref a) (.dict kvs) := by
  obtain ⟨o, kv, vv, e, d, r1, r2⟩ := h.obj
  have := Rp.dct e d hn r1 r2
  rw [zip_self] at this
  exact this
theorem DAt.top {kvs : List (PyData × PyData)} (h : DAt K N H a kvs) : Top K N H a (.dict kvs) := by
  obtain ⟨o, kv, vv, e, d, r1, r2⟩ := h.obj
  exact ⟨o, kv, vv, _, _, (zip_self kvs).symm, e, d, r1, r2⟩
theorem Top.dat {kvs : List (PyData × PyData)} (h : Top K N H a (.dict kvs)) : DAt K N H a kvs := by
  obtain ⟨o, kv, vv, kds, vds, rfl, e, d, r1, r2⟩ := h
  exact dat_of e d r1 r2
theorem RpV.dct {v : V} {kvs : List (PyData × PyData)} (h : RpV K N H v (.dict kvs)) : ∃ a, v = .ref a ∧ DAt K N H a kvs := by
  rcases h with h | ⟨a, rfl, t⟩
  · generalize hd : PyData.dict kvs = d at h
    cases h with
    | dct e d _ r1 r2 => cases hd; exact ⟨_, rfl, dat_of e d r1 r2⟩
    | _ => cases hd
  · exact ⟨a, rfl, t.dat⟩
end

/-! ### keys in the heap -/
section
variable {X : Cx} {pins : List (Addr × Obj)} {σ : L2.St} {H : Hp} {s : Shared} {N : Addr → Prop}
mutual
theorem nested_of (I : Inv X pins σ H s) : ∀ (d : PyData) (v : V) (u : Value) (k : NestedKey), Rp X.kk N H v d → keyOf d = some k → RelV v u → NestedIs s.heap k u
  | .none, _, _, _, h, e, r => by
    cases h; cases e; cases r; exact .none
  | .bool b, _, _, _, h, e, r => by
    cases h; cases e; cases r; exact .bool rfl
  | .int i, _, _, _, h, e, r => by
    cases h; cases e; obtain ⟨t, rfl⟩ := r; exact .int _ _
  | .str x, _, _, _, h, e, r => by
    cases h; cases e; obtain ⟨t, rfl⟩ := r; exact .text _ _
  | .tuple ds, _, _, _, h, e, r => by
    cases h with
    | tup hs ha =>
      cases r
      unfold keyOf at e
      rw [Option.map_eq_some_iff] at e
      obtain ⟨ks, e1, rfl⟩ := e
      obtain ⟨its, rv, ⟨o, ho, hc, n, hd⟩, _⟩ := I.tuple hs
      exact .tup ho hc hd (nested_all I ds _ its ks ha e1 rv)
  | .list _, _, _, _, _, e, _ => by unfold keyOf at e; cases e
  | .dict _, _, _, _, _, e, _ => by unfold keyOf at e; cases e
theorem nested_all (I : Inv X pins σ H s) : ∀ (ds : List PyData) (vs : List V) (us : List Value) (ks : List NestedKey), RpA X.kk N H vs ds → keysOf ds = some ks → Vals vs us → NestedAll s.heap ks us
  | [], _, _, _, h, e, r => by
    cases h; cases e; cases r; exact .nil
  | d :: ds, _, _, _, h, e, r => by
    cases h with
    | cons h1 h2 =>
      cases r with
      | cons r1 r2 =>
        unfold keysOf at e
        split at e
        · rename_i k ks e1 e2
          cases e
          exact .cons (nested_of I d _ _ _ h1 e1 r1) (nested_all I ds _ _ _ h2 e2 r2)
        · cases e
end

/-! ### a dict of one kind or the other -/
/-- a dict with int and text keys -/
structure AsK (X : Cx) (N : Addr → Prop) (H : Hp) (s : Shared) (a : Addr) (kvs : List (PyData × PyData)) (ks : List (Key × V)) (vs : List (Key × Value)) : Prop where
  rel : Paired (E2 X.kk N H) (ks.map fun p => (kV p.1, p.2)) kvs
  len : ks.length ≤ sizeLine
  sys : (a == sysModules) = false
  kv : KV ks vs
  dict : s.heap.DictOf (mixKind X.prog X.w) a vs
abbrev KN : List (NestedKey × Addr × V) → List (NestedKey × Addr × Value) → Prop := Paired fun x y => x.1 = y.1 ∧ x.2.1 = y.2.1 ∧ RelV x.2.2 y.2.2
structure AsN (X : Cx) (N : Addr → Prop) (H : Hp) (s : Shared) (a : Addr) (kvs : List (PyData × PyData)) (xs : List (NestedKey × Addr × V)) (ys : List (NestedKey × Addr × Value)) : Prop where
  rel : Paired (E2 X.kk N H) (xs.map fun x => (.ref x.2.1, x.2.2)) kvs
  keys : xs.map (fun x => some x.1) = kvs.map (fun p => keyOf p.1)
  len : xs.length ≤ sizeLine
  sys : (a == sysModules) = false
  deep : ∀ x ∈ xs, x.1.depth ≤ 8
  kn : KN xs ys
  dict : s.heap.DictOfH (nestedKind X.prog X.w) a ys
theorem paired_nil {α β : Type} {R : α → β → Prop} {l : List β} (h : Paired R [] l) : l = [] := by cases h; rfl
theorem paired_nil' {α β : Type} {R : α → β → Prop} {l : List α} (h : Paired R l []) : l = [] := by cases h; rfl
theorem DAt.asK (I : Inv X pins σ H s) {a : Addr} {kvs : List (PyData × PyData)} (h : DAt X.kk N H a kvs) (hk : (kvs.all fun p => isK1 p.1) = true) : ∃ ks vs, AsK X N H s a kvs ks vs := by
  obtain ⟨o, es, e, d, r⟩ := h
  cases d with
  | dK =>
    obtain ⟨⟨z, hd, _, vs, kv, dd⟩, _, _⟩ := (show ObjOk X.prog X.w H s.heap a (.ext (PhiK X.kk a _ _)) from I.hok a _ e)
    exact ⟨_, vs, r, z, hd, kv, dd⟩
  | @dN ob xs _ hx =>
    have h0 : xs = [] := by
      cases xs with
      | nil => rfl
      | cons x xs =>
        cases kvs with
        | nil => cases r
        | cons p kvs =>
          cases r with
          | cons r1 _ =>
            rw [List.all_cons, Bool.and_eq_true] at hk
            obtain ⟨rk, _⟩ := r1
            have hk1 := hk.1
            revert hk1 rk
            generalize p.1 = pk
            intro rk hk1
            cases rk <;> cases hk1
    subst h0
    have := paired_nil r
    subst this
    obtain ⟨⟨z, hd, _, h1, ys, kn, es, ep, h2, h3, h4, h5⟩, _, _⟩ := (show ObjOk X.prog X.w H s.heap a (.ext (PhiN X.kk a ob [])) from I.hok a _ e)
    have := paired_nil kn
    subst this
    refine ⟨[], [], .nil, Nat.zero_le _, hd, .nil, ob, es, ep, h1, h2, h3, ?_⟩
    have h6 : es.toList = [] := h4
    rw [show es = #[] from Array.toList_inj.mp h6]
    exact ⟨fun e he => by simp at he, .nil, List.nodup_nil⟩
theorem kn_is (I : Inv X pins σ H s) : ∀ {xs : List (NestedKey × Addr × V)} {ys : List (NestedKey × Addr × Value)} {kvs : List (PyData × PyData)}, KN xs ys → Paired (E2 X.kk N H) (xs.map fun x => (V.ref x.2.1, x.2.2)) kvs → xs.map (fun x => some x.1) = kvs.map (fun p => keyOf p.1) → (∀ x ∈ xs, x.1.depth ≤ 8) →
    ∀ y ∈ ys, (nestedKind X.prog X.w).is s.heap y.1 y.2.1
  | _, _, _, .nil, _, _, _, y, hy => nomatch hy
  | x :: xs, y0 :: ys, p :: kvs, .cons h t, .cons r1 r2, e, hd, y, hy => by
    rw [List.map_cons, List.map_cons] at e
    obtain ⟨e1, e2⟩ := List.cons.inj e
    rcases List.mem_cons.mp hy with rfl | hy
    · obtain ⟨g1, g2, _⟩ := h
      refine ⟨?_, by rw [← g1]; exact hd x List.mem_cons_self⟩
      rw [← g1]
      exact nested_of I _ _ _ _ r1.1 e1.symm (by rw [← g2]; rfl)
    · exact kn_is I t r2 e2 (fun z hz => hd z (List.mem_cons_of_mem _ hz)) y hy
theorem DAt.asN (I : Inv X pins σ H s) {a : Addr} {kvs : List (PyData × PyData)} (h : DAt X.kk N H a kvs) (hk : (kvs.all fun p => isKN p.1) = true) : ∃ xs ys, AsN X N H s a kvs xs ys := by
  obtain ⟨o, es, e, d, r⟩ := h
  cases d with
  | @dK ob ks _ =>
    have h0 : ks = [] := by
      cases ks with
      | nil => rfl
      | cons x xs =>
        cases kvs with
        | nil => cases r
        | cons p kvs =>
          cases r with
          | cons r1 _ =>
            rw [List.all_cons, Bool.and_eq_true] at hk
            obtain ⟨rk, _⟩ := r1
            have hk1 := hk.1
            revert hk1 rk
            generalize p.1 = pk
            intro rk hk1
            obtain ⟨xk, xv⟩ := x
            cases xk <;> cases rk <;> cases hk1
    subst h0
    have := paired_nil r
    subst this
    obtain ⟨⟨z, hd, _, vs, kv, o, es, ep, h1, h2, h3, _, h4, _⟩, _, _⟩ := (show ObjOk X.prog X.w H s.heap a (.ext (PhiK X.kk a ob [])) from I.hok a _ e)
    have := paired_nil kv
    subst this
    refine ⟨[], [], .nil, rfl, Nat.zero_le _, hd, (fun _ h => nomatch h), .nil, o, es, ep, h1, h2, h3, ?_, (fun _ h => nomatch h), List.nodup_nil⟩
    have := h4.length
    have h6 : es.toList = [] := List.length_eq_zero_iff.mp this
    exact h6
  | dN hx =>
    obtain ⟨⟨z, hd, hdp, h1, ys, kn, es, ep, h2, h3, h4, h5⟩, _, _⟩ := (show ObjOk X.prog X.w H s.heap a (.ext (PhiN X.kk a _ _)) from I.hok a _ e)
    exact ⟨_, ys, r, hx, z, hd, hdp, kn, _, es, ep, h1, h2, h3, h4, kn_is I kn r hx hdp, h5⟩
end
end Ev
/-! Ev17: dicts asked and written. -/
namespace Ev
open PySem PySem.Spec L2

def nk : Key → NestedKey
  | .inl i => .num i
  | .inr x => .text x
theorem nk_inj {a b : Key} (h : nk a = nk b) : a = b := by
  cases a <;> cases b <;> cases h <;> rfl
def putN (xs : List (NestedKey × Addr × V)) (k : NestedKey) (b : Addr) (v : V) : List (NestedKey × Addr × V) :=
  if (xs.any fun x => decide (x.1 = k)) = true then xs.map (fun x => if x.1 = k then (x.1, x.2.1, v) else x) else xs ++ [(k, b, v)]
section
variable {K : KK} {N : Addr → Prop} {H : Hp}
theorem keyOf_kV {k : Key} {d : PyData} (h : Rp K N H (kV k) d) : keyOf d = some (nk k) := by
  cases k with
  | inl i => cases h; rfl
  | inr x => cases h; rfl
theorem keq_K {k' kk : Key} {d' kd : PyData} (h : Rp K N H (kV k') d') (e : keyOf kd = some (nk kk)) : keq d' kd = decide (k' = kk) := by
  unfold keq
  rw [keyOf_kV h, e]
  by_cases z : k' = kk
  · subst z; simp
  · have z' : ¬ nk k' = nk kk := fun q => z (nk_inj q)
    simp [z, z']
theorem anyK {kk : Key} {kd : PyData} (e : keyOf kd = some (nk kk)) : ∀ {ks : List (Key × V)} {kvs : List (PyData × PyData)}, Paired (E2 K N H) (ks.map fun p => (kV p.1, p.2)) kvs → (kvs.any fun p => keq p.1 kd) = ks.any fun p => decide (p.1 = kk)
  | [], [], _ => rfl
  | p :: ks, q :: kvs, .cons h t => by rw [List.any_cons, List.any_cons, anyK e t, keq_K h.1 e]
theorem getK {kk : Key} {kd : PyData} (e : keyOf kd = some (nk kk)) : ∀ {ks : List (Key × V)} {kvs : List (PyData × PyData)}, Paired (E2 K N H) (ks.map fun p => (kV p.1, p.2)) kvs → (dGet kvs kd).isSome = (valV ks kk).isSome ∧ ∀ d, dGet kvs kd = some d → ∃ v, valV ks kk = some v ∧ Rp K N H v d
  | [], [], _ => ⟨rfl, fun d h => by cases h⟩
  | p :: ks, q :: kvs, .cons h t => by
    obtain ⟨h1, h2⟩ := getK e t
    have z := keq_K h.1 e
    unfold dGet at h1 h2 ⊢
    unfold valV at h1 h2 ⊢
    rw [List.find?_cons, List.find?_cons, z]
    by_cases c : p.1 = kk
    · rw [decide_eq_true c]
      exact ⟨rfl, fun d hd => by cases hd; exact ⟨_, rfl, h.2⟩⟩
    · rw [decide_eq_false c]
      exact ⟨h1, h2⟩
theorem mapK {kk : Key} {kd : PyData} {v : V} {d : PyData} (e : keyOf kd = some (nk kk)) (rv : Rp K N H v d) : ∀ {ks : List (Key × V)} {kvs : List (PyData × PyData)}, Paired (E2 K N H) (ks.map fun p => (kV p.1, p.2)) kvs →
    Paired (E2 K N H) ((ks.map fun kv => if kv.1 = kk then (kv.1, v) else kv).map fun p => (kV p.1, p.2)) (kvs.map fun p => if keq p.1 kd = true then (p.1, d) else p)
  | [], [], _ => .nil
  | p :: ks, q :: kvs, .cons h t => by
    refine .cons ?_ (mapK e rv t)
    dsimp only
    rw [show keq q.1 kd = decide (p.1 = kk) from keq_K h.1 e]
    by_cases c : p.1 = kk
    · rw [if_pos c, if_pos (decide_eq_true c)]; exact ⟨h.1, rv⟩
    · rw [if_neg c, if_neg (by rw [decide_eq_false c]; simp)]; exact h
theorem paired_app {α β : Type} {R : α → β → Prop} : ∀ {as : List α} {bs : List β} {a : α} {b : β}, Paired R as bs → R a b → Paired R (as ++ [a]) (bs ++ [b])
  | _, _, _, _, .nil, h => .cons h .nil
  | _, _, _, _, .cons h t, r => .cons h (paired_app t r)
theorem putK_rel {kk : Key} {kd : PyData} {v : V} {d : PyData} (rk : Rp K N H (kV kk) kd) (rv : Rp K N H v d) {ks : List (Key × V)} {kvs : List (PyData × PyData)} (h : Paired (E2 K N H) (ks.map fun p => (kV p.1, p.2)) kvs) : Paired (E2 K N H) ((putK ks kk v).map fun p => (kV p.1, p.2)) (dPut kvs kd d) := by
  unfold putK dPut
  rw [anyK (keyOf_kV rk) h]
  split
  · exact mapK (keyOf_kV rk) rv h
  · rw [List.map_append]
    exact paired_app h ⟨rk, rv⟩

theorem keq_N {p kd : PyData} {x k : NestedKey} (h : some x = keyOf p) (e : keyOf kd = some k) : keq p kd = decide (x = k) := by
  unfold keq
  rw [← h, e]
theorem anyN {k : NestedKey} {kd : PyData} (e : keyOf kd = some k) : ∀ {xs : List (NestedKey × Addr × V)} {kvs : List (PyData × PyData)}, xs.map (fun x => some x.1) = kvs.map (fun p => keyOf p.1) → (kvs.any fun p => keq p.1 kd) = xs.any fun p => decide (p.1 = k)
  | [], [], _ => rfl
  | x :: xs, q :: kvs, h => by
    rw [List.map_cons, List.map_cons] at h
    obtain ⟨h1, h2⟩ := List.cons.inj h
    rw [List.any_cons, List.any_cons, anyN e h2, keq_N h1 e]
  | [], _ :: _, h => by simp at h
  | _ :: _, [], h => by simp at h
theorem getN {k : NestedKey} {kd : PyData} (e : keyOf kd = some k) : ∀ {xs : List (NestedKey × Addr × V)} {ys : List (NestedKey × Addr × Value)} {kvs : List (PyData × PyData)}, KN xs ys → Paired (E2 K N H) (xs.map fun x => (V.ref x.2.1, x.2.2)) kvs → xs.map (fun x => some x.1) = kvs.map (fun p => keyOf p.1) →
    (dGet kvs kd).isSome = (atKey ys k).isSome ∧ ∀ d, dGet kvs kd = some d → ∃ p v, atKey ys k = some p ∧ RelV v p.2 ∧ Rp K N H v d
  | _, _, [], .nil, _, _ => ⟨rfl, fun d h => by cases h⟩
  | x :: xs, y :: ys, q :: kvs, .cons h t, .cons r1 r2, e0 => by
    rw [List.map_cons, List.map_cons] at e0
    obtain ⟨e1, e2⟩ := List.cons.inj e0
    obtain ⟨h1, h2⟩ := getN e t r2 e2
    have z := keq_N e1 e
    obtain ⟨g1, g2, g3⟩ := h
    unfold dGet at h1 h2 ⊢
    unfold atKey at h1 h2 ⊢
    rw [List.find?_cons, List.find?_cons, z, g1]
    by_cases c : y.1 = k
    · rw [decide_eq_true c]
      exact ⟨rfl, fun d hd => by cases hd; exact ⟨_, _, rfl, g3, r1.2⟩⟩
    · rw [decide_eq_false c]
      exact ⟨h1, h2⟩
theorem anyXY {k : NestedKey} : ∀ {xs : List (NestedKey × Addr × V)} {ys : List (NestedKey × Addr × Value)}, KN xs ys → (xs.any fun x => decide (x.1 = k)) = (atKey ys k).isSome
  | _, _, .nil => rfl
  | x :: xs, y :: ys, .cons h t => by
    have := anyXY (k := k) t
    unfold atKey at this ⊢
    rw [List.any_cons, List.find?_cons, h.1, this]
    by_cases c : y.1 = k
    · rw [decide_eq_true c]; rfl
    · rw [decide_eq_false c]; rfl
theorem mapXY {k : NestedKey} {v : V} {u : Value} (rv : RelV v u) : ∀ {xs : List (NestedKey × Addr × V)} {ys : List (NestedKey × Addr × Value)}, KN xs ys → KN (xs.map fun x => if x.1 = k then (x.1, x.2.1, v) else x) (ys.map (putAt k u))
  | _, _, .nil => .nil
  | x :: xs, y :: ys, .cons h t => by
    refine .cons ?_ (mapXY rv t)
    unfold putAt
    obtain ⟨g1, g2, g3⟩ := h
    dsimp only
    by_cases c : x.1 = k
    · rw [if_pos c, if_pos (by rw [← g1]; exact c)]; exact ⟨g1, g2, rv⟩
    · rw [if_neg c, if_neg (by rw [← g1]; exact c)]; exact ⟨g1, g2, g3⟩
theorem putN_kn {k : NestedKey} {b : Addr} {v : V} {u : Value} (rv : RelV v u) {xs : List (NestedKey × Addr × V)} {ys : List (NestedKey × Addr × Value)} (h : KN xs ys) : KN (putN xs k b v) (storedH ys k b u) := by
  unfold putN storedH
  rw [anyXY h]
  split
  · exact mapXY rv h
  · exact paired_app h ⟨rfl, rfl, rv⟩
theorem mapN {k : NestedKey} {kd : PyData} {v : V} {d : PyData} (e : keyOf kd = some k) (rv : Rp K N H v d) : ∀ {xs : List (NestedKey × Addr × V)} {kvs : List (PyData × PyData)}, Paired (E2 K N H) (xs.map fun x => (V.ref x.2.1, x.2.2)) kvs → xs.map (fun x => some x.1) = kvs.map (fun p => keyOf p.1) →
    Paired (E2 K N H) ((xs.map fun x => if x.1 = k then (x.1, x.2.1, v) else x).map fun x => (V.ref x.2.1, x.2.2)) (kvs.map fun p => if keq p.1 kd = true then (p.1, d) else p) ∧ (xs.map fun x => if x.1 = k then (x.1, x.2.1, v) else x).map (fun x => some x.1) = (kvs.map fun p => if keq p.1 kd = true then (p.1, d) else p).map (fun p => keyOf p.1)
  | [], [], _, _ => ⟨.nil, rfl⟩
  | x :: xs, q :: kvs, .cons h t, e0 => by
    rw [List.map_cons, List.map_cons] at e0
    obtain ⟨e1, e2⟩ := List.cons.inj e0
    obtain ⟨i1, i2⟩ := mapN e rv t e2
    have z := keq_N e1 e
    rw [List.map_cons, List.map_cons, List.map_cons, List.map_cons, List.map_cons, i2, z]
    by_cases c : x.1 = k
    · rw [if_pos c, if_pos (decide_eq_true c)]
      exact ⟨.cons ⟨h.1, rv⟩ i1, by rw [e1]⟩
    · rw [if_neg c, if_neg (by rw [decide_eq_false c]; simp)]
      exact ⟨.cons h i1, by rw [e1]⟩
theorem putN_rel {k : NestedKey} {b : Addr} {kd : PyData} {v : V} {d : PyData} (e : keyOf kd = some k) (rk : Rp K N H (.ref b) kd) (rv : Rp K N H v d) {xs : List (NestedKey × Addr × V)} {kvs : List (PyData × PyData)} (h : Paired (E2 K N H) (xs.map fun x => (V.ref x.2.1, x.2.2)) kvs) (e0 : xs.map (fun x => some x.1) = kvs.map (fun p => keyOf p.1)) :
    Paired (E2 K N H) ((putN xs k b v).map fun x => (V.ref x.2.1, x.2.2)) (dPut kvs kd d) ∧ (putN xs k b v).map (fun x => some x.1) = (dPut kvs kd d).map (fun p => keyOf p.1) := by
  unfold putN dPut
  rw [anyN e e0]
  split
  · exact mapN e rv h e0
  · rw [List.map_append, List.map_append, List.map_append]
    exact ⟨paired_app h ⟨rk, rv⟩, by rw [e0]; simp [e]⟩
theorem putN_len {xs : List (NestedKey × Addr × V)} {k : NestedKey} {b : Addr} {v : V} : (putN xs k b v).length ≤ xs.length + 1 := by
  unfold putN
  split <;> simp
theorem putN_deep {xs : List (NestedKey × Addr × V)} {k : NestedKey} {b : Addr} {v : V} (h : ∀ x ∈ xs, x.1.depth ≤ 8) (hk : k.depth ≤ 8) : ∀ x ∈ putN xs k b v, x.1.depth ≤ 8 := by
  intro x hx
  unfold putN at hx
  split at hx
  · obtain ⟨y, hy, rfl⟩ := List.mem_map.mp hx
    split
    · exact h y hy
    · exact h y hy
  · rcases List.mem_append.mp hx with q | q
    · exact h x q
    · rw [List.mem_singleton.mp q]; exact hk
end

/-! ### asked -/
section
variable {X : Cx} {pins : List (Addr × Obj)} {σ : L2.St} {H : Hp} {s : Shared} {N : Addr → Prop} {a : Addr} {kvs : List (PyData × PyData)} {v : V} {u : Value} {k : PyData} {A : Around} {E : Value → Shared → Prop}
theorem k1_key (h : isK1 k = true) (r : Rp X.kk N H v k) : ∃ kk, v = kV kk ∧ keyOf k = some (nk kk) := by
  cases k with
  | int i => cases r; exact ⟨.inl i, rfl, rfl⟩
  | str x => cases r; exact ⟨.inr x, rfl, rfl⟩
  | _ => cases h
theorem kn_key (I : Inv X pins σ H s) (h : isKN k = true) (r : Rp X.kk N H v k) (ru : RelV v u) : ∃ b kk, v = .ref b ∧ u = .ref b ∧ keyOf k = some kk ∧ kk.depth ≤ 8 ∧ (nestedKind X.prog X.w).is s.heap kk b := by
  cases k with
  | tuple ds =>
    have h : (match keyOf (.tuple ds) with | some k => decide (k.depth ≤ 8) | none => false) = true := h
    split at h
    · rename_i kk e
      have hd : kk.depth ≤ 8 := by simpa using h
      have n := nested_of I _ _ _ _ r e ru
      cases r
      cases ru
      exact ⟨_, kk, rfl, rfl, e, hd, n, hd⟩
    · cases h
  | _ => cases h
theorem D_getItem {d : PyData} {Q : Value → Shared → Prop} (hu : A.units + 20 < cLine) (I : Inv X pins σ H s) (h : DAt X.kk N H a kvs) (hk : dKey kvs k = true) (r : Rp X.kk N H v k) (ru : RelV v u) (e : dGet kvs k = some d)
    (q : ∀ w' v' s', Inv X pins σ H s' → RelV v' w' → Rp X.kk N H v' d → Q w' s') : wpAny (model X.prog X.w) A (getItem (.ref a) u) Q E s := by
  unfold dKey at hk
  rw [Bool.or_eq_true, Bool.and_eq_true, Bool.and_eq_true] at hk
  rcases hk with ⟨h1, h2⟩ | ⟨h1, h2⟩
  · obtain ⟨ks, vs, as⟩ := h.asK I h2
    obtain ⟨kk, rfl, ek⟩ := k1_key h1 r
    obtain ⟨g1, g2⟩ := getK ek as.rel
    obtain ⟨v', e1, rv⟩ := g2 d e
    obtain ⟨w', hw, rw'⟩ := RelO.some_of (v := v') (o := valueAt vs kk) (by rw [← e1]; exact as.kv.val kk)
    exact wpAny_getItem_of (kV_is ru) as.dict.mapOf hw (q w' v' _ (I.tok _) rw' rv)
  · obtain ⟨xs, ys, as⟩ := h.asN I h2
    obtain ⟨b, kk, rfl, rfl, ek, hd, his⟩ := kn_key I h1 r ru
    obtain ⟨g1, g2⟩ := getN ek as.kn as.rel as.keys
    obtain ⟨p, v', e1, rw', rv⟩ := g2 d e
    exact wpAny_getItem_heap (show A.in1.units + 8 < cLine from by show A.units + 1 + 8 < cLine; omega) his as.dict e1 (q _ v' _ (I.tok _) rw' rv)
theorem D_in {Q : Value → Shared → Prop} (hu : A.units + 20 < cLine) (I : Inv X pins σ H s) (h : DAt X.kk N H a kvs) (hk : dKey kvs k = true) (r : Rp X.kk N H v k) (ru : RelV v u) (q : ∀ s', Inv X pins σ H s' → Q (.bool (dGet kvs k).isSome) s') :
    wpAny (model X.prog X.w) A (compareOp .In u (.ref a)) Q E s := by
  unfold dKey at hk
  rw [Bool.or_eq_true, Bool.and_eq_true, Bool.and_eq_true] at hk
  rcases hk with ⟨h1, h2⟩ | ⟨h1, h2⟩
  · obtain ⟨ks, vs, as⟩ := h.asK I h2
    obtain ⟨kk, rfl, ek⟩ := k1_key h1 r
    obtain ⟨g1, g2⟩ := getK ek as.rel
    refine wpAny_in_of (kV_is ru) as.sys as.dict.mapOf ?_
    rw [← (as.kv.val kk).isSome_eq, ← g1]
    exact q _ (I.tok _)
  · obtain ⟨xs, ys, as⟩ := h.asN I h2
    obtain ⟨b, kk, rfl, rfl, ek, hd, his⟩ := kn_key I h1 r ru
    obtain ⟨g1, g2⟩ := getN ek as.kn as.rel as.keys
    refine wpAny_in_heap (show A.in1.units + 8 < cLine from by show A.units + 1 + 8 < cLine; omega) his as.sys as.dict ?_
    rw [← g1]
    exact q _ (I.tok _)
theorem D_notIn {Q : Value → Shared → Prop} (hu : A.units + 20 < cLine) (I : Inv X pins σ H s) (h : DAt X.kk N H a kvs) (hk : dKey kvs k = true) (r : Rp X.kk N H v k) (ru : RelV v u) (q : ∀ s', Inv X pins σ H s' → Q (.bool (!(dGet kvs k).isSome)) s') :
    wpAny (model X.prog X.w) A (compareOp .NotIn u (.ref a)) Q E s := by
  unfold dKey at hk
  rw [Bool.or_eq_true, Bool.and_eq_true, Bool.and_eq_true] at hk
  rcases hk with ⟨h1, h2⟩ | ⟨h1, h2⟩
  · obtain ⟨ks, vs, as⟩ := h.asK I h2
    obtain ⟨kk, rfl, ek⟩ := k1_key h1 r
    obtain ⟨g1, g2⟩ := getK ek as.rel
    refine wpAny_notIn_of (kV_is ru) as.sys as.dict.mapOf ?_
    rw [← (as.kv.val kk).isSome_eq, ← g1]
    exact q _ (I.tok _)
  · obtain ⟨xs, ys, as⟩ := h.asN I h2
    obtain ⟨b, kk, rfl, rfl, ek, hd, his⟩ := kn_key I h1 r ru
    obtain ⟨g1, g2⟩ := getN ek as.kn as.rel as.keys
    refine PyProof.Rows.wpAny_notIn_heap (show A.in1.units + 8 < cLine from by show A.units + 1 + 8 < cLine; omega) his as.sys as.dict ?_
    rw [← g1]
    exact q _ (I.tok _)

/-! ### written -/
/-- what stands behind a writing -/
theorem DAt.put {ob : Obj} (hp : N a) {o : HO} (e : H a = some o) (ho : Plain0 o) {kk : Key} {ks : List (Key × V)} {d : PyData} {v' : V} (rk : Rp X.kk N H (kV kk) k) (rv : Rp X.kk N H v' d) (rel : Paired (E2 X.kk N H) (ks.map fun p => (kV p.1, p.2)) kvs) :
    DAt X.kk N (upd H a (.ext (PhiK X.kk a ob (putK ks kk v')))) a (dPut kvs k d) :=
  ⟨_, _, upd_same, .dK, Paired.mapP (putK_rel rk rv rel) fun p q h => ⟨h.1.upd hp e ho, h.2.upd hp e ho⟩⟩
theorem DAt.putN {ob : Obj} (hp : N a) {o : HO} (e : H a = some o) (ho : Plain0 o) {kk : NestedKey} {b : Addr} {xs : List (NestedKey × Addr × V)} {d : PyData} {v' : V} (ek : keyOf k = some kk) (rk : Rp X.kk N H (.ref b) k) (rv : Rp X.kk N H v' d) (rel : Paired (E2 X.kk N H) (xs.map fun x => (V.ref x.2.1, x.2.2)) kvs) (e0 : xs.map (fun x => some x.1) = kvs.map (fun p => keyOf p.1)) :
    DAt X.kk N (upd H a (.ext (PhiN X.kk a ob (putN xs kk b v')))) a (dPut kvs k d) :=
  let ⟨h1, h2⟩ := putN_rel ek rk rv rel e0
  ⟨_, _, upd_same, .dN h2, Paired.mapP h1 fun p q h => ⟨h.1.upd hp e ho, h.2.upd hp e ho⟩⟩
theorem mut_plain {o : HO} (e : H a = some o) (ho : Plain0 o) : Mut (H a) := by
  rw [e]
  cases o <;> first | exact True.intro | exact ho.elim
theorem D_written {A : Around} {d : PyData} {v' : V} {u' : Value} {Q : Unit → Shared → Prop} {act : Sem Unit} {o : HO} (I : Inv X pins σ H s) (h : DAt X.kk N H a kvs) (e : H a = some o) (ho : Plain0 o) (hp : N a) (hk : dKey kvs k = true) (r : Rp X.kk N H v k) (ru : RelV v u) (rv : Rp X.kk N H v' d) (ru' : RelV v' u') (hz : kvs.length < sizeLine)
    (hK : ∀ (kk : Key) (vs : List (Key × Value)), (mixKind X.prog X.w).is kk u = true → s.heap.DictOf (mixKind X.prog X.w) a vs → vs.length ≤ sizeLine → (∀ h', h'.DictOf (mixKind X.prog X.w) a (stored vs kk u') → Heap.SameBut a s.heap h' → Q () { s with heap := h', toks := s.toks + 1 }) → wpAny (model X.prog X.w) A act Q E s)
    (hNN : ∀ (kk : NestedKey) (b : Addr) (ys : List (NestedKey × Addr × Value)), u = .ref b → (nestedKind X.prog X.w).is s.heap kk b → s.heap.DictOfH (nestedKind X.prog X.w) a ys → ys.length ≤ sizeLine → (∀ h', h'.DictOfH (nestedKind X.prog X.w) a (storedH ys kk b u') → Heap.SameBut a s.heap h' → Q () { s with heap := h', toks := s.toks + (nestedKind X.prog X.w).draws kk }) → wpAny (model X.prog X.w) A act Q E s)
    (q : ∀ o' s', Inv X pins σ (upd H a o') s' → DAt X.kk N (upd H a o') a (dPut kvs k d) → Q () s') : wpAny (model X.prog X.w) A act Q E s := by
  unfold dKey at hk
  rw [Bool.or_eq_true, Bool.and_eq_true, Bool.and_eq_true] at hk
  rcases hk with ⟨h1, h2⟩ | ⟨h1, h2⟩
  · obtain ⟨ks, vs, as⟩ := h.asK I h2
    obtain ⟨kk, rfl, ek⟩ := k1_key h1 r
    refine hK kk vs (kV_is ru) as.dict (by rw [← as.kv.length]; exact as.len) fun h' dd' hs => ?_
    have he : ∃ q, h'.get? a = some q := let ⟨q, _, _, hq, _⟩ := dd'; ⟨q, hq⟩
    obtain ⟨qo, hq⟩ := he
    refine q _ _ ?_ (DAt.put (ob := qo) hp e ho r rv as.rel)
    have hl : (putK ks kk v').length ≤ sizeLine := by
      have h1 := length_putK ks kk v'
      have h2 := as.rel.length
      rw [List.length_map] at h2
      omega
    refine d_write I (mut_plain e ho) hs ⟨qo, hq⟩ ⟨⟨hl, as.sys, hq, _, as.kv.put kk ru', dd'⟩, ⟨qo, hq⟩, ?_⟩
    rintro h1 h2 ⟨p1, p2, p3, vs', p4, o', es', ep', p5, p6⟩ k
    exact ⟨p1, p2, k _ p3, vs', p4, o', es', ep', k _ p5, p6⟩
  · obtain ⟨xs, ys, as⟩ := h.asN I h2
    obtain ⟨b, kk, rfl, rfl, ek, hd, his⟩ := kn_key I h1 r ru
    refine hNN kk b ys rfl his as.dict (by rw [← as.kn.length]; exact as.len) fun h' dd' hs => ?_
    obtain ⟨qo, es, ep, hq, g2, g3, g4, _, g5⟩ := dd'
    refine q _ _ ?_ (DAt.putN (ob := qo) hp e ho ek r rv as.rel as.keys)
    have hl : (putN xs kk b v').length ≤ sizeLine := by
      have h1 := putN_len (xs := xs) (k := kk) (b := b) (v := v')
      have h2 := as.rel.length
      rw [List.length_map] at h2
      omega
    refine d_write I (mut_plain e ho) hs ⟨qo, hq⟩ ⟨⟨hl, as.sys, putN_deep as.deep hd, hq, _, putN_kn ru' as.kn, es, ep, g2, g3, g4, g5⟩, ⟨qo, hq⟩, ?_⟩
    rintro h1 h2 ⟨p1, p2, p3, p4, p5⟩ k
    exact ⟨p1, p2, p3, k _ p4, p5⟩
theorem D_setItem {A : Around} {d : PyData} {v' : V} {u' : Value} {Q : Unit → Shared → Prop} {o : HO} (hu : A.units + 20 < cLine) (I : Inv X pins σ H s) (h : DAt X.kk N H a kvs) (e : H a = some o) (ho : Plain0 o) (hp : N a) (hk : dKey kvs k = true) (r : Rp X.kk N H v k) (ru : RelV v u) (rv : Rp X.kk N H v' d) (ru' : RelV v' u') (hz : kvs.length < sizeLine)
    (q : ∀ o' s', Inv X pins σ (upd H a o') s' → DAt X.kk N (upd H a o') a (dPut kvs k d) → Q () s') : wpAny (model X.prog X.w) A (setItem (.ref a) u u') Q E s :=
  D_written I h e ho hp hk r ru rv ru' hz (fun kk vs h1 h2 h3 h4 => wpAny_setItem_pairs (hsz := h3) h1 h2 h4)
    (fun kk b ys h0 h1 h2 h3 h4 => by subst h0; exact wpAny_setItem_heap (hsz := h3) (show A.in1.units + 8 < cLine from by show A.units + 1 + 8 < cLine; omega) h1 h2 h4) q
theorem D_dictSet {A : Around} {d : PyData} {v' : V} {u' : Value} {Q : Unit → Shared → Prop} {o : HO} (hu : A.units + 20 < cLine) (I : Inv X pins σ H s) (h : DAt X.kk N H a kvs) (e : H a = some o) (ho : Plain0 o) (hp : N a) (hk : dKey kvs k = true) (r : Rp X.kk N H v k) (ru : RelV v u) (rv : Rp X.kk N H v' d) (ru' : RelV v' u') (hz : kvs.length < sizeLine)
    (q : ∀ o' s', Inv X pins σ (upd H a o') s' → DAt X.kk N (upd H a o') a (dPut kvs k d) → Q () s') : wpAny (model X.prog X.w) A (dictSet a u u') Q E s :=
  D_written I h e ho hp hk r ru rv ru' hz (fun kk vs h1 h2 h3 h4 => wpAny_dictSet_pairs (hsz := h3) h1 h2 h4)
    (fun kk b ys h0 h1 h2 h3 h4 => by subst h0; exact wpAny_dictSet_heap (hsz := h3) (show A.units + 8 < cLine from by omega) h1 h2 h4) q
end
end Ev
/-! Ev18: dicts in calls, subscripts, tests, walks. -/
namespace Ev
open PySem PySem.Spec L2

section
variable {K : KK} {N : Addr → Prop} {H : Hp}
theorem vr_dct {kvs : List (PyData × PyData)} {es : List (V × V)} {o : HO} {Q : VK} (hN : ∀ a, N a → H a ≠ none) {p : Addr} (hp : H p = none) (d : DE K p o es kvs) (r : Paired (E2 K N H) es kvs) (h : VR K N H (.dict kvs) Q) : Q (.ref p) (upd H p o) := by
  have k : Same H (upd H p o) := fun b o' e => by rw [upd_ne (ne_of_none e hp)]; exact e
  have r1 : Paired (E2 K (fun b => N b ∨ b = p) (upd H p o)) es kvs := Paired.mapP r fun x y z => ⟨(Rp.forbid (fun a h => h.imp id fun z => by rw [z]; exact hp) z.1).same k, (Rp.forbid (fun a h => h.imp id fun z => by rw [z]; exact hp) z.2).same k⟩
  have r2 : Paired (E2 K N (upd H p o)) es kvs := Paired.mapP r fun x y z => ⟨z.1.same k, z.2.same k⟩
  exact h _ _ k (DAt.rp ⟨o, es, upd_same, d, r2⟩ fun z => hN p z hp) fun _ => ⟨p, rfl, hp, DAt.top ⟨o, es, upd_same, d, r1⟩⟩
end

theorem paired_of_get {α β : Type} {R : α → β → Prop} : ∀ {l : List α} {m : List β}, l.length = m.length → (∀ (i : Nat) (y : β), m[i]? = some y → ∃ x, l[i]? = some x ∧ R x y) → Paired R l m
  | [], [], _, _ => .nil
  | x :: l, y :: m, hl, h => by
    refine .cons ?_ (paired_of_get (by simpa using hl) fun i y e => ?_)
    · obtain ⟨x', h1, h2⟩ := h 0 y rfl
      have e : x = x' := by simpa using h1
      rw [e]; exact h2
    · obtain ⟨x', h1, h2⟩ := h (i + 1) y (by simpa using e)
      exact ⟨x', by simpa using h1, h2⟩
  | [], _ :: _, hl, _ => by simp at hl
  | _ :: _, [], hl, _ => by simp at hl
section
variable {X : Cx} {pins : List (Addr × Obj)} {σ : L2.St} {H : Hp} {s : Shared} {N : Addr → Prop} {a : Addr} {kvs : List (PyData × PyData)}
/-- the object of a dict, wherever it stands in the heap -/
structure PinD (a : Addr) (o : HO) (es : Array DictEntry) (ep : Nat) (ents : List (V × V)) : Prop where
  at' : ∀ (Y : Cx) (pins : List (Addr × Obj)) (σ : L2.St) (H : Hp) (s : Shared), Inv Y pins σ H s → H a = some o → s.heap.DictRaw a es ep
  sys : (a == sysModules) = false
  size : es.size = ents.length
  rel : ∀ i (hi : i < es.size), ∃ p, ents[i]? = some p ∧ RelV p.1 es[i].key ∧ RelV p.2 es[i].val
theorem kv_rel : ∀ {ks : List (Key × V)} {vs : List (Key × Value)} {i : Nat} {k : Key} {u : Value}, KV ks vs → vs[i]? = some (k, u) → ∃ v, ks[i]? = some (k, v) ∧ RelV v u
  | _, _, _, _, _, .nil, e => by simp at e
  | p :: ks, q :: vs, 0, k, u, .cons h t, e => by
    simp at e; subst e
    obtain ⟨h1, h2⟩ := h
    refine ⟨p.2, ?_, h2⟩
    show some p = _
    rw [← show p.1 = k from h1]
  | p :: ks, q :: vs, i + 1, k, u, .cons h t, e => by
    obtain ⟨v, h1, h2⟩ := kv_rel (i := i) t (by simpa using e)
    exact ⟨v, by simpa using h1, h2⟩
theorem kn_rel : ∀ {xs : List (NestedKey × Addr × V)} {ys : List (NestedKey × Addr × Value)} {i : Nat} {y : NestedKey × Addr × Value}, KN xs ys → ys[i]? = some y → ∃ x, xs[i]? = some x ∧ x.2.1 = y.2.1 ∧ RelV x.2.2 y.2.2
  | _, _, _, _, .nil, e => by simp at e
  | p :: ks, q :: vs, 0, y, .cons h t, e => by
    simp at e; subst e
    exact ⟨p, rfl, h.2.1, h.2.2⟩
  | p :: ks, q :: vs, i + 1, y, .cons h t, e => by
    obtain ⟨v, h1, h2⟩ := kn_rel (i := i) t (by simpa using e)
    exact ⟨v, by simpa using h1, h2⟩
theorem DAt.pin (I : Inv X pins σ H s) (h : DAt X.kk N H a kvs) : ∃ o es ep ents, H a = some o ∧ Plain0 o ∧ PinD a o es ep ents ∧ Paired (E2 X.kk N H) ents kvs ∧ kvs.length ≤ sizeLine := by
  obtain ⟨o, ents, e, d, r⟩ := h
  have hl := r.length
  cases d with
  | @dK ob ks _ =>
    obtain ⟨⟨z, hd, hob, vs, kv, o', es, ep, h1, h2, h3, h4, h5, h6⟩, _, _⟩ := (show ObjOk X.prog X.w H s.heap a (.ext (PhiK X.kk a ob ks)) from I.hok a _ e)
    rw [hob] at h1
    cases h1
    refine ⟨_, es, ep, _, e, trivial, ⟨fun Y pins σ H s I e => ?_, hd, ?_, fun i hi => ?_⟩, r, by rw [← hl, List.length_map]; exact z⟩
    · obtain ⟨⟨_, _, hob', _⟩, _, _⟩ := (show ObjOk Y.prog Y.w H s.heap a (.ext (PhiK X.kk a ob ks)) from I.hok a _ e)
      exact ⟨ob, hob', h2, h3⟩
    · have := h5.length
      rw [List.length_map, kv.length, ← this]
      simp
    · have hv : i < vs.length := by rw [← h5.length]; simpa using hi
      obtain ⟨⟨k, u⟩, hu⟩ : ∃ p, vs[i]? = some p := ⟨vs[i], List.getElem?_eq_getElem hv⟩
      obtain ⟨q1, q2⟩ := h5.get? (e := es[i]) (by simp [hi]) hu
      obtain ⟨v, hv1, hv2⟩ := kv_rel kv hu
      refine ⟨_, by rw [List.getElem?_map, hv1]; rfl, relV_key (show keyIs k es[i].key = true from q1), by rw [q2]; exact hv2⟩
  | @dN ob xs _ hx =>
    obtain ⟨⟨z, hd, _, hob, ys, kn, es, ep, h2, h3, h4, h5⟩, _, _⟩ := (show ObjOk X.prog X.w H s.heap a (.ext (PhiN X.kk a ob xs)) from I.hok a _ e)
    have hs : es.size = ys.length := by rw [← Array.length_toList, h4, List.length_map]
    refine ⟨_, es, ep, _, e, trivial, ⟨fun Y pins σ H s I e => ?_, hd, ?_, fun i hi => ?_⟩, r, by rw [← hl, List.length_map]; exact z⟩
    · obtain ⟨⟨_, _, _, hob', _⟩, _, _⟩ := (show ObjOk Y.prog Y.w H s.heap a (.ext (PhiN X.kk a ob xs)) from I.hok a _ e)
      exact ⟨ob, hob', h2, h3⟩
    · rw [List.length_map, kn.length, hs]
    · obtain ⟨y, hy⟩ : ∃ y, ys[i]? = some y := ⟨ys[i], List.getElem?_eq_getElem (by rw [← hs]; exact hi)⟩
      obtain ⟨x, hx1, hx2, hx3⟩ := kn_rel kn hy
      have hen : es[i] = entN X.w y := by
        have : es.toList[i]? = (ys.map (entN X.w))[i]? := by rw [h4]
        rw [List.getElem?_map, hy, Array.getElem?_toList, Array.getElem?_eq_getElem hi] at this
        exact Option.some.inj this
      refine ⟨_, by rw [List.getElem?_map, hx1]; rfl, ?_, ?_⟩
      · rw [hen]; show Value.ref y.2.1 = _; rw [← hx2]
      · rw [hen]; exact hx3
/-- the keys, collected -/
theorem PinD.keys {o : HO} {es : Array DictEntry} {ep : Nat} {ents : List (V × V)} (P : PinD a o es ep ents) {acc : Array Value} (h : ItemsOf (fun i v => ∃ hi : i < es.size, v = es[i].key) acc es.size) : Vals (ents.map (·.1)) acc.toList := by
  obtain ⟨h1, h2⟩ := h
  refine paired_of_get (by rw [List.length_map, ← P.size, Array.length_toList, h1]) fun i v e => ?_
  rw [Array.getElem?_toList] at e
  obtain ⟨hi, rfl⟩ := h2 i v e
  obtain ⟨p, hp, r1, _⟩ := P.rel i hi
  exact ⟨p.1, by rw [List.getElem?_map, hp]; rfl, r1⟩
theorem RpV.rp {K : KK} {v : V} {d : PyData} (h : RpV K N H v d) (hd : isM d = false) : Rp K N H v d := by
  rcases h with h | ⟨a, rfl, t⟩
  · exact h
  · rw [t.isM] at hd; cases hd
theorem isK1_M {k : PyData} (h : isK1 k = true) : isM k = false := by cases k <;> first | rfl | cases h
theorem isKN_M {k : PyData} (h : isKN k = true) : isM k = false := by cases k <;> first | rfl | cases h
theorem dKey_M {k : PyData} (h : dKey kvs k = true) : isM k = false := by
  unfold dKey at h
  rw [Bool.or_eq_true, Bool.and_eq_true, Bool.and_eq_true] at h
  rcases h with ⟨h, _⟩ | ⟨h, _⟩
  · exact isK1_M h
  · exact isKN_M h
end

/-! ### len, sorted, list of a dict -/
def fLenD : List PyData → Option PyData
  | [.dict kvs] => some (.int kvs.length)
  | ds => fLen ds
def fSortedD : List PyData → Option PyData
  | [.dict kvs] => fSorted [.list (kvs.map (·.1))]
  | ds => fSorted ds
def fListD : List PyData → Option PyData
  | [.dict kvs] => some (.list (kvs.map (·.1)))
  | ds => fList ds
section
variable {X : Cx}
theorem len_raw {prog : Program} {w : World} {A : Around} {E : Value → Shared → Prop} {s : Shared} {d : Addr} {es : Array DictEntry} {ep : Nat} {Q : Value → Shared → Prop} (hd : (d == sysModules) = false) (hm : s.heap.DictRaw d es ep) (hfit : (es.size : Int) < 2 ^ 63)
    (h : Q (.int es.size (s.toks + 1)) { s with toks := s.toks + 1 + 1 }) : wpAny (model prog w) A (call (.builtin "len") [.ref d]) Q E s := by
  refine Calls.call_function_entry kind_len plain_len entry_len (args_len1 _) ?_
  unfold Builtin.«len»
  refine wpAny_bind (m := oneArg "len" _) (wpAny_pure ?_)
  refine wpAny_bind (m := callSpecial? (.ref d) (Str.ofString "__len__")) (wpAny_callSpecial?_slot (name := Str.ofString "__len__") hm.typeIs F.slot_dict_len
    (call_len_raw hd hm ?_))
  show wpAny _ _ _ _ _ { s with toks := s.toks + 1 }
  refine wpAny_bind (wpAny_holding (wpAny_pure ?_))
  refine wpAny_bind (wpAny_letGo ?_)
  show wpAny _ _ (if ((es.size : Nat) : Int) < 0 then _ else _) _ _ _
  rw [if_neg (by omega)]
  show wpAny _ _ (if ((es.size : Nat) : Int) ≥ 2 ^ 63 then _ else _) _ _ _
  rw [if_neg (by omega)]
  exact wpAny_bind (wpAny_mkInt (wpAny_pure ⟨_, rfl, h⟩))
theorem cd_lenD : CallR X (.builtin "len") (RnD X.kk fLenD) := by
  intro pins s σ H xs us Q I r ⟨N, ds, d, ex, rp, hf, q⟩
  unfold fLenD at hf
  split at hf
  · cases hf
    obtain ⟨v, rfl, h⟩ := rp1 rp
    obtain ⟨a, rfl, hd⟩ := h.dct
    obtain ⟨u, rfl, ru⟩ := vals1 r
    cases ru
    obtain ⟨o, es, ep, ents, e, _, P, r2, hl⟩ := hd.pin I
    have hz : es.size = _ := P.size.trans r2.length
    refine len_raw P.sys (P.at' _ _ _ _ _ I e) (by rw [sizeLine_eq] at hl; omega) ?_
    rw [hz]
    exact ⟨.int _, H, (I.tok _).tok _, ⟨_, rfl⟩, vr_val (.int _) rfl q⟩
  · exact cd_len pins s σ H xs us Q I r ⟨N, _, d, ex, rp, hf, q⟩
theorem cd_sortedD (hc : X.calm = true) (hu : X.A.units + 70 < cLine) : CallR X (.builtin "sorted") (RnD X.kk fSortedD) := by
  intro pins s σ H xs us Q I r ⟨N, ds, d, ex, rp, hf, q⟩
  unfold fSortedD at hf
  split at hf
  · unfold fSorted at hf
    simp only at hf
    split at hf
    · rename_i hz
      cases hf
      obtain ⟨h1, h2, h3, h4, h5⟩ := sortOk_facts hz
      obtain ⟨v, rfl, h⟩ := rp1 rp
      obtain ⟨a, rfl, hd⟩ := h.dct
      obtain ⟨u, rfl, ru⟩ := vals1 r
      cases ru
      obtain ⟨o, es, ep, ents, e, _, P, r2, hl⟩ := hd.pin I
      have hsz : es.size ≤ sizeLine := by rw [P.size, r2.length]; exact hl
      refine sorted_gen I (fun R E h => PySem.W.kdu_collect (PySem.KdlSrc.rawDict (es := es) (ep := ep) P.sys) (I.ok.hd hc) (P.at' _ _ _ _ _ I e) hsz fun h' tk acc hk hacc => h h' tk _ hk (P.keys hacc)) ex (paired_fst r2) h1 h2 h3 h4 hu h5 q
    · cases hf
  · exact cd_sorted hu pins s σ H xs us Q I r ⟨N, _, d, ex, rp, hf, q⟩
theorem cd_listD (hc : X.calm = true) : CallR X (.type "list") (RnD X.kk fListD) := by
  intro pins s σ H xs us Q I r ⟨N, ds, d, ex, rp, hf, q⟩
  unfold fListD at hf
  split at hf
  · cases hf
    obtain ⟨v, rfl, h⟩ := rp1 rp
    obtain ⟨a, rfl, hd⟩ := h.dct
    obtain ⟨u, rfl, ru⟩ := vals1 r
    cases ru
    obtain ⟨o, es, ep, ents, e, _, P, r2, hl⟩ := hd.pin I
    have hsz : es.size ≤ sizeLine := by rw [P.size, r2.length]; exact hl
    refine PySem.W.kdl_call (PySem.KdlSrc.rawDict (es := es) (ep := ep) P.sys) (I.ok.hd hc) (P.at' _ _ _ _ _ I e) hsz fun h' tk acc c hk ho hacc => ?_
    have rv := P.keys hacc
    have I1 : Inv X pins σ (upd H s.heap.objs.size (.lst (ents.map (·.1)))) { s with heap := h', toks := tk } :=
      I.laid (a := s.heap.objs.size) (o := .lst (ents.map (·.1))) hk (Nat.le_refl _) ⟨by rw [List.length_map, ← P.size]; exact hsz, acc.toList, c, rv, by rw [Array.toArray_toList]; exact ho⟩
    exact ⟨.ref s.heap.objs.size, _, I1, rfl, vr_lst ex (paired_fst r2) q (I.hok.fresh (Nat.le_refl _))⟩
  · exact cd_list pins s σ H xs us Q I r ⟨N, _, d, ex, rp, hf, q⟩

/-! ### subscripts, in -/
def fIxD : PyData → PyData → Option PyData
  | .dict kvs, k => if dKey kvs k then dGet kvs k else none
  | d, k => fIx d k
theorem id_ixD (hu : X.A.units + 20 < cLine) : IxR X (R2P X.kk fIxD) := by
  intro va sl pins s σ H x y v u Q I rx ry ⟨N, dx, dy, d, ex, hx, hy, hf, q⟩ hs
  unfold fIxD at hf
  split at hf
  · split at hf
    · rename_i hk
      obtain ⟨a, rfl, h⟩ := hx.dct
      cases rx
      obtain ⟨o, es, ep, ents, e, _, P, r2, hl⟩ := h.pin I
      refine PyProof.Rows.tail_any (P.at' _ _ _ _ _ I e).typeIs slot_dict_getitem.lookup (D_getItem hu I h hk (hy.rp (dKey_M hk)) ry hf fun w' v' s' I' rv rp => ⟨v', H, I', rv, q v' H (fun _ _ e => e) rp⟩) hs
    · cases hf
  · exact id_ix va sl pins s σ H x y v u Q I rx ry ⟨N, dx, dy, d, ex, hx, hy, hf, q⟩ hs
def fInD (n : Bool) : PyData → PyData → Option PyData
  | k, .dict kvs => if dKey kvs k then some (.bool (xor n (dGet kvs k).isSome)) else none
  | k, d => fIn n k d
theorem od_inD (hu : X.A.units + 65 < cLine) : OpR X (compareOp .In) (R2D X.kk (fInD false)) := by
  intro pins s σ H x y v u Q I rx ry ⟨N, dx, dy, d, ex, hx, hy, hf, q⟩
  unfold fInD at hf
  split at hf
  · split at hf
    · rename_i kvs hk
      cases hf
      obtain ⟨a, rfl, h⟩ := hy.dct
      cases ry
      exact D_in (by omega) I h hk (hx.rp (dKey_M hk)) rx fun s' I' => ⟨.bl _, H, I', rfl, vr_val (.bl _) rfl (by simpa using q)⟩
    · cases hf
  · exact od_in hu pins s σ H x y v u Q I rx ry ⟨N, dx, dy, d, ex, hx, hy, hf, q⟩
theorem od_notInD (hu : X.A.units + 65 < cLine) : OpR X (compareOp .NotIn) (R2D X.kk (fInD true)) := by
  intro pins s σ H x y v u Q I rx ry ⟨N, dx, dy, d, ex, hx, hy, hf, q⟩
  unfold fInD at hf
  split at hf
  · split at hf
    · rename_i kvs hk
      cases hf
      obtain ⟨a, rfl, h⟩ := hy.dct
      cases ry
      exact D_notIn (by omega) I h hk (hx.rp (dKey_M hk)) rx fun s' I' => ⟨.bl _, H, I', rfl, vr_val (.bl _) rfl (by simpa using q)⟩
    · cases hf
  · exact od_notIn hu pins s σ H x y v u Q I rx ry ⟨N, dx, dy, d, ex, hx, hy, hf, q⟩
end
end Ev
/-! Ev19: new dicts, items stored, dicts walked. -/
namespace Ev
open PySem PySem.Spec L2

section
variable {X : Cx} {M : Nat → Bool} {F : Fn} {tg a b c e : Expr} {es : List Expr} {pos p apos cpos : Pos} {x : Str} {i : Nat}
/-! ### {} -/
def cNew : CE := fun _ s => some (.d (.dict []), s)
theorem phiK_ok {K : KK} {a : Addr} {ob : Obj} {ks : List (Key × V)} {h : Heap} {P : Program} {w : World} {H : Hp} (x : PhiK K a ob ks h) : ObjOk P w H h a (.ext (PhiK K a ob ks)) := by
  refine ⟨x, ⟨ob, x.2.2.1⟩, ?_⟩
  rintro h1 h2 ⟨p1, p2, p3, vs', p4, o', es', ep', p5, p6⟩ k
  exact ⟨p1, p2, k _ p3, vs', p4, o', es', ep', k _ p5, p6⟩
theorem phiN_ok {K : KK} {a : Addr} {ob : Obj} {xs : List (NestedKey × Addr × V)} {h : Heap} {P : Program} {w : World} {H : Hp} (x : PhiN K a ob xs h) : ObjOk P w H h a (.ext (PhiN K a ob xs)) := by
  refine ⟨x, ⟨ob, x.2.2.2.1⟩, ?_⟩
  rintro h1 h2 ⟨p1, p2, p3, p4, p5⟩ k
  exact ⟨p1, p2, p3, k _ p4, p5⟩
theorem sx_new : PE X (.Dict [] [] pos) (TX X.kk F M true cNew) := ⟨fun pins s σ H Q I ⟨g, st, y, s', r, ev, q⟩ => by
  cases ev
  have hn := I.hok.fresh (Nat.le_refl s.heap.objs.size)
  refine wpAny_Dict_empty ⟨.ref s.heap.objs.size, _, I.laid (a := s.heap.objs.size) (o := .ext (PhiK X.kk s.heap.objs.size { cls := .type "dict", data := .dict #[] } [])) (t' := s.toks) (fun _ _ q => Heap.get?_push_of_some _ q) (Nat.le_refl _) (phiK_ok ?_), rfl, ?_⟩
  · exact ⟨Nat.zero_le _, beq_eq_false_iff_ne.mpr (Ne.symm (Nat.ne_of_lt I.big)), Heap.get?_push_size _ rfl, [], .nil, Heap.DictOf.new _⟩
  · exact vr_dct (K := X.kk) (N := g.N) r.ex hn (.dK (ks := [])) .nil (fin_op r (Lent.nil Evo.refl) Evo.refl q)⟩

/-! ### dict(pairs) -/
def pairsOf : List PyData → Option (List (PyData × PyData))
  | [] => some []
  | .tuple [k, v] :: r => (pairsOf r).map ((k, v) :: ·)
  | _ => none
def dMerge (kvs more : List (PyData × PyData)) : List (PyData × PyData) := more.foldl (fun acc p => dPut acc p.1 p.2) kvs
def allK (kvs : List (PyData × PyData)) : Bool := (kvs.all fun p => isK1 p.1) || (kvs.all fun p => isKN p.1)
def fDict : List PyData → Option PyData
  | [.list ds] => match pairsOf ds with
    | some kvs => if allK kvs && decide (kvs.length ≤ sizeLine) then some (.dict (dMerge [] kvs)) else none
    | none => none
  | _ => none
section
variable {pins : List (Addr × Obj)} {σ : L2.St} {H : Hp} {s : Shared} {N : Addr → Prop}
theorem pairs_at (I : Inv X pins σ H s) : ∀ {ds : List PyData} {xs : List V} {its : List Value} {kvs : List (PyData × PyData)}, RpA X.kk N H xs ds → pairsOf ds = some kvs → Vals xs its →
    ∃ (Ts : List Addr) (ps : List (Value × Value)) (es : List (V × V)), Paired (E2 X.kk N H) es kvs ∧ Paired (fun e p => RelV e.1 p.1 ∧ RelV e.2 p.2) es ps ∧ its = Ts.map Value.ref ∧ Ts.length = ps.length ∧ ∀ (j : Nat) (k v : Value), ps[j]? = some (k, v) → ∃ T, Ts[j]? = some T ∧ PairAt s.heap T k v
  | [], _, _, _, .nil, e, .nil => by cases e; exact ⟨[], [], [], .nil, .nil, rfl, rfl, fun j k v h => by simp at h⟩
  | d :: ds, _, _, _, .cons h t, e, .cons r1 r2 => by
    unfold pairsOf at e
    split at e
    · rename_i heq
      cases heq
    · rename_i k v r heq
      cases heq
      rw [Option.map_eq_some_iff] at e
      obtain ⟨kvs', e1, rfl⟩ := e
      obtain ⟨Ts, ps, es, q1, q2, q3, q4, q5⟩ := pairs_at I t e1 r2
      cases h with
      | @tup b ys _ hs ha =>
        cases r1
        obtain ⟨its', rv, ⟨o, ho, hc, n, hd⟩, _⟩ := I.tuple hs
        cases ha with
        | cons a1 ha =>
          cases ha with
          | cons a2 ha =>
            cases ha
            cases rv with
            | cons v1 rv =>
              cases rv with
              | cons v2 rv =>
                cases rv
                refine ⟨b :: Ts, (_, _) :: ps, (_, _) :: es, .cons ⟨a1, a2⟩ q1, .cons ⟨v1, v2⟩ q2, by rw [List.map_cons, q3], by simp [q4], fun j k v h => ?_⟩
                cases j with
                | zero =>
                  simp at h
                  obtain ⟨rfl, rfl⟩ := h
                  exact ⟨b, rfl, .inl ⟨o, ho, hc, n, hd⟩⟩
                | succ j => 
                  obtain ⟨T, h1, h2⟩ := q5 j k v (by simpa using h)
                  exact ⟨T, by simpa using h1, h2⟩
    · cases e
theorem k1_keys : ∀ {es : List (V × V)} {kvs : List (PyData × PyData)} {ps : List (Value × Value)}, Paired (E2 X.kk N H) es kvs → (kvs.all fun p => isK1 p.1) = true → Paired (fun (e : V × V) (p : Value × Value) => RelV e.1 p.1 ∧ RelV e.2 p.2) es ps →
    ∃ (ks : List (Key × V)) (rs : List (Key × Value)), es = ks.map (fun p => (kV p.1, p.2)) ∧ KV ks rs ∧ ∀ (j : Nat) (k v : Value), ps[j]? = some (k, v) → ∃ kk, rs[j]? = some (kk, v) ∧ (mixKind X.prog X.w).is kk k = true
  | [], [], _, _, _, .nil => ⟨[], [], rfl, .nil, fun j k v h => by simp at h⟩
  | e :: es, q :: kvs, p :: ps, .cons h t, hk, .cons r1 r2 => by
    rw [List.all_cons, Bool.and_eq_true] at hk
    obtain ⟨ks, rs, h1, h2, h3⟩ := k1_keys t hk.2 r2
    obtain ⟨kk, ek, _⟩ := k1_key hk.1 h.1
    refine ⟨(kk, e.2) :: ks, (kk, p.2) :: rs, ?_, .cons ⟨rfl, r1.2⟩ h2, fun j k v hj => ?_⟩
    · rw [List.map_cons, ← h1, ← ek]
    · cases j with
      | zero =>
        simp at hj
        subst hj
        exact ⟨kk, rfl, kV_is (by rw [← ek]; exact r1.1)⟩
      | succ j => exact h3 j k v (by simpa using hj)
theorem kn_keys (I : Inv X pins σ H s) : ∀ {es : List (V × V)} {kvs : List (PyData × PyData)} {ps : List (Value × Value)}, Paired (E2 X.kk N H) es kvs → (kvs.all fun p => isKN p.1) = true → Paired (fun (e : V × V) (p : Value × Value) => RelV e.1 p.1 ∧ RelV e.2 p.2) es ps →
    ∃ (xs : List (NestedKey × Addr × V)) (ys : List (NestedKey × Addr × Value)), es = xs.map (fun x => (V.ref x.2.1, x.2.2)) ∧ xs.map (fun x => some x.1) = kvs.map (fun p => keyOf p.1) ∧ (∀ x ∈ xs, x.1.depth ≤ 8) ∧ KN xs ys ∧ (∀ (j : Nat) (k v : Value), ps[j]? = some (k, v) → ∃ kk b, ys[j]? = some (kk, b, v) ∧ k = .ref b) ∧ ∀ y ∈ ys, (nestedKind X.prog X.w).is s.heap y.1 y.2.1
  | [], [], _, _, _, .nil => ⟨[], [], rfl, rfl, (fun _ h => nomatch h), .nil, (fun j k v h => by simp at h), (fun _ h => nomatch h)⟩
  | e :: es, q :: kvs, p :: ps, .cons h t, hk, .cons r1 r2 => by
    rw [List.all_cons, Bool.and_eq_true] at hk
    obtain ⟨xs, ys, h1, h2, h3, h4, h5, h6⟩ := kn_keys I t hk.2 r2
    obtain ⟨b, kk, e1, e2, ek, hd, his⟩ := kn_key I hk.1 h.1 r1.1
    refine ⟨(kk, b, e.2) :: xs, (kk, b, p.2) :: ys, ?_, ?_, fun x hx => ?_, .cons ⟨rfl, rfl, r1.2⟩ h4, fun j k v hj => ?_, fun y hy => ?_⟩
    · rw [List.map_cons, ← h1, ← e1]
    · rw [List.map_cons, List.map_cons, h2, ek]
    · rcases List.mem_cons.mp hx with rfl | hx
      · exact hd
      · exact h3 x hx
    · cases j with
      | zero =>
        simp at hj
        subst hj
        exact ⟨kk, b, rfl, e2⟩
      | succ j => exact h5 j k v (by simpa using hj)
    · rcases List.mem_cons.mp hy with rfl | hy
      · exact his
      · exact h6 y hy
theorem mergeK_rel : ∀ {more : List (Key × V)} {kvm : List (PyData × PyData)} {ks : List (Key × V)} {kvs : List (PyData × PyData)}, Paired (E2 X.kk N H) (more.map fun p => (kV p.1, p.2)) kvm → Paired (E2 X.kk N H) (ks.map fun p => (kV p.1, p.2)) kvs →
    Paired (E2 X.kk N H) ((mergeK ks more).map fun p => (kV p.1, p.2)) (dMerge kvs kvm)
  | [], [], _, _, .nil, h => h
  | p :: more, q :: kvm, ks, kvs, .cons h t, h0 => mergeK_rel (more := more) (kvm := kvm) (ks := putK ks p.1 p.2) (kvs := dPut kvs q.1 q.2) t (putK_rel h.1 h.2 h0)
def mergeN (xs more : List (NestedKey × Addr × V)) : List (NestedKey × Addr × V) := more.foldl (fun acc p => putN acc p.1 p.2.1 p.2.2) xs
theorem mergeN_rel : ∀ {more : List (NestedKey × Addr × V)} {kvm : List (PyData × PyData)} {xs : List (NestedKey × Addr × V)} {kvs : List (PyData × PyData)}, Paired (E2 X.kk N H) (more.map fun x => (V.ref x.2.1, x.2.2)) kvm → more.map (fun x => some x.1) = kvm.map (fun p => keyOf p.1) →
    Paired (E2 X.kk N H) (xs.map fun x => (V.ref x.2.1, x.2.2)) kvs → xs.map (fun x => some x.1) = kvs.map (fun p => keyOf p.1) →
    Paired (E2 X.kk N H) ((mergeN xs more).map fun x => (V.ref x.2.1, x.2.2)) (dMerge kvs kvm) ∧ (mergeN xs more).map (fun x => some x.1) = (dMerge kvs kvm).map (fun p => keyOf p.1)
  | [], [], _, _, .nil, _, h, h' => ⟨h, h'⟩
  | p :: more, q :: kvm, xs, kvs, .cons h t, e, h0, h1 => by
    rw [List.map_cons, List.map_cons] at e
    obtain ⟨e1, e2⟩ := List.cons.inj e
    obtain ⟨g1, g2⟩ := putN_rel (K := X.kk) (N := N) (H := H) e1.symm h.1 h.2 h0 h1
    exact mergeN_rel (more := more) (kvm := kvm) (xs := putN xs p.1 p.2.1 p.2.2) (kvs := dPut kvs q.1 q.2) t e2 g1 g2
theorem mergeN_kn : ∀ {more : List (NestedKey × Addr × V)} {ys : List (NestedKey × Addr × Value)} {xs : List (NestedKey × Addr × V)} {zs : List (NestedKey × Addr × Value)}, KN more ys → KN xs zs → KN (mergeN xs more) (storedAllH zs ys)
  | _, _, _, _, .nil, h => h
  | p :: more, y :: ys, xs, zs, .cons h t, h0 => by
    obtain ⟨g1, g2, g3⟩ := h
    show KN (mergeN (putN xs p.1 p.2.1 p.2.2) more) (storedAllH (storedH zs y.1 y.2.1 y.2.2) ys)
    refine mergeN_kn t ?_
    rw [g1, g2]
    exact putN_kn g3 h0
theorem mergeN_deep : ∀ {more xs : List (NestedKey × Addr × V)}, (∀ x ∈ more, x.1.depth ≤ 8) → (∀ x ∈ xs, x.1.depth ≤ 8) → ∀ x ∈ mergeN xs more, x.1.depth ≤ 8
  | [], _, _, h => h
  | p :: more, xs, hm, h => mergeN_deep (xs := putN xs p.1 p.2.1 p.2.2) (fun x hx => hm x (List.mem_cons_of_mem _ hx)) (putN_deep h (hm p List.mem_cons_self))
theorem mergeN_len : ∀ (more xs : List (NestedKey × Addr × V)), (mergeN xs more).length ≤ xs.length + more.length
  | [], xs => by show xs.length ≤ xs.length + 0; omega
  | p :: r, xs => by
    have h1 := mergeN_len r (putN xs p.1 p.2.1 p.2.2)
    have h2 := putN_len (xs := xs) (k := p.1) (b := p.2.1) (v := p.2.2)
    show (mergeN (putN xs p.1 p.2.1 p.2.2) r).length ≤ _
    rw [List.length_cons]; omega
end
theorem cd_dict (hc : X.calm = true) (hu : X.A.units + 70 < cLine) : CallR X (.type "dict") (RnD X.kk fDict) := by
  intro pins s σ H xs us Q I r ⟨N, ds, d, ex, rp, hf, q⟩
  unfold fDict at hf
  split at hf
  · split at hf
    · rename_i ds kvs ep
      split at hf
      · rename_i hz
        cases hf
        rw [Bool.and_eq_true, decide_eq_true_eq] at hz
        obtain ⟨hk, hz⟩ := hz
        obtain ⟨v, rfl, h⟩ := rp1 rp
        obtain ⟨a, ls, rfl, hl, ra⟩ := h.lst
        obtain ⟨u, rfl, ru⟩ := vals1 r
        cases ru
        obtain ⟨its, rv, ⟨o, n, ho, hcl, hod, hd⟩, zz⟩ := I.list hl
        obtain ⟨Ts, ps, es, q1, q2, q3, q4, q5⟩ := pairs_at I ra ep rv
        have hlen : ps.length = kvs.length := by rw [← q2.length, q1.length]
        have PI : PairItems s.heap its.toArray (fun j => Ts[j]?.getD 0) ps := by
          refine ⟨by rw [q3]; simp [q4], fun j k v hj => ?_⟩
          obtain ⟨T, h1, h2⟩ := q5 j k v hj
          refine ⟨?_, by show PairAt s.heap (Ts[j]?.getD 0) k v; rw [h1]; exact h2⟩
          show its.toArray[j]? = some (.ref (Ts[j]?.getD 0))
          rw [List.getElem?_toArray, q3, List.getElem?_map, h1]; rfl
        have ok : PlainSeq "list" s.heap a its.toArray ∧ PairItems s.heap its.toArray (fun j => Ts[j]?.getD 0) ps := ⟨⟨o, n, ho, hcl, hod, hd⟩, PI⟩
        have hn := I.hok.fresh (Nat.le_refl s.heap.objs.size)
        unfold allK at hk
        rw [Bool.or_eq_true] at hk
        have hsys : (s.heap.objs.size == sysModules) = false := beq_eq_false_iff_ne.mpr (Ne.symm (Nat.ne_of_lt I.big))
        rcases hk with hk | hk
        · obtain ⟨ks, rs, e1, kv, hh⟩ := k1_keys q1 hk q2
          refine call_dict_pairs (knd := mixKind X.prog X.w) (kvs := rs) (PairArg.list a its.toArray _ ps) (I.ok.hd hc) ok ⟨?_, fun i key v hr => hh i key v hr⟩ (by rw [hlen]; exact hz) fun h' tk dd hk' => ?_
          · rw [← kv.length, hlen, ← q1.length, e1, List.length_map]
          · have hlk : ks.length = kvs.length := by rw [← q1.length, e1, List.length_map]
            obtain ⟨qo, es', ep', hq, g⟩ := id dd
            have hm := length_mergeK ks []
            rw [List.length_nil] at hm
            refine ⟨.ref s.heap.objs.size, _, I.laid (a := s.heap.objs.size) (o := .ext (PhiK X.kk s.heap.objs.size qo (mergeK [] ks))) (t' := tk) (fun b o e => hk' b o (fun h => nomatch h) e) (Nat.le_refl _) (phiK_ok ⟨by omega, hsys, hq, _, KV.merge kv .nil, dd⟩), rfl, ?_⟩
            refine vr_dct (K := X.kk) ex hn .dK (mergeK_rel (ks := []) (kvs := []) ?_ .nil) q
            rw [← e1]; exact q1
        · obtain ⟨xs, ys, e1, e2, e3, kn, hh, his⟩ := kn_keys I q1 hk q2
          refine call_dict_pairsH (knd := nestedKind X.prog X.w) (ps := ys) (PairArg.list a its.toArray _ ps) (I.ok.hd hc) (show X.A.in1.in1.units + 8 < cLine from by show X.A.units + 1 + 1 + 8 < cLine; omega) ok ⟨?_, fun i key v hr => hh i key v hr⟩ (fun h' hk' x hx => nestedKind_stays.stays (fun b o vs n e _ => hk' b o (Nat.ne_of_lt (Heap.lt_size e)) (fun h => nomatch h) e) (his x hx)) (by rw [hlen]; exact hz) fun h' tk dd hk' => ?_
          · rw [← kn.length, hlen, ← q1.length, e1, List.length_map]
          · have hlk : xs.length = kvs.length := by rw [← q1.length, e1, List.length_map]
            obtain ⟨qo, es', ep', hq, g1, g2, g3, _, g4⟩ := dd
            have hm := mergeN_len xs []
            rw [List.length_nil] at hm
            obtain ⟨m1, m2⟩ := mergeN_rel (X := X) (N := N) (H := H) (more := xs) (xs := []) (kvs := []) (by rw [← e1]; exact q1) e2 .nil rfl
            refine ⟨.ref s.heap.objs.size, _, I.laid (a := s.heap.objs.size) (o := .ext (PhiN X.kk s.heap.objs.size qo (mergeN [] xs))) (t' := tk) (fun b o e => hk' b o (fun h => nomatch h) e) (Nat.le_refl _) (phiN_ok ⟨by omega, hsys, mergeN_deep e3 (fun _ h => nomatch h), hq, _, mergeN_kn kn .nil, es', ep', g1, g2, g3, g4⟩), rfl, ?_⟩
            exact vr_dct (K := X.kk) ex hn (.dN m2) m1 q
      · cases hf
    · cases hf
  · cases hf

/-! ### x[k] = e, x of one's own -/
def sSetS (i : Nat) (cv ck : CE) : CS := fun F s => match cv F s with
  | some (.d y, s1) => match s1.env[i]? with
    | some (some (.d (.list _))) => match ck F s1 with
      | some (.d (.int k), s2) => match s2.env[i]? with
        | some (some (.d (.list ds))) => match ixN ds.length k with
          | some j => some (.nx, { s2 with env := s2.env.set i (some (.d (.list (ds.set j y)))) })
          | none => none
        | _ => none
      | _ => none
    | some (some (.d (.dict _))) => match ck F s1 with
      | some (.d k, s2) => match s2.env[i]? with
        | some (some (.d (.dict kvs))) => if dKey kvs k && decide (kvs.length < sizeLine) then some (.nx, { s2 with env := s2.env.set i (some (.d (.dict (dPut kvs k y)))) }) else none
        | _ => none
      | _ => none
    | _ => none
  | _ => none
theorem ss_setS {cv ck : CE} {f1 f2 : Bool} {tpos : Pos} (hu : X.A.units + 20 < cLine) (hN : X.N[i]? = some x) (hv : Vis X.env.scope x) (hm : M i = true) (he : PE X e (TX X.kk F M f1 cv)) (hk : PE X b (TX X.kk F M f2 ck)) (hd : (x == ("__debug__" : Str)) = false := by decide) (hcd : (x == ("__classdict__" : Str)) = false := by decide)
    (hs : swapsWith e (some (.Subscript (.Name x p) b tpos)) pos.line X.env = pure false := by rfl) : PS X (.Assign [.Subscript (.Name x p) b tpos] e pos) (TSt X.kk F M (sSetS i cv ck)) := by
  refine ⟨fun pins s σ H D I ⟨g, st, f, s', r, ev, q⟩ => ?_⟩
  have pv := pe_var (X := X) (pos := p) hN hv hd hcd
  refine wpAny_Assign_Subscript ?_ hs
  unfold sSetS at ev
  split at ev
  · rename_i y s1 e1
    refine thn (he.run pins s σ H (fun v H1 => ∃ g1, Rel X.kk M g1 s1 σ H1 ∧ Evo g g1 H H1 ∧ Rp X.kk g1.N H1 v y) I ⟨g, st, .d y, s1, r, e1, fun v g1 H1 r1 v1 rp _ => ⟨g1, r1, v1, rp⟩⟩) fun rr sh1 ⟨v, H1, I1, rv, g1, r1, v1, rp⟩ => ?_
    split at ev
    · rename_i ds0 e0
      obtain ⟨l0, xs0, ev0, hp0, hl0, ra0, _⟩ := slot_list r1 e0 hm
      refine thn (pv.run pins sh1 σ H1 (fun w H2 => w = .ref l0 ∧ H2 = H1) I1 ⟨_, ev0, rfl, rfl⟩) fun ou sh2 ⟨ov, H2, I2, ro, eo, eH⟩ => ?_
      subst eo
      rw [eH] at I2
      split at ev
      · rename_i k s2 e2
        refine thn (hk.run pins sh2 σ H1 (fun w H3 => ∃ g3, w = .int k ∧ Rel X.kk M g3 s2 σ H3 ∧ Evo g1 g3 H1 H3) I2 ⟨g1, s1, _, s2, r1, e2, fun w g3 H3 r3 v3 rp3 _ => ⟨g3, by cases rp3; rfl, r3, v3⟩⟩) fun iu sh3 ⟨iv, H3, I3, ri, g3, ei, r3, v3⟩ => ?_
        subst ei
        split at ev
        · rename_i ds e3
          split at ev
          · rename_i j e4
            cases ev
            obtain ⟨l, xs, ev1, hp, hl, ra, ww⟩ := slot_list r3 e3 hm
            rw [ev0] at ev1
            cases ev1
            have rv' : Rp X.kk g3.N H3 v y := v3.rp r1.wn rp
            have t := top_list (.inr ⟨i, hp⟩) hl trivial (ra.set rv' j)
            obtain ⟨r4, v4⟩ := ww (.lst (xs.set j v)) _ t
            exact thn (set_list pins sh3 σ H3 _ _ _ ou iu rr (fun H4 => D.nx σ H4) I3 ro ri rv ⟨l0, xs, k, j, rfl, rfl, hl, by rw [ra.length]; exact e4, q σ g3 _ r4 ((v1.trans v3).trans v4)⟩) fun _ sh4 ⟨H4, I4, q4⟩ => ⟨σ, H4, I4, q4⟩
          · cases ev
        · cases ev
      · cases ev
    · rename_i kvs0 e0
      obtain ⟨l0, ev0, hp0, t0, _⟩ := r1.owned e0 ⟨hm, rfl⟩
      refine thn (pv.run pins sh1 σ H1 (fun w H2 => w = .ref l0 ∧ H2 = H1) I1 ⟨_, ev0, rfl, rfl⟩) fun ou sh2 ⟨ov, H2, I2, ro, eo, eH⟩ => ?_
      subst eo
      rw [eH] at I2
      split at ev
      · rename_i k s2 e2
        refine thn (hk.run pins sh2 σ H1 (fun w H3 => ∃ g3, Rel X.kk M g3 s2 σ H3 ∧ Evo g1 g3 H1 H3 ∧ Rp X.kk g3.N H3 w k) I2 ⟨g1, s1, _, s2, r1, e2, fun w g3 H3 r3 v3 rp3 _ => ⟨g3, r3, v3, rp3⟩⟩) fun iu sh3 ⟨iv, H3, I3, ri, g3, r3, v3, rpk⟩ => ?_
        split at ev
        · rename_i kvs e3
          split at ev
          · rename_i hz
            cases ev
            rw [Bool.and_eq_true, decide_eq_true_eq] at hz
            obtain ⟨l, ev1, hp, t, ww⟩ := r3.owned e3 ⟨hm, rfl⟩
            rw [ev0] at ev1
            cases ev1
            have rv' : Rp X.kk g3.N H3 v y := v3.rp r1.wn rp
            obtain ⟨o, eo, ho⟩ := t.plain
            cases ro
            refine D_setItem hu I3 t.dat eo ho (.inr ⟨i, hp⟩) hz.1 rpk ri rv' rv hz.2 fun o' sh4 I4 dat => ?_
            obtain ⟨r4, v4⟩ := ww o' _ dat.top
            exact ⟨σ, _, I4, q σ g3 _ r4 ((v1.trans v3).trans v4)⟩
          · cases ev
        · cases ev
      · cases ev
    · cases ev
  · cases ev
end
end Ev
/-! Ev20: enumerate, zip, dicts walked. -/
namespace PySem
open Sem (wp)
set_option maxHeartbeats 1000000 in
theorem Ev.meets_enum1 {v : Value} {o : Obj} {H : Heap → Prop} (B : Begins v o H) :
    Meets (Builtin.«enumerate.__new__» ⟨[.type "enumerate", v], []⟩) (fun _ R s => H s.heap ∧
      R (.ok (.ret (.ref (s.heap.push o).objs.size))) { s with heap := (s.heap.push o).push { cls := .type "enumerate", data := .fields #[.none, .bool false, .ref s.heap.objs.size, rawInt 0, .none, .none] } }) :=
  .of_wp fun prog w A R s h => by
    obtain ⟨hp, g, d, tk, os⟩ := s; obtain ⟨h1, h⟩ := h
    have hsub := sub_enumerate
    have q1 : ∀ {A' : Around} {E : Value → Shared → Prop} {Q : Value → Shared → Prop}, Q (.ref hp.objs.size) ⟨hp.push o, g, d, tk, os⟩ → wpAny (model prog w) A' (pyIter v) Q E ⟨hp, g, d, tk, os⟩ :=
      fun q => B.iter prog w _ _ ⟨hp, g, d, tk, os⟩ _ h1 q
    wp_walk using q1
    refine wpAny_stack_any fun st => wpAny_pure ?_
    split
    · rename_i c _ _ _ _ _
      cases (c == Value.type "enumerate")
      · wp_walk using q1
        exact ⟨_, rfl, h⟩
      · wp_walk using q1
        exact ⟨_, rfl, h⟩
    · wp_walk using q1
      exact ⟨_, rfl, h⟩
theorem Ev.enum_begins1 {prog : Program} {w : World} {A : Around} {E : Value → Shared → Prop} {s : Shared} {v : Value} {o : Obj} {H : Heap → Prop} {Q : Value → Shared → Prop} (B : Begins v o H) (h1 : H s.heap)
    (h : ∀ h', IsEnum h' (s.heap.objs.size + 1) s.heap.objs.size 0 .none → h'.get? s.heap.objs.size = some o → h'.objs.size = s.heap.objs.size + 2 →
      (∀ b o, s.heap.get? b = some o → h'.get? b = some o) → Q (.ref (s.heap.objs.size + 1)) { s with heap := h' }) :
    wpAny (model prog w) A (call (.type "enumerate") [v]) Q E s := by
  refine callType_new F.called_enumerate (by decide) (F.typeCall_enumerate_1 _) (F.newCall_enumerate_1 _) (fun obj => F.args_object_init_2 obj _) F.entry_enumerate_new
    (Ev.meets_enum1 B) ⟨h1, ?_⟩
  have hz : (s.heap.push o).objs.size = s.heap.objs.size + 1 := Heap.size_push ..
  show _ ∧ _
  rw [hz]
  have he : IsEnum ((s.heap.push o).push { cls := .type "enumerate", data := .fields #[.none, .bool false, .ref s.heap.objs.size, rawInt 0, .none, .none] }) (s.heap.objs.size + 1) s.heap.objs.size 0 .none := by
    have := Heap.get?_push_size (s.heap.push o) (o := { cls := .type "enumerate", data := .fields #[.none, .bool false, .ref s.heap.objs.size, rawInt 0, .none, .none] }) rfl
    rw [hz] at this; exact this
  refine ⟨⟨_, he, rfl⟩, h _ he (Heap.get?_push_of_some _ (Heap.get?_push_size _ B.free)) (by rw [Heap.size_push, hz]) fun b o x => Heap.get?_push_of_some _ (Heap.get?_push_of_some _ x)⟩
end PySem
namespace Ev
open PySem PySem.Spec L2

/-! ### enumerate(tuple) -/
def IteT (K : PySem.W.Frag) (a : Addr) : It :=
  ⟨fun i H => ∃ (xs : List V) (x : V), SqT K H a xs ∧ xs[i]? = some x, fun i H v H' => ∃ T x, v = .ref T ∧ H T = none ∧ H' = upd H T (.tup [.int (i : Nat), x]) ∧ ∀ xs, SqT K H a xs → xs[i]? = some x, fun i H => ∃ xs : List V, SqT K H a xs ∧ xs.length ≤ i⟩
theorem turn_enumT {P : Program} {w : World} {K : PySem.W.Frag} {elts : List Expr} {kk : Nat} {tpos : Pos} (a e it : Addr) (items : Array Value) :
    Turn P w K (.Tuple elts kk tpos) (IteT K a) [e, it] e (fun i h => (∃ old, IsEnum h e it ((i : Nat) : Int) old) ∧ h.IsTupleIter it a i ∧ e ≠ it ∧ a ≠ it ∧ a ≠ e) where
  mem := by simp
  obj := fun i h st b hb => by
    obtain ⟨⟨old, he⟩, ⟨o, ho, hc, hd⟩, _⟩ := st
    have e' : b = e ∨ b = it := by simpa using hb
    rcases e' with z | z
    · rw [z]; exact ⟨_, he, fun v q => nomatch q⟩
    · rw [z]; exact ⟨o, ho, fun v q => by rw [hd] at q; cases q⟩
  keep := fun i h h' st k => let ⟨⟨old, he⟩, hi, hne⟩ := st; ⟨⟨old, k e (by simp) _ he⟩, hi.at fun o q => k it (by simp) o q, hne⟩
  item := by
    intro X hP hw hK hc i pins s σ H E I hf st hg
    subst hP hw hK
    obtain ⟨⟨old, he⟩, hit, hne, hai, hae⟩ := st
    obtain ⟨xs, x, hq, hx⟩ := hg
    obtain ⟨its, rv, p, hz⟩ := I.tuple hq
    obtain ⟨u, hu, ru⟩ := rv.get hx
    have hel : e < s.heap.objs.size := Heap.lt_size he
    have hil : it < s.heap.objs.size := by obtain ⟨_, q, _⟩ := hit; exact Heap.lt_size q
    have pt : s.heap.IsTuple a its.toArray := p
    refine wpAny_pyNext_enum_itemD (Draws.tuple (prog := X.prog) (w := X.w) (A := X.A.in1) (show X.A.in1.handled = none from I.ok.hd hc) it a hai its.toArray) he ⟨hit, pt⟩ (by simp; exact (List.getElem?_eq_some_iff.mp hu).1) hne (by simp; exact ⟨hne, Ne.symm hae⟩) fun u' h' tk hu' ho hit' hT hsz hk => ?_
    have eu : u' = u := by
      have e1 : its.toArray[i]? = some u' := hu'
      rw [List.getElem?_toArray, hu] at e1
      exact (Option.some.inj e1).symm
    subst eu
    refine ⟨_, rfl, wpAny_letOwnedTupleGo_enum (s := { s with heap := h', toks := tk + 1 }) ho fun h'' he' sb => ?_⟩
    have hT2 : h''.get? s.heap.objs.size = some { cls := .type "tuple", data := .seq #[.int i tk, u'] } := (sb.2 _ (Nat.ne_of_gt hel)).trans hT
    have new : ObjOk X.prog X.w (upd H s.heap.objs.size (.tup [.int (i : Nat), x])) h'' s.heap.objs.size (.tup [.int (i : Nat), x]) :=
      ⟨by show 2 ≤ sizeLine; decide, [.int i tk, u'], .cons ⟨_, rfl⟩ (.cons ru .nil), ⟨_, hT2, rfl, _, rfl⟩⟩
    have I1 : Inv X pins σ (upd H s.heap.objs.size (.tup [.int (i : Nat), x])) { s with heap := h'', toks := tk + 1 } :=
      I.turnedNew (ch := [e, it]) (fun b ob hb q => (sb.2 b (fun z => hb (by simp [z]))).trans (hk b ob (fun z => hb (by simp [z])) (fun z => hb (by simp [z])) q)) hf (Nat.le_refl _) new
    refine ⟨.ref s.heap.objs.size, _, I1, rfl, ⟨_, x, rfl, I.hok.fresh (Nat.le_refl _), rfl, fun ys hy => by rw [I.tuple_inj hy hq]; exact hx⟩, ⟨⟨u', ?_⟩, hit'.1.at fun o q => (sb.2 it (Ne.symm hne)).trans q, hne, hai, hae⟩, fun b hb => ?_⟩
    · have e1 : ((i + 1 : Nat) : Int) = (i : Int) + 1 := by omega
      rw [e1]; exact he'
    · have hb' : b < s.heap.objs.size := by
        have e' : b = e ∨ b = it := by simpa using hb
        rcases e' with z | z
        · rw [z]; exact hel
        · rw [z]; exact hil
      rw [upd_ne (Nat.ne_of_lt hb')]
      exact (hf b hb).1
  done := by
    intro X hP hw hK hc i pins s σ H E I hf st hg
    subst hP hw hK
    obtain ⟨⟨old, he⟩, hit, hne, hai, hae⟩ := st
    obtain ⟨xs, hq, hx⟩ := hg
    obtain ⟨its, rv, p, hz⟩ := I.tuple hq
    obtain ⟨f0, f1, f2, f3, f4, f5⟩ := hf it (by simp)
    have hl := rv.length
    have pt : s.heap.IsTuple a its.toArray := p
    have hT : s.TypeIs (.ref e) "enumerate" := ⟨_, he, rfl⟩
    unfold pyNext
    refine wpAny_bind (wpAny_attempt (wpAny_callSpecial?_slot (name := Str.ofString "__next__") hT F.slot_enumerate_next
      (wpAny_call_entry F.slot_enumerate_next hT F.entry_enumerate_next ?_ (F.args_enumerate_next_1 _))))
    show wpAny _ _ (field (.ref e) 2 >>= _) _ _ _
    refine wpAny_bind (wpAny_field he rfl (x := .ref it) rfl ?_)
    refine wpAny_bind (wpAny_nextOf_tuple_end (I.ok.hd hc) hit pt (by simp; omega) fun h' x he' hx' => ?_)
    obtain ⟨o, ho, hc'⟩ := hx'
    refine wpAny_bind (wpAny_isInstance (T := "StopIteration") (b := true) ⟨o, ho, hc'⟩ isSubtype_stop ?_)
    exact wpAny_pure ⟨rfl, I.turned (t' := s.toks) (fun b o hb q => he' b o hb q) f0 f1 f3 f4 f5⟩
  self := fun A i s Q E st h => let ⟨⟨_, he⟩, _⟩ := st; wpAny_pyIter_enum he h
def iEnumA (K : PySem.W.Frag) (ta : TA) : TI := fun σ H R => ta σ H fun vs H1 => ∃ a xs, vs = [.ref a] ∧ ((SqL K H1 a xs ∧ R (Ite K a) H1) ∨ (SqT K H1 a xs ∧ R (IteT K a) H1))
theorem pi_enumA {X : Cx} {e : Expr} {ta : TA} {p pos tpos : Pos} {elts : List Expr} {kk : Nat} (hg : Gl X "enumerate") (hm : X.mg "enumerate" = none) (ha : PA X [e] ta) (hs : starEach [e] X.env = [(false, eval e X.env)] := by rfl) :
    PI X (.Tuple elts kk tpos) (.Call (.Name "enumerate" p) [e] [] pos) (iEnumA X.K ta) := by
  refine ⟨fun pins s σ H R I h => ?_⟩
  refine PyProof.Rows.Call_ (ld_blt I hg hm PyProof.Rows.boot_enumerate (PyProof.Rows.callWith_type1 (thn (ha.run pos pins s σ H _ I h) fun us s1 ⟨vs, H1, I1, r1, q1⟩ => ?_) hs rfl))
  obtain ⟨a, xs, ex, q⟩ := q1
  subst ex
  cases r1 with
  | cons r rr =>
    cases rr
    cases r
    have fp : ∀ b ∈ [s1.heap.objs.size + 1, s1.heap.objs.size], FpOk X pins H1 b := fun b hb => by
      have e' : b = s1.heap.objs.size + 1 ∨ b = s1.heap.objs.size := by simpa using hb
      have hle : s1.heap.objs.size ≤ b := by
        rcases e' with z | z
        · rw [z]; exact Nat.le_add_right _ _
        · rw [z]; exact Nat.le_refl _
      exact I1.fpOk hle (I1.hok.fresh hle)
    rcases q with ⟨hq, q⟩ | ⟨hq, q⟩
    · obtain ⟨its, rv, p', hz⟩ := I1.list hq
      refine call_enumerate_list p'.isList fun h' he hit hsz hk => wpAny_pyIter_enum he ?_
      have I2 : Inv X pins σ H1 { s1 with heap := h' } := I1.kept (t' := s1.toks) hk
      exact ⟨s1.heap.objs.size + 1, [s1.heap.objs.size + 1, s1.heap.objs.size], _, _, H1, rfl, I2, turn_enum a (s1.heap.objs.size + 1) s1.heap.objs.size, ⟨⟨.none, he⟩, hit, Nat.succ_ne_self _⟩, fp, q⟩
    · obtain ⟨its, rv, p', hz⟩ := I1.tuple hq
      have pt : s1.heap.IsTuple a its.toArray := p'
      have hal : a < s1.heap.objs.size := by obtain ⟨_, q, _⟩ := id pt; exact Heap.lt_size q
      refine Ev.enum_begins1 (begins_tuple a its.toArray) pt fun h' he ho hsz hk => wpAny_pyIter_enum he ?_
      have I2 : Inv X pins σ H1 { s1 with heap := h' } := I1.kept (t' := s1.toks) hk
      exact ⟨s1.heap.objs.size + 1, [s1.heap.objs.size + 1, s1.heap.objs.size], _, _, H1, rfl, I2, turn_enumT a (s1.heap.objs.size + 1) s1.heap.objs.size its.toArray, ⟨⟨.none, he⟩, ⟨_, ho, rfl, rfl⟩, Nat.succ_ne_self _, Nat.ne_of_lt hal, Nat.ne_of_lt (Nat.lt_succ_of_lt hal)⟩, fp, q⟩

section
variable {X : Cx} {M : Nat → Bool} {F : Fn} {tg a b c e : Expr} {es : List Expr} {pos p tpos : Pos}
theorem walk_enumT {K : KK} {g : G} {H : Hp} {a : Addr} {xs : List V} {ds : List PyData} (wn : ∀ b, g.W b → g.N b) (hr : SqT K.k H a xs) (r : RpA K g.N H xs ds) : Walk K g H (IteT K.k a) (pairUp 0 ds) := fun g2 H2 v _ _ => by
  have hr2 : SqT K.k H2 a xs := v.seq hr
  have r2 := v.rpA wn r
  refine ⟨fun i d e => ?_, ⟨xs, hr2, by rw [pairUp_length, r.length]; exact Nat.le_refl _⟩⟩
  obtain ⟨d', e', rfl⟩ := pairUp_get e
  obtain ⟨x, ex, rx⟩ := r2.get e'
  refine ⟨⟨xs, x, hr2, ex⟩, fun y H3 ⟨T, x', e1, hT, e2, e3⟩ => ?_⟩
  subst e1 e2
  have e4 := e3 xs hr2
  rw [ex] at e4
  cases e4
  rw [Nat.zero_add]
  exact pair_at hT (.int _) rx
/-- enumerate(..) -/
def icEnum (o : Opd) : IC := fun F s => match evOps [o] F s with
  | some ([d], s', l) => match itemsOf d with
    | some ds => some (pairUp 0 ds, s', l)
    | none => none
  | _ => none
theorem it_enum {o : Opd} {elts : List Expr} {kk : Nat} (hg : Gl X "enumerate") (hm : X.mg "enumerate" = none) (ha : PE X a (TP X.kk F M o)) (hs : starEach [a] X.env = [(false, eval a X.env)] := by rfl) :
    PI X (.Tuple elts kk tpos) (.Call (.Name "enumerate" p) [a] [] pos) (TIX X.kk F M (icEnum o)) :=
  piI (pi_enumA hg hm (ops_cons ha ops_nil hs) hs) fun σ H R ⟨g, s, ds, s', l, r, ev, q⟩ => by
    unfold icEnum at ev
    split at ev
    · rename_i d s1 l1 e1
      split at ev
      · rename_i ds1 e2
        cases ev
        refine ⟨g, s, _, s', l, r, e1, fun vs g1 H1 r1 v1 rp L => ?_⟩
        cases rp with
        | cons rp1 rp2 =>
          cases rp2
          rcases itemsOf_cases e2 with rfl | rfl
          · obtain ⟨a, xs, rfl, hr, ra, nw⟩ := rp1.seqL r1.wn
            exact ⟨a, xs, rfl, .inl ⟨hr, q _ g1 H1 r1 v1 L (walk_enum r1.wn nw ra)⟩⟩
          · obtain ⟨a, xs, rfl, hr, ra⟩ := rp1.seqT
            exact ⟨a, xs, rfl, .inr ⟨hr, q _ g1 H1 r1 v1 L (walk_enumT r1.wn hr ra)⟩⟩
      · cases ev
    · cases ev

/-! ### zip -/
def zipD : List PyData → List PyData → List PyData
  | x :: xs, y :: ys => .tuple [x, y] :: zipD xs ys
  | _, _ => []
theorem zipD_get : ∀ {xs ys : List PyData} {i : Nat} {d : PyData}, (zipD xs ys)[i]? = some d → ∃ x y, xs[i]? = some x ∧ ys[i]? = some y ∧ d = .tuple [x, y]
  | [], _, _, _, e => by simp [zipD] at e
  | _ :: _, [], _, _, e => by simp [zipD] at e
  | x :: xs, y :: ys, 0, d, e => by simp [zipD] at e; exact ⟨x, y, rfl, rfl, e.symm⟩
  | x :: xs, y :: ys, i + 1, d, e => by
    obtain ⟨x', y', h1, h2, h3⟩ := zipD_get (xs := xs) (ys := ys) (i := i) (d := d) (by simpa [zipD] using e)
    exact ⟨x', y', by simpa using h1, by simpa using h2, h3⟩
theorem zipD_length : ∀ (xs ys : List PyData), (zipD xs ys).length = min xs.length ys.length
  | [], ys => by simp [zipD]
  | _ :: _, [] => by simp [zipD]
  | x :: xs, y :: ys => by simp [zipD, zipD_length xs ys]
def icZip (o o' : Opd) : IC := fun F s => match evOps [o, o'] F s with
  | some ([.list xs, .list ys], s', l) => some (zipD xs ys, s', l)
  | some ([.tuple xs, .tuple ys], s', l) => some (zipD xs ys, s', l)
  | _ => none
theorem it_zip {o o' : Opd} {elts : List Expr} {kk : Nat} (hg : Gl X "zip") (hm : X.mg "zip" = none) (ha : PE X a (TP X.kk F M o)) (hb : PE X b (TP X.kk F M o')) (hs : starEach [a, b] X.env = (false, eval a X.env) :: starEach [b] X.env := by rfl) (hs2 : starEach [b] X.env = (false, eval b X.env) :: starEach [] X.env := by rfl) (hpl : (backTo pos (starEach [b] X.env)).any (·.1) = false := by rfl) :
    PI X (.Tuple elts kk tpos) (.Call (.Name "zip" p) [a, b] [] pos) (TIX X.kk F M (icZip o o')) :=
  piI (RZ.pi_zipA hg hm (ops_cons ha (ops_cons hb ops_nil hs2) hs) hs hpl) fun σ H R ⟨g, s, ds, s', l, r, ev, q⟩ => by
    unfold icZip at ev
    split at ev
    · rename_i xs ys s1 l1 e1
      cases ev
      refine ⟨g, s, _, s', l, r, e1, fun vs g1 H1 r1 v1 rp L => ?_⟩
      cases rp with
      | cons rp1 rp2 =>
        cases rp2 with
        | cons rp2 rp3 =>
          cases rp3
          obtain ⟨a, vs, rfl, hr, ra, nw⟩ := rp1.seqL r1.wn
          obtain ⟨b, ws, rfl, hr', ra', nw'⟩ := rp2.seqL r1.wn
          refine ⟨a, b, vs, ws, rfl, .inl ⟨hr, hr', q _ g1 H1 r1 v1 L fun g2 H2 v wn ex => ?_⟩⟩
          have h2 := nw g2 H2 v
          have h2' := nw' g2 H2 v
          have q1 := v.rpA r1.wn ra
          have q2 := v.rpA r1.wn ra'
          refine ⟨fun i d e => ?_, ⟨vs, ws, h2, h2', by rw [zipD_length, ← q1.length, ← q2.length]; omega⟩⟩
          obtain ⟨dx, dy, e1, e2, rfl⟩ := zipD_get e
          obtain ⟨x, ex, rx⟩ := q1.get e1
          obtain ⟨y, ey, ry⟩ := q2.get e2
          refine ⟨⟨vs, ws, x, y, h2, h2', ex, ey⟩, fun z H3 ⟨T, x', y', e1, hT, e2, e3, e4⟩ => ?_⟩
          subst e1 e2
          have e5 := e3 vs h2
          have e6 := e4 ws h2'
          rw [ex] at e5
          rw [ey] at e6
          cases e5
          cases e6
          exact pair_at hT rx ry
    · rename_i xs ys s1 l1 e1
      cases ev
      refine ⟨g, s, _, s', l, r, e1, fun vs g1 H1 r1 v1 rp L => ?_⟩
      cases rp with
      | cons rp1 rp2 =>
        cases rp2 with
        | cons rp2 rp3 =>
          cases rp3
          obtain ⟨a, vs, rfl, hr, ra⟩ := rp1.seqT
          obtain ⟨b, ws, rfl, hr', ra'⟩ := rp2.seqT
          refine ⟨a, b, vs, ws, rfl, .inr ⟨hr, hr', q _ g1 H1 r1 v1 L fun g2 H2 v wn ex => ?_⟩⟩
          have h2 := v.seq hr
          have h2' := v.seq hr'
          have q1 := v.rpA r1.wn ra
          have q2 := v.rpA r1.wn ra'
          refine ⟨fun i d e => ?_, ⟨vs, ws, h2, h2', by rw [zipD_length, ← q1.length, ← q2.length]; omega⟩⟩
          obtain ⟨dx, dy, e1, e2, rfl⟩ := zipD_get e
          obtain ⟨x, ex, rx⟩ := q1.get e1
          obtain ⟨y, ey, ry⟩ := q2.get e2
          refine ⟨⟨vs, ws, x, y, h2, h2', ex, ey⟩, fun z H3 ⟨T, x', y', e1, hT, e2, e3, e4⟩ => ?_⟩
          subst e1 e2
          have e5 := e3 vs h2
          have e6 := e4 ws h2'
          rw [ex] at e5
          rw [ey] at e6
          cases e5
          cases e6
          exact pair_at hT rx ry
    · cases ev
end

/-! ### the keys of a dict -/
def ItK (a : Addr) (o : HO) (ents : List (V × V)) : It :=
  ⟨fun i H => H a = some o ∧ i < ents.length, fun i H x H' => H' = H ∧ ∃ p, ents[i]? = some p ∧ x = p.1, fun i H => H a = some o ∧ ents.length ≤ i⟩
theorem turn_K {X : Cx} {tg : Expr} {a it : Addr} {o : HO} {es : Array DictEntry} {ep : Nat} {ents : List (V × V)} (P : PinD a o es ep ents) : Turn X.prog X.w X.K tg (ItK a o ents) [it] it (fun i h => h.IsKeyIter it a i es.size ep) where
  mem := by simp
  obj := fun i h st b hb => by
    have e : b = it := by simpa using hb
    subst e
    obtain ⟨oi, e, c, dd⟩ := st
    exact ⟨oi, e, fun v z => by rw [dd] at z; cases z⟩
  keep := fun i h h' st k => st.at fun oi e => k it (by simp) oi e
  item := by
    intro Y hP hw hK hc i pins s σ H E I hf st hg
    rw [← hP, ← hw]
    obtain ⟨hd, hi⟩ := hg
    obtain ⟨f0, f1, f2, f3, f4, f5⟩ := hf it (by simp)
    have hi' : i < es.size := by rw [P.size]; exact hi
    refine wpAny_pyNext_keys_item_raw st (P.at' _ _ _ _ _ I hd) hi' fun h' st' sb => ?_
    have I1 : Inv Y pins σ H { s with heap := h' } := I.turned (t' := s.toks) (fun b ob hb e => (sb.2 b hb).trans e) f0 f1 f3 f4 f5
    obtain ⟨oi, e, c, dd⟩ := id st'
    obtain ⟨p, hp1, hp2, _⟩ := P.rel i hi'
    exact ⟨es[i].key, rfl, go_of (s := { s with heap := h' }) e c dd (by decide) ⟨p.1, H, I1, hp2, ⟨rfl, p, hp1, rfl⟩, st', fun b hb => (hf b hb).1⟩⟩
  done := by
    intro Y hP hw hK hc i pins s σ H E I hf st hg
    rw [← hP, ← hw]
    obtain ⟨hd, hi⟩ := hg
    obtain ⟨f0, f1, f2, f3, f4, f5⟩ := hf it (by simp)
    exact wpAny_pyNext_keys_end_raw (I.ok.hd hc) st (P.at' _ _ _ _ _ I hd) (by rw [P.size]; exact hi) fun h' eb => ⟨rfl, I.turned (t' := s.toks) (fun b ob hb e => eb b ob hb e) f0 f1 f3 f4 f5⟩
  self := fun A i s Q E st h => by
    refine wpAny_pyIter_slot st.typeIs F.slot_dict_keyiterator_iter (wpAny_call_entry F.slot_dict_keyiterator_iter st.typeIs F.entry_dict_keyiterator_iter ?_ (F.args_dict_keyiterator_iter_1 _))
    show wpAny _ _ (ret (.ref it)) _ _ s
    exact wpAny_pure ⟨_, rfl, "dict_keyiterator", _, st.typeIs, F.slot_dict_keyiterator_next.lookup, h⟩
end Ev
/-! Ev21: dict comprehensions. -/
namespace Ev
open PySem PySem.Spec L2 PyProof.Rows
section
variable {X : Cx}
def newO (K : KK) (D : Addr) : HO := .ext (PhiK K D { cls := .type "dict", data := .dict #[] } [])
/-- {k: v for target in iter if ..}: D the new dict -/
def tDcG (K : KK) (wi : TI) (g : TG) (tt : TT) (tk tv : TE) (vs : List Nat) : TE := fun σ H Q => wi σ H fun J H1 => ∀ D, H1 D = none → ∃ W : Nat → Nat → Hp → Prop, (∃ m, W 0 m (upd H1 D (newO K D))) ∧ ∀ i m H, W i m H →
  (J.stop i H ∧ Q (.ref D) H) ∨ (J.go i H ∧ ∃ Nx : Hp → Prop, (∀ H', Nx H' → ∃ m', m' < m ∧ W (i + 1) m' H') ∧ ∀ x H', J.yld i H x H' → g x (wipe σ vs) H' fun σ2 H2 => wipe σ2 vs = wipe σ vs ∧ tt σ2 H2 fun b H3 =>
    if b = true then tk σ2 H3 fun y H4 => tv σ2 H4 fun z H5 => ∃ N kvs k d, N D ∧ DAt K N H5 D kvs ∧ dKey kvs k = true ∧ Rp K N H5 y k ∧ Rp K N H5 z d ∧ kvs.length < sizeLine ∧ ∀ o', DAt K N (upd H5 D o') D (dPut kvs k d) → Nx (upd H5 D o') else Nx H3)
theorem dcg_core {pins : List (Addr × Obj)} {s : Shared} {σ : L2.St} {H : Hp} {Q : VK} {kx vx tg iter : Expr} {ifs : List Expr} {scope : Scope} {own : List (Str × Nat)} {pos pos' : Pos} {wi : TI} {g : TG} {tt : TT} {tk tv : TE} {use : Option (Value → Sem Unit)} {Qf : Value → Shared → Prop}
    (hc : X.calm = true) (hN : X.N.Nodup) (I : L2.Inv X pins σ H s) (hi : PI X tg iter wi) (ok : BlkOk X.N X.env.scope scope own)
    (hg : ∀ (s : Shared) (H : Hp) (C : Addr) (cl : List (Str × Addr)) (fp : List Addr), PG (X.blk s H scope (compEnvC scope cl C X.env) fp) tg g) (ht : ∀ (s : Shared) (H : Hp) (C : Addr) (cl : List (Str × Addr)) (fp : List Addr), PTs (X.blk s H scope (compEnvC scope cl C X.env) fp) ifs tt)
    (hu : X.A.units + 20 < cLine) (hk : ∀ (s : Shared) (H : Hp) (C : Addr) (cl : List (Str × Addr)) (fp : List Addr), PE (X.blk s H scope (compEnvC scope cl C X.env) fp) kx tk)
    (he : ∀ (s : Shared) (H : Hp) (C : Addr) (cl : List (Str × Addr)) (fp : List Addr), PE (X.blk s H scope (compEnvC scope cl C X.env) fp) vx tv) (hs : ∀ x, foldedSetIterable iter X.env x = pure x)
    (h : tDcG X.kk wi g tt tk tv (own.map (·.2)) σ H Q)
    (hEnd : ∀ D C s' m H', L2.Inv X pins σ H' s' → Q (.ref D) H' → s'.heap.Ns C m → FpOk X pins H' C → compPost (model X.prog X.w) X.A X.xe use Qf (.ref D) C (.ok .next) s') :
    wpAny (model X.prog X.w) X.A (comprehension (.DictComp kx vx [⟨tg, iter, ifs, 0⟩] scope pos) scope X.env pos' newDict false (eval iter X.env) use) Qf X.xe s := by
  have hfree : ∀ y ∈ scope.names, y.2 = .free → ∃ c, X.env.cells.lookup y.1 = some c := fun y hy e => by
    rcases ok.free y hy e with k | k
    · exact I.ok.has _ (.inl k)
    · exact I.ok.has _ (.inr k)
  refine wpAny_comprehension_free (use := use) rfl hs (closure_ok hfree) ok.kind (fun y hy e => by rw [ok.uniq y hy, e])
    (thn (hi.run pins s σ H _ I h) fun xv v1 hx => thn hx fun itv v2 h2 => ?_)
  obtain ⟨it, fp, tn, J, K2, e, J2, T, st2, f2, q⟩ := h2
  subst e
  refine wpAny_newObj_type (newEnv_comp ?_)
  generalize hD : v2.heap.objs.size = D
  have hDno : K2 D = none := J2.hok.fresh (Nat.le_of_eq hD)
  obtain ⟨W, ⟨mm0, ww0⟩, turnW⟩ := q D hDno
  -- the new list
  generalize hs3 : ({ v2 with heap := v2.heap.push { cls := .type "dict", data := .dict #[] } } : Shared) = u3
  have J3 : L2.Inv X pins σ (upd K2 D (newO X.kk D)) u3 := by
    rw [← hs3]
    refine J2.laid (t' := v2.toks) (fun b o e => Heap.get?_push_of_some _ e) (Nat.le_of_eq hD) ?_
    subst hD
    exact phiK_ok ⟨Nat.zero_le _, beq_eq_false_iff_ne.mpr (Ne.symm (Nat.ne_of_lt J2.big)), Heap.get?_push_size _ rfl, [], .nil, Heap.DictOf.new _⟩
  have h3 : u3.heap = v2.heap.push { cls := .type "dict", data := .dict #[] } := by rw [← hs3]
  have szW : ∀ b ∈ fp, b < v2.heap.objs.size := fun b hb => by
    obtain ⟨o, e, _⟩ := T.obj _ _ st2 b hb
    exact Heap.lt_size e
  have ff3 : ∀ b ∈ fp, FpOk X pins (upd K2 D (newO X.kk D)) b ∧ b < u3.heap.objs.size := fun b hb => by
    have hlt := szW b hb
    refine ⟨⟨?_, (f2 b hb).2⟩, by rw [h3, Heap.size_push]; exact Nat.lt_succ_of_lt hlt⟩
    rw [upd_ne (by rw [← hD]; exact Nat.ne_of_lt hlt)]
    exact (f2 b hb).1
  have su3 : tn 0 u3.heap := T.keep _ _ _ st2 fun b _ o e => by rw [h3]; exact Heap.get?_push_of_some _ e
  have J4 := block_start J3 ok hN ff3
  have pg := hg u3 (upd K2 D (newO X.kk D)) u3.heap.objs.size (cellsFrom (u3.heap.objs.size + 1) scope.names (cloFrom X.env.cells scope.names [])) fp
  have pt := ht u3 (upd K2 D (newO X.kk D)) u3.heap.objs.size (cellsFrom (u3.heap.objs.size + 1) scope.names (cloFrom X.env.cells scope.names [])) fp
  have pk := hk u3 (upd K2 D (newO X.kk D)) u3.heap.objs.size (cellsFrom (u3.heap.objs.size + 1) scope.names (cloFrom X.env.cells scope.names [])) fp
  have pe := he u3 (upd K2 D (newO X.kk D)) u3.heap.objs.size (cellsFrom (u3.heap.objs.size + 1) scope.names (cloFrom X.env.cells scope.names [])) fp
  show codeAny _ _ (.compStart (.DictComp kx vx [⟨tg, iter, ifs, 0⟩] scope pos) 0 (.ref it) (.ref D) (compEnvC scope (cellsFrom (u3.heap.objs.size + 1) scope.names (cloFrom X.env.cells scope.names [])) u3.heap.objs.size X.env)) (compPost (model X.prog X.w) X.A X.xe use Qf (.ref D) u3.heap.objs.size) { u3 with heap := pushCells (u3.heap.push { cls := .type "dict", data := .dict #[] }) scope.names }
  have nofp : ∀ b ∈ fp, (upd K2 D (newO X.kk D)) b = none := fun b hb => (ff3 b hb).1.1
  generalize hcE : compEnvC scope (cellsFrom (u3.heap.objs.size + 1) scope.names (cloFrom X.env.cells scope.names [])) u3.heap.objs.size X.env = ce at J4 pg pt pk pe ⊢
  have cLo : ce.locals = u3.heap.objs.size := by subst hcE; rfl
  generalize hH3 : upd K2 D (newO X.kk D) = G3 at J3 J4 pg pt pk pe ww0 nofp ff3
  generalize hs4 : ({ u3 with heap := pushCells (u3.heap.push { cls := .type "dict", data := .dict #[] }) scope.names } : Shared) = u4 at J4 ⊢
  have su4 : tn 0 u4.heap := T.keep _ _ _ su3 fun b _ o e => by rw [← hs4]; exact pushCells_keeps _ _ _ _ (Heap.get?_push_of_some _ e)
  have statW : ∀ {σ' : L2.St} {H' : Hp} {s' : Shared}, L2.Inv (X.blk u3 G3 scope ce fp) [] σ' H' s' → (∀ b ∈ fp, H' b = none) → ∀ b ∈ fp, FpOk (X.blk u3 G3 scope ce fp) [] H' b := fun {σ' H' s'} I' hn b hb =>
    ⟨hn b hb, (I'.ok.exf b hb).1, I'.ok.exfs b hb, .inl hb, fun x c e => (I'.ok.exf b hb).2 x c e, fun p hp => absurd (show p ∈ ([] : List (Addr × Obj)) ++ [] from hp) (by simp)⟩
  have loop : codeAny (model X.prog X.w) X.A (.compLoop (.DictComp kx vx [⟨tg, iter, ifs, 0⟩] scope pos) 0 (.ref it) (.ref D) ce) (compPost (model X.prog X.w) X.A X.xe use Qf (.ref D) u3.heap.objs.size) u4 := by
    refine compLoop_anyD (fun n s' => ∃ i H', L2.Inv (X.blk u3 G3 scope ce fp) [] (wipe σ (own.map (·.2))) H' s' ∧ tn i s'.heap ∧ (∀ b ∈ fp, H' b = none) ∧ W i n H') ?_ mm0 ⟨0, G3, J4, su4, nofp, ww0⟩
    rintro n t5 ⟨i, G5, Jv, su5, nn5, w5⟩
    rcases turnW i n G5 w5 with ⟨stop, qq⟩ | ⟨go, Nx, hNn, step⟩
    · have td := T.done (X.blk u3 G3 scope ce fp) rfl rfl rfl hc i [] t5 _ G5 (fun _ _ => False) Jv (statW Jv nn5) su5 stop
      refine thnF td fun r t6 ⟨hr, Jw⟩ => ?_
      subst hr
      -- back in the def's context
      have Jx : L2.Inv X pins σ G5 t6 := J3.call' (ch := fp) Jw.os Jw.base Jw.hok Jw.bare fun b hb => ⟨(ff3 b hb).1.2.2.2.1, (ff3 b hb).1.2.1, (ff3 b hb).1.2.2.2.2.1, (ff3 b hb).1.2.2.2.2.2⟩
      have nC : G5 u3.heap.objs.size = none := by
        have z : G5 ce.locals = none := Jw.free
        rw [cLo] at z
        exact z
      obtain ⟨m, hn, _⟩ := Jw.loc
      have hn : t6.heap.Ns ce.locals m := hn
      rw [cLo] at hn
      exact hEnd D u3.heap.objs.size t6 m G5 Jx qq hn (J3.fpOk (Nat.le_refl _) nC)
    · have ti := T.item (X.blk u3 G3 scope ce fp) rfl rfl rfl hc i [] t5 _ G5 (fun _ _ => False) Jv (statW Jv nn5) su5 go
      refine thnF ti fun r t6 ⟨u, hr, h6⟩ => ?_
      subst hr
      refine thnF h6 fun _ t7 ⟨x, G7, Jx, r7, y7, su7, nn7⟩ => ?_
      have I7' := Jx.pinned (statW Jx nn7) (T.obj _ _ su7)
      refine thnF (pg.run _ t7 _ G7 x u _ I7' r7 (step x G7 y7)) fun _ t8 ⟨σ8, G8, Jy, hw8, q8⟩ => ?_
      refine thnF (pt.run _ t8 σ8 G8 _ Jy q8) fun b t9 ⟨G9, Jz, q9⟩ => ?_
      -- the turn's end
      have finW : ∀ {s' : Shared} {H' : Hp}, L2.Inv (X.blk u3 G3 scope ce fp) ([] ++ pinsAt fp t7.heap) σ8 H' s' → Nx H' → ∃ m, m < n ∧ ∃ i H', L2.Inv (X.blk u3 G3 scope ce fp) [] (wipe σ (own.map (·.2))) H' s' ∧ tn i s'.heap ∧ (∀ b ∈ fp, H' b = none) ∧ W i m H' := fun {s' H'} I' nx => by
        obtain ⟨m', hm, wq⟩ := hNn H' nx
        have pinQ : ∀ b ∈ fp, ∀ o, t7.heap.get? b = some o → s'.heap.get? b = some o ∧ H' b = none := fun b hb o e =>
          let z := I'.pin (b, o) (List.mem_append_right _ (List.mem_append_right _ (mem_pinsAt hb e)))
          ⟨z.1, z.2.1⟩
        have hl : (wipe σ (own.map (·.2))).length = σ8.length := by rw [← hw8, wipe_length]
        refine ⟨m', hm, i + 1, H', (I'.unpinned (pins := [])).weak hl (fun j v e => ?_), T.keep _ _ _ su7 fun b hb o e => (pinQ b hb o e).1, fun b hb => ?_, wq⟩
        · rw [← hw8] at e
          exact (wipe_some e).1
        · obtain ⟨o, e, _⟩ := T.obj _ _ su7 b hb
          exact (pinQ b hb o e).2
      cases b with
      | false =>
        simp only [Bool.false_eq_true, if_false] at q9 ⊢
        exact finW Jz q9
      | true =>
        simp only [if_true] at q9 ⊢
        refine thnF (pk.run _ t9 σ8 G9 _ Jz q9) fun z s10 ⟨yk, H10, I10, r10, q10⟩ => ?_
        refine thnF (pe.run _ s10 σ8 H10 _ I10 q10) fun z2 s11 ⟨yv, H11, I11, r11, Nd, kvs, k, d, hND, dat, hky, rk, rv, hz11, nx⟩ => ?_
        obtain ⟨oD, esD, eD, deD, _⟩ := id dat
        have hpl : Plain0 oD := by cases deD <;> trivial
        exact D_dictSet (X := X.blk u3 G3 scope ce fp) hu I11 dat eD hpl hND hky rk r10 rv r11 hz11 fun o' s12 I12 dat' => finW I12 (nx o' dat')
  exact codeAny_compStart_dict loop (T.self X.A 0 _ _ _ su4 loop)
/-- as a value -/
theorem pe_dcg {kx vx tg iter : Expr} {ifs : List Expr} {scope : Scope} {own : List (Str × Nat)} {pos : Pos} {wi : TI} {g : TG} {tt : TT} {tk tv : TE} (hc : X.calm = true) (hN : X.N.Nodup) (hi : PI X tg iter wi) (ok : BlkOk X.N X.env.scope scope own)
    (hg : ∀ (s : Shared) (H : Hp) (C : Addr) (cl : List (Str × Addr)) (fp : List Addr), PG (X.blk s H scope (compEnvC scope cl C X.env) fp) tg g) (ht : ∀ (s : Shared) (H : Hp) (C : Addr) (cl : List (Str × Addr)) (fp : List Addr), PTs (X.blk s H scope (compEnvC scope cl C X.env) fp) ifs tt)
    (hu : X.A.units + 20 < cLine) (hk : ∀ (s : Shared) (H : Hp) (C : Addr) (cl : List (Str × Addr)) (fp : List Addr), PE (X.blk s H scope (compEnvC scope cl C X.env) fp) kx tk)
    (he : ∀ (s : Shared) (H : Hp) (C : Addr) (cl : List (Str × Addr)) (fp : List Addr), PE (X.blk s H scope (compEnvC scope cl C X.env) fp) vx tv) (hs : ∀ x, foldedSetIterable iter X.env x = pure x := by intro _; rfl) :
    PE X (.DictComp kx vx [⟨tg, iter, ifs, 0⟩] scope pos) (tDcG X.kk wi g tt tk tv (own.map (·.2))) := by
  refine ⟨fun pins s σ H Q I h => ?_⟩
  rw [arm_eval_DictComp]
  refine dcg_core hc hN I hi ok hg ht hu hk he hs h fun D C s' m Hz Iz q hnz fz => ⟨m, hnz, fun hq sb => ?_⟩
  obtain ⟨f0, f1, f2, f3, f4, f5⟩ := fz
  exact ⟨.ref D, Hz, Iz.turned (t' := s'.toks) (fun b o hb e => (sb.2 b hb).trans e) f0 f1 f3 f4 f5, rfl, q⟩
end
end Ev
/-! Ev22: dict comprehensions' reading. -/
namespace Ev
open PySem PySem.Spec L2
section
variable {X : Cx} {M : Nat → Bool} {F : Fn} {elt tg iter : Expr} {ifs : List Expr} {scope : Scope} {own : List (Str × Nat)} {pos : Pos}
/-! ### {k: v for target in .. if ..} -/
def dcL (as : PyData → S → Option S) (own : List Nat) (t : CB) (ck cv : CE) (F : Fn) : List PyData → List (PyData × PyData) → S → Option (List (PyData × PyData) × S)
  | [], acc, s => some (acc, s)
  | d :: ds, acc, s => match as d (wipeS own s) with
    | some s1 => match t F s1 with
      | some (true, s2) => match ck F s2 with
        | some (.d k, s3) => match cv F s3 with
          | some (.d y, s4) => if dKey acc k && decide (acc.length < sizeLine) then dcL as own t ck cv F ds (dPut acc k y) s4 else none
          | _ => none
        | _ => none
      | some (false, s2) => dcL as own t ck cv F ds acc s2
      | none => none
    | none => none
def cDc (own : List Nat) (as : PyData → S → Option S) (ic : IC) (t : CB) (ck cv : CE) : CE := fun F s => match ic F s with
  | some (ds, s1, l) => if ds.length ≤ sizeLine then match dcL as own t ck cv F ds [] s1 with
      | some (ys, s2) => some (.d (.dict ys), back l (unwipeS own s1 (wipeS own s2)))
      | none => none
    else none
  | none => none
theorem dPut_len {kvs : List (PyData × PyData)} {k v : PyData} : (dPut kvs k v).length ≤ kvs.length + 1 := by
  unfold dPut
  split <;> simp
theorem tx_dc {ic : IC} {ts own : List Nat} {as : PyData → S → Option S} {cb : CB} {ck cv : CE} {fk fv : Bool} {σ : L2.St} {H : Hp} {Q : VK} (hm : ∀ i ∈ own, M i = false) (hts : ∀ t ∈ ts, t ∈ own)
    (h : TX X.kk F M true (cDc own as ic cb ck cv) σ H Q) : tDcG X.kk (TIX X.kk F M ic) (TGX X.kk M ts as) (TB X.kk F M cb) (TX X.kk F M fk ck) (TX X.kk F M fv cv) own σ H Q := by
  obtain ⟨g, s, x, s', r, ev, q⟩ := h
  unfold cDc at ev
  split at ev
  · rename_i ds s1 l e1
    split at ev
    · rename_i hz
      split at ev
      · rename_i ys s2 e2
        cases ev
        refine ⟨g, s, ds, s1, l, r, e1, fun J g1 H1 r1 v1 L W D hD => ?_⟩
        have nSC : ¬ (g1.SA D ∨ g1.CA D) := fun z => r1.ex D (.inl (r1.srN D z)) hD
        have k0 : Same H1 (upd H1 D (newO X.kk D)) := fun b o e => by rw [upd_ne (ne_of_none e hD)]; exact e
        refine ⟨fun i m Hk => m + i = ds.length ∧ ∃ gk sk acc, Rel X.kk M gk (wipeS own sk) (wipe σ own) Hk ∧ Evo g1 gk H1 Hk ∧ gk.N0 D ∧ ¬ (gk.SA D ∨ gk.CA D) ∧ DAt X.kk gk.N Hk D acc ∧ acc.length ≤ i ∧
          dcL as own cb ck cv F (ds.drop i) acc sk = some (ys, s2), ⟨ds.length, rfl, g1.lock D, s1, [], (r1.wiped hm).fresh hD k0 (by rw [upd_same]; simp), ?_, .inr rfl, nSC, ⟨_, _, upd_same, .dK (ks := []), .nil⟩, Nat.zero_le _, by simpa using e2⟩, ?_⟩
        · have e := Evo.same (g := g1) k0
          exact ⟨fun b h => (G.lock_N.mp h).elim .inl fun z => .inr (by rw [z]; exact hD), fun b h => .inl h, fun _ h => h, fun _ h => h, fun _ h => .inl h, e.keep, e.tup, e.frz, e.grow, fun _ h => .inl h⟩
        · rintro i m Hk ⟨him, gk, sk, acc, rk, vk, hN0, hS, hDk, hla, ek⟩
          obtain ⟨w1, w2⟩ := W gk Hk vk rk.wn rk.ex
          have nW : ¬ gk.W D := by
            rintro (⟨j, z⟩ | z)
            · exact rk.sep j D z hN0
            · exact hS z
          cases m with
          | zero =>
            have hi : i = ds.length := by omega
            subst hi
            rw [List.drop_length] at ek
            cases ek
            refine .inl ⟨w2, ?_⟩
            have rf := Rel.unwiped hm r1 vk rk
            obtain ⟨g3, r3, v3, n3, sa3, ca3, k3⟩ := L gk _ Hk rf vk
            have n03 : g3.N0 D := k3 D hD hN0
            have hS3 : ¬ (g3.SA D ∨ g3.CA D) := fun z => hS (by rw [sa3, ca3] at z; exact z)
            have hDH : H D = none := none_back v1.grow hD
            have ra3 : DAt X.kk g3.N Hk D ys := (hDk.top.forbid fun a h => .inl (n3 a h)).dat
            refine q (.ref D) (g3.open D) Hk (r3.opened (fun z => hS3 (.inl z)) fun z => hS3 (.inr z)) (v3.opened r.ex hDH) ((ra3.top.forbid fun a h => .inl (G.open_N h)).dat.rp ?_) fun _ d ed hd => ?_
            · rintro (z | ⟨j, z⟩)
              · exact z.2 rfl
              · exact r3.sep j D z n03
            · cases ed
              exact ⟨D, g3, rfl, hDH, r3, v3, n03, fun z => hS3 (.inl z), fun z => hS3 (.inr z), ra3.top⟩
          | succ m =>
            have hi : i < ds.length := by omega
            obtain ⟨go, yl⟩ := w1 i _ (List.getElem?_eq_getElem hi)
            rw [List.drop_eq_getElem_cons hi] at ek
            have sub : ∀ (us ws : List Nat) (τ : L2.St), (∀ u ∈ us, u ∈ ws) → wipe (wipe τ us) ws = wipe τ ws := by
              intro us
              induction us with
              | nil => intro ws τ _; rfl
              | cons u us ih =>
                intro ws τ h
                show wipe ((wipe τ us).set u none) ws = _
                rw [wipe_set _ _ _ _ (h u List.mem_cons_self)]
                exact ih ws τ fun z hz => h z (List.mem_cons_of_mem _ hz)
            have hw : ∀ σ2, Only' ts (wipe σ own) σ2 → wipe σ2 own = wipe σ own := fun σ2 o2 => by
              rw [o2 own hts]
              exact sub own own σ fun _ h => h
            unfold dcL at ek
            split at ek
            · rename_i sa ea
              split at ek
              · rename_i sb eb
                split at ek
                · rename_i k sc ec
                  split at ek
                  · rename_i d sd ed
                    split at ek
                    · rename_i hz
                      rw [Bool.and_eq_true, decide_eq_true_eq] at hz
                      refine .inr ⟨go, fun H' => ∃ g4, Rel X.kk M g4 (wipeS own sd) (wipe σ own) H' ∧ Evo g1 g4 H1 H' ∧ g4.N0 D ∧ ¬ (g4.SA D ∨ g4.CA D) ∧ DAt X.kk g4.N H' D (dPut acc k d), fun H' z => ?_, fun x H3 yx => ?_⟩
                      · obtain ⟨g4, r4, v4, n4, s4', d4⟩ := z
                        exact ⟨m, Nat.lt_succ_self m, by omega, g4, sd, dPut acc k d, r4, v4, n4, s4', d4, Nat.le_trans dPut_len (by omega), ek⟩
                      · obtain ⟨kk, rp⟩ := yl x H3 yx
                        refine ⟨gk, _, ds[i], sa, rk.same kk, rp, ea, fun σ2 g2 H2 r2 v2 o2 => ⟨hw σ2 o2, g2, sa, true, sb, r2, eb, fun g3 H4 r3 v3 => ?_⟩⟩
                        refine iteT ⟨g3, sb, .d k, sc, r3, ec, fun kv g4 H5 r4 v4 rpk _ => ⟨g4, sc, .d d, sd, r4, ed, fun v g5 H6 r5 v5 rpv _ => ?_⟩⟩
                        have vv : Evo gk g5 Hk H6 := ((((Evo.same kk).trans v2).trans v3).trans v4).trans v5
                        have n5 : g5.N0 D := vv.n0 D hN0
                        have s5 : ¬ (g5.SA D ∨ g5.CA D) := fun z => (vv.sr D z).elim hS fun z => hDk.top.nn z
                        have d5 : DAt X.kk g5.N H6 D acc := (vv.top rk.wn nW hDk.top).dat
                        obtain ⟨o, eo, ho⟩ := d5.top.plain
                        refine ⟨g5.N, acc, k, d, .inl n5, d5, hz.1, v5.rp r4.wn rpk, rpv, hz.2, fun o' d6 => ?_⟩
                        have rs := (r5.scratch (o' := o') n5 (fun z => s5 (.inl z)) (fun z => s5 (.inr z)) eo ho).wiped hm
                        rw [hw σ2 o2] at rs
                        exact ⟨g5, rs, (vk.trans vv).scratch hD eo ho, n5, s5, d6⟩
                    · cases ek
                  · cases ek
                · cases ek
              · rename_i sb eb
                refine .inr ⟨go, fun H' => ∃ g4, Rel X.kk M g4 (wipeS own sb) (wipe σ own) H' ∧ Evo gk g4 Hk H', fun H' z => ?_, fun x H3 yx => ?_⟩
                · obtain ⟨g4, r4, v4⟩ := z
                  exact ⟨m, Nat.lt_succ_self m, by omega, g4, sb, acc, r4, vk.trans v4, v4.n0 D hN0, fun z => (v4.sr D z).elim hS fun z => hDk.top.nn z, (v4.top rk.wn nW hDk.top).dat, by omega, ek⟩
                · obtain ⟨kk, rp⟩ := yl x H3 yx
                  refine ⟨gk, _, ds[i], sa, rk.same kk, rp, ea, fun σ2 g2 H2 r2 v2 o2 => ?_⟩
                  refine ⟨hw σ2 o2, g2, sa, false, sb, r2, eb, fun g3 H4 r3 v3 => iteF ⟨g3, ?_, ((Evo.same kk).trans v2).trans v3⟩⟩
                  have rs := r3.wiped hm
                  rw [hw σ2 o2] at rs
                  exact rs
              · cases ek
            · cases ek
      · cases ev
    · cases ev
  · cases ev
theorem sx_dc {kx vx tg iter : Expr} {ifs : List Expr} {scope : Scope} {own : List (Str × Nat)} {pos : Pos} {ic : IC} {ts : List Nat} {as : PyData → S → Option S} {cb : CB} {ck cv : CE} {fk fv : Bool} (hc : X.calm = true) (hu : X.A.units + 20 < cLine) (hN : X.N.Nodup) (hi : PI X tg iter (TIX X.kk F M ic)) (ok : BlkOk X.N X.env.scope scope own) (hm : ∀ i ∈ own.map (·.2), M i = false) (hts : ∀ t ∈ ts, t ∈ own.map (·.2))
    (hg : ∀ (s : Shared) (H : Hp) (C : Addr) (cl : List (Str × Addr)) (fp : List Addr), PG (X.blk s H scope (compEnvC scope cl C X.env) fp) tg (TGX X.kk M ts as)) (ht : ∀ (s : Shared) (H : Hp) (C : Addr) (cl : List (Str × Addr)) (fp : List Addr), PTs (X.blk s H scope (compEnvC scope cl C X.env) fp) ifs (TB X.kk F M cb))
    (hk : ∀ (s : Shared) (H : Hp) (C : Addr) (cl : List (Str × Addr)) (fp : List Addr), PE (X.blk s H scope (compEnvC scope cl C X.env) fp) kx (TX X.kk F M fk ck)) (he : ∀ (s : Shared) (H : Hp) (C : Addr) (cl : List (Str × Addr)) (fp : List Addr), PE (X.blk s H scope (compEnvC scope cl C X.env) fp) vx (TX X.kk F M fv cv))
    (hs : ∀ x, foldedSetIterable iter X.env x = pure x := by intro _; rfl) :
    PE X (.DictComp kx vx [⟨tg, iter, ifs, 0⟩] scope pos) (TX X.kk F M true (cDc (own.map (·.2)) as ic cb ck cv)) :=
  peI (pe_dcg hc hN hi ok hg ht hu hk he hs) fun _ _ _ h => tx_dc hm hts h
end
end Ev
/-! Ev23: walks over lists, tuples, dicts alike; displays with stars; more methods. -/
namespace Ev
open PySem PySem.Spec L2

section
variable {X : Cx} {M : Nat → Bool} {F : Fn} {tg a b c e : Expr} {es : List Expr} {pos p tpos apos cpos : Pos}
/-! ### for x in e -/
def itemsAny : PyData → Option (List PyData)
  | .list ds => some ds
  | .tuple ds => some ds
  | .dict kvs => some (kvs.map (·.1))
  | _ => none
def icAny (o : Opd) : IC := fun F s => match o.ev F s with
  | some (d, s', l) => match itemsAny d with
    | some ds => some (ds, s', l)
    | none => none
  | none => none
def iAny (K : KK) (te : TE) : TI := fun σ H R => te σ H fun x H1 => (∃ a xs, x = .ref a ∧ SqL K.k H1 a xs ∧ R (Itl K.k a) H1) ∨ (∃ a xs, x = .ref a ∧ SqT K.k H1 a xs ∧ R (Itt K.k a) H1) ∨
  ∃ a kvs N, x = .ref a ∧ DAt K N H1 a kvs ∧ ∀ o es ep ents, H1 a = some o → PinD a o es ep ents → Paired (E2 K N H1) ents kvs → R (ItK a o ents) H1
theorem pi_any {te : TE} (he : PE X e te) : PI X tg e (iAny X.kk te) := by
  refine ⟨fun pins s σ H R I h => thn (he.run pins s σ H _ I h) fun v s1 ⟨x, H1, I1, r1, q1⟩ => ?_⟩
  have mine : ∀ b, b ∈ [s1.heap.objs.size] → FpOk X pins H1 b := fun b hb => by
    have e : b = s1.heap.objs.size := by simpa using hb
    subst e
    exact I1.fpOk (Nat.le_refl _) (I1.hok.fresh (Nat.le_refl _))
  rcases q1 with ⟨a, xs, e, hq, q⟩ | ⟨a, xs, e, hq, q⟩ | ⟨a, kvs, N, e, hq, q⟩
  · subst e
    cases r1
    obtain ⟨its, rv, p, hz⟩ := I1.list hq
    exact wpAny_pyIter_list p.isList ⟨_, _, _, _, H1, rfl, I1.kept (t' := s1.toks) fun b o e => Heap.get?_push_of_some _ e, turn_list a _, ⟨_, Heap.get?_push_size _ rfl, rfl, rfl⟩, mine, q⟩
  · subst e
    cases r1
    obtain ⟨its, rv, p, hz⟩ := I1.tuple hq
    exact wpAny_pyIter_tuple (show s1.heap.IsTuple a its.toArray from p) ⟨_, _, _, _, H1, rfl, I1.kept (t' := s1.toks) fun b o e => Heap.get?_push_of_some _ e, turn_tuple a _, ⟨_, Heap.get?_push_size _ rfl, rfl, rfl⟩, mine, q⟩
  · subst e
    cases r1
    obtain ⟨o, es, ep, ents, eo, _, P, r2, hl⟩ := hq.pin I1
    exact wpAny_pyIter_dict_raw P.sys (P.at' _ _ _ _ _ I1 eo) ⟨_, _, _, _, H1, rfl, I1.kept (t' := s1.toks) fun b o e => Heap.get?_push_of_some _ e, turn_K P, ⟨_, Heap.get?_push_size _ rfl, rfl, rfl⟩, mine, q o es ep ents eo P r2⟩
theorem RpT.dct {K : KK} {g : G} {H : Hp} {v : V} {kvs : List (PyData × PyData)} (wn : ∀ b, g.W b → g.N b) (h : RpT K g H v (.dict kvs)) : ∃ a, v = .ref a ∧ DAt K g.N H a kvs ∧ ¬ g.W a := by
  rcases h with h | ⟨a, rfl, t, nw⟩
  · generalize hd : PyData.dict kvs = d at h
    cases h with
    | dct e d hn r1 r2 => cases hd; exact ⟨_, rfl, dat_of e d r1 r2, fun z => hn (wn _ z)⟩
    | _ => cases hd
  · exact ⟨a, rfl, t.dat, nw⟩
theorem walk_dct {K : KK} {g : G} {H : Hp} {a : Addr} {o : HO} {ents : List (V × V)} {kvs : List (PyData × PyData)} (wn : ∀ b, g.W b → g.N b) (nw : ¬ g.W a) (e : H a = some o) (r : Paired (E2 K g.N H) ents kvs) : Walk K g H (ItK a o ents) (kvs.map (·.1)) := fun g2 H2 v _ _ => by
  have e2 : H2 a = some o := v.keep a o e nw
  have ra := v.rpA wn (paired_fst r)
  have hl : ents.length = kvs.length := r.length
  refine ⟨fun i d ed => ?_, ⟨e2, by rw [List.length_map]; omega⟩⟩
  obtain ⟨x, ex, rx⟩ := ra.get ed
  have hi : i < ents.length := by
    have := (List.getElem?_eq_some_iff.mp ed).1
    rw [List.length_map] at this
    omega
  refine ⟨⟨e2, hi⟩, fun y H3 ⟨e3, p, ep, ey⟩ => ?_⟩
  subst e3 ey
  rw [List.getElem?_map, ep] at ex
  cases ex
  exact ⟨fun _ _ h => h, rx⟩
theorem it_any {o : Opd} (he : PE X e (TP X.kk F M o)) : PI X tg e (TIX X.kk F M (icAny o)) := piI (pi_any he) fun σ H R ⟨g, s, ds, s', l, r, ev, q⟩ => by
  unfold icAny at ev
  split at ev
  · rename_i d s1 l1 e1
    split at ev
    · rename_i ds1 e2
      cases ev
      refine ⟨g, s, d, s', l, r, e1, fun v g1 H1 r1 v1 rp L => ?_⟩
      cases d with
      | list ds' =>
        cases e2
        obtain ⟨a, xs, rfl, hr, ra, nw⟩ := rp.seqL r1.wn
        exact .inl ⟨a, xs, rfl, hr, q _ g1 H1 r1 v1 L (walk_list r1.wn nw ra)⟩
      | tuple ds' =>
        cases e2
        obtain ⟨a, xs, rfl, hr, ra⟩ := rp.seqT
        exact .inr (.inl ⟨a, xs, rfl, hr, q _ g1 H1 r1 v1 L (walk_tup r1.wn hr ra)⟩)
      | dict kvs =>
        cases e2
        obtain ⟨a, rfl, hd, nw⟩ := rp.dct r1.wn
        exact .inr (.inr ⟨a, kvs, g1.N, rfl, hd, fun o es ep ents eo P r2 => q _ g1 H1 r1 v1 L (walk_dct r1.wn nw eo r2)⟩)
      | _ => cases e2
    · cases ev
  · cases ev

/-! ### displays with stars -/
def evStar : List (Bool × Opd) → Fn → S → Option (List PyData × S)
  | [], _, s => some ([], s)
  | (b, o) :: os, F, s => match o.ev F s with
    | some (d, s1, l) => if b then match itemsOf d with
        | some ds => match evStar os F (back l s1) with
          | some (es, s2) => some (ds ++ es, s2)
          | none => none
        | none => none
      else match evStar os F (back l s1) with
        | some (es, s2) => some (d :: es, s2)
        | none => none
    | none => none
def TXS (K : KK) (F : Fn) (M : Nat → Bool) (os : List (Bool × Opd)) : TA := fun σ H Q => ∃ g s ds s', Rel K M g s σ H ∧ evStar os F s = some (ds, s') ∧
  ∀ vs g' H', Rel K M g' s' σ H' → Evo g g' H H' → RpA K g'.N H' vs ds → Q vs H'
theorem st_nil : PA X [] (TXS X.kk F M []) := paI pa_nil fun σ H Q ⟨g, s, ds, s', r, e, q⟩ => by
  cases e
  exact q [] g H r Evo.refl .nil
/-- a plain element: no slot that is lent -/
theorem st_one {ce : CE} {fr : Bool} {os : List (Bool × Opd)} (ha : PE X e (TX X.kk F M fr ce)) (hr : PA X es (TXS X.kk F M os)) (hs : starEach (e :: es) X.env = (false, eval e X.env) :: starEach es X.env := by rfl) : PA X (e :: es) (TXS X.kk F M ((false, .e ce) :: os)) :=
  paI (pa_cons ha hr hs) fun σ H Q ⟨g, s, ds, s', r, ev, q⟩ => by
    unfold evStar at ev
    split at ev
    · rename_i d s1 l e1
      rw [if_neg (by simp)] at ev
      unfold Opd.ev at e1
      simp only at e1
      split at e1
      · rename_i d' s2 e2
        cases e1
        split at ev
        · rename_i es' s3 e3
          cases ev
          refine ⟨g, s, .d d, s1, r, e2, fun v g1 H1 r1 v1 rp1 _ => ⟨g1, s1, es', s', r1, e3, fun vs g2 H2 r2 v2 ra => ?_⟩⟩
          exact q (v :: vs) g2 H2 r2 (v1.trans v2) (.cons (v2.rp r1.wn rp1) ra)
        · cases ev
      · cases e1
    · cases ev
theorem st_star {o : Opd} {os : List (Bool × Opd)} (ha : PE X e (TP X.kk F M o)) (hr : PA X es (TXS X.kk F M os)) (hs : starEach (.Starred e p :: es) X.env = (true, eval e X.env) :: starEach es X.env := by rfl) : PA X (.Starred e p :: es) (TXS X.kk F M ((true, o) :: os)) :=
  paI (StX.pa_star ha hr hs) fun σ H Q ⟨g, s, ds, s', r, ev, q⟩ => by
    unfold evStar at ev
    split at ev
    · rename_i d s1 l e1
      rw [if_pos rfl] at ev
      split at ev
      · rename_i ds1 e2
        split at ev
        · rename_i es' s3 e3
          cases ev
          refine ⟨g, s, d, s1, l, r, e1, fun v g1 H1 r1 v1 rp L => ?_⟩
          obtain ⟨g3, r3, v3, n3, _⟩ := L g1 s1 H1 r1 Evo.refl
          rcases itemsOf_cases e2 with rfl | rfl
          · obtain ⟨a, xs, rfl, hr, ra, nw⟩ := rp.seqL r1.wn
            have ra3 : RpA X.kk g3.N H1 xs ds1 := ra.forbid fun b h => .inl (n3 b h)
            exact ⟨a, xs, rfl, .inr hr, g3, _, es', s', r3, e3, fun vs g2 H2 r2 v2 rb => q _ g2 H2 r2 (v3.trans v2) ((v2.rpA r3.wn ra3).append rb)⟩
          · obtain ⟨a, xs, rfl, hr, ra⟩ := rp.seqT
            have ra3 : RpA X.kk g3.N H1 xs ds1 := ra.forbid fun b h => .inl (n3 b h)
            exact ⟨a, xs, rfl, .inl hr, g3, _, es', s', r3, e3, fun vs g2 H2 r2 v2 rb => q _ g2 H2 r2 (v3.trans v2) ((v2.rpA r3.wn ra3).append rb)⟩
        · cases ev
      · cases ev
    · cases ev
def cStar (t : Bool) (os : List (Bool × Opd)) : CE := fun F s => match evStar os F s with
  | some (ds, s1) => if ds.length ≤ sizeLine then some (.d (if t then .tuple ds else .list ds), s1) else none
  | none => none
theorem sx_tupS {os : List (Bool × Opd)} {k : Nat} (h : PA X es (TXS X.kk F M os)) : PE X (.Tuple es k pos) (TX X.kk F M true (cStar true os)) := peI (pe_tup h) fun σ H Q ⟨g, s, x, s', r, e, q⟩ => by
  unfold cStar at e
  split at e
  · rename_i ds s1 e1
    split at e
    · rename_i hl
      cases e
      refine ⟨g, s, ds, _, r, e1, fun vs g1 H1 r1 v1 ra => ?_⟩
      exact ⟨by rw [ra.length]; exact hl, fun p hp => vr_tup ra (fin_op r1 (Lent.nil v1) v1 q) hp⟩
    · cases e
  · cases e
theorem sx_lstS {os : List (Bool × Opd)} (h : PA X es (TXS X.kk F M os)) : PE X (.List es pos) (TX X.kk F M true (cStar false os)) := peI (pe_lst h) fun σ H Q ⟨g, s, x, s', r, e, q⟩ => by
  unfold cStar at e
  split at e
  · rename_i ds s1 e1
    split at e
    · rename_i hl
      cases e
      refine ⟨g, s, ds, _, r, e1, fun vs g1 H1 r1 v1 ra => ?_⟩
      exact ⟨by rw [ra.length]; exact hl, fun p hp => vr_lst r1.ex ra (fin_op r1 (Lent.nil v1) v1 q) hp⟩
    · cases e
  · cases e
end
end Ev
/-! Ev24: the law's own call. -/
namespace Ev
open PySem PySem.Spec PyProof.Rows L2
theorem lawG_call {P : Program} {w : World} {K : PySem.W.Frag} {mg mb : Str → Option Value} {k : Nat} {fa a : Addr} {fd : FuncData} {x : Str} {sp : List V → Hp → VK → Prop} {s₁ : Shared} {vs : List Value} {ns : List Int}
    (KX : K.In s₁.heap) (hns : s₁.heap.Ns mainGlobals mg) (hb : s₁.heap.Ns builtinsNs mb) (hbb : ∀ x : Str, x ≠ "__name__" → mb x = bootBuiltins x) (hlim : s₁.heap.NoLimit) (hg : s₁.gens = #[])
    (ha : s₁.heap.get? a = some { cls := .type "list", data := .seq vs.toArray }) (hi : IntsAre vs ns) (hl : ns.length ≤ sizeLine) (hr : Room k callerA)
    (F : ∀ base : Heap, K.In base → base.Ns mainGlobals mg → FnG P w K mg base k fa fd [x] sp) (hbind : ∀ (s : Shared) (u : Value), BindsTo s fd ⟨[u], []⟩ [(x, u)])
    (hsp : ∀ H : Hp, Only H → SqL K H a (ns.map V.int) → sp [.ref a] H (fun v _ => v = .bl true)) :
    codeAny (model P w) callerA (.call (.ref fa) ⟨[.ref a], []⟩) (fun r s' => r = .ok (.ret (.bool true)) ∧ OldK s₁.heap s'.heap ∧ s'.os = s₁.os ∧ AllBare s'.gens) s₁ := by
  have rvv := vals_ints hi
  have lenVV := hi.length
  -- from an abstract heap in which nothing but the script may be tracked
  have main0 : ∀ H : Hp, Only H → SqL K H a (ns.map V.int) → HOk P w H s₁.heap → (∀ b, H b ≠ none → b = a) → (H a ≠ none → K.lookup a = none) →
      codeAny (model P w) callerA (.call (.ref fa) ⟨[.ref a], []⟩) (fun r s' => r = .ok (.ret (.bool true)) ∧ OldK s₁.heap s'.heap ∧ s'.os = s₁.os ∧ AllBare s'.gens) s₁ := by
    intro H hOO hSS hokP hAA hKK
    have baseOf : ∀ {b : Addr} {o : Obj}, s₁.heap.get? b = some o → H b = none → (hidT s₁.heap H).get? b = some o := fun e n => hidT_get e n
    have nOA : ∀ {b : Addr} {o : Obj} {es : Array DictEntry} {ep : Nat}, s₁.heap.get? b = some o → o.data = .dict es ep → H b = none := fun {b o es ep} e d => by
      cases q : H b with
      | none => rfl
      | some u =>
        have eq0 : b = a := hAA b (by rw [q]; simp)
        subst eq0
        rw [ha] at e; cases e
        have dq : Data.seq vs.toArray _ = Data.dict es ep := d
        cases dq
    have nSK : ∀ {b : Addr} {m : Str → Option Value}, s₁.heap.Ns b m → (hidT s₁.heap H).Ns b m := fun {b m} ⟨o, es, ep, e, d, r⟩ => ⟨o, es, ep, baseOf e (nOA e d), d, r⟩
    have hKB : K.In (hidT s₁.heap H) := fun b o e => baseOf (KX b o e) (by
      cases q : H b with
      | none => rfl
      | some u =>
        have eq0 : b = a := hAA b (by rw [q]; simp)
        subst eq0
        rw [hKK (by rw [q]; simp)] at e; cases e)
    have hMM : Mod K mg (hidT s₁.heap H) := ⟨hKB, nSK hns, ⟨mb, nSK hb, hbb⟩, let ⟨mc, h1, h2⟩ := hlim; ⟨mc, nSK h1, h2⟩⟩
    have ee0 : Env0 P w K mg (hidT s₁.heap H) callerA [] s₁ H := ⟨rfl, hMM, fun b o e => of_hidT e, Nat.le_of_eq (hidT_size _ _), trivial, fun b hb => absurd (show b ∈ ([] : List Addr) from hb) (by simp), hokP, .of_eq hg⟩
    refine codeAny_mono ((F _ hKB (nSK hns)).run callerA [] s₁ H ⟨[.ref a], []⟩ [.ref a] [.ref a] _ hr rfl ee0 (hbind s₁ (.ref a)) (.cons rfl .nil) (hsp H hOO hSS)) fun r s' h => ?_
    cases r with
    | error e => exact h.elim
    | ok fl =>
      cases fl with
      | next => exact False.elim h
      | brk => exact False.elim h
      | cont => exact False.elim h
      | ret u =>
        obtain ⟨v, H', osQ, bareQ, unQ, hokQ, rr0, q⟩ := h
        have qq : v = .bl true := q
        subst qq
        obtain rfl : u = Value.bool true := rr0
        refine ⟨rfl, OldK.of_keep fun b o e => ?_, osQ, bareQ⟩
        cases q : H b with
        | none => exact unQ.keep b o e q (by intro z; exact absurd (show b ∈ ([] : List Addr) from z) (by simp)) (by simp)
        | some u =>
          rcases hOO b with z | ⟨ob, xs, z⟩
          · rw [q] at z; cases z
          · have zz2 := unQ.frzs b ob _ z
            obtain ⟨ee1, _⟩ := hokP b _ z
            obtain ⟨ee2, _⟩ := hokQ b _ zz2
            rw [e] at ee1; cases ee1
            exact ee2
  cases hk : K.lookup a with
  | some o =>
    -- the script is one of the module's own objects
    have e := KX a o hk
    rw [ha] at e
    cases e
    refine main0 (fun _ => none) (fun _ => .inl rfl) (.inr ⟨_, vs.toArray, _, hk, rfl, rfl, rfl, by rw [List.size_toArray, lenVV]; exact hl, by simpa using rvv⟩) (fun b u z => by have zq : (none : Option HO) = some u := z; cases zq) (fun b z => absurd rfl z) fun z => absurd rfl z
  | none =>
    refine main0 (fun b => if b = a then some (.frz { cls := .type "list", data := .seq vs.toArray } (.lst (ns.map V.int))) else none) (fun b => ?_) (.inl (.inr ⟨{ cls := .type "list", data := .seq vs.toArray }, if_pos rfl⟩)) (fun b u z => ?_) (fun b z => ?_) fun _ => hk
    · by_cases hb : b = a
      · exact .inr ⟨_, _, if_pos hb⟩
      · exact .inl (if_neg hb)
    · by_cases hb : b = a
      · have zq := (if_pos hb).symm.trans z
        cases zq
        subst hb
        exact ⟨ha, by rw [List.length_map]; exact hl, vs, _, rvv, ha⟩
      · have zq := (if_neg hb).symm.trans z
        cases zq
    · by_cases hb : b = a
      · exact hb
      · exact absurd (if_neg hb) z
theorem ints_rp {K : KK} {N : Addr → Prop} {H : Hp} : ∀ ns : List Int, RpA K N H (ns.map V.int) (ns.map PyData.int)
  | [] => .nil
  | n :: ns => .cons (.int n) (ints_rp ns)
theorem script_rp {K : KK} {H : Hp} {a : Addr} {ns : List Int} (hO : Only H) (h : SqL K.k H a (ns.map V.int)) (hk : ∀ o, K.k.lookup a = some o → o.slots = #[]) : Rp K (fun _ => False) H (.ref a) (.list (ns.map PyData.int)) := by
  rcases h with h | ⟨o, its, n, h1, h2, h3, h4, h5, h6⟩
  · exact .lst h (fun z => z) (ints_rp ns)
  · obtain ⟨cls, dct, dt, sl⟩ := o
    have := hk _ h1
    simp only at h2 h3 h4 this
    subst h2 h3 h4 this
    exact .lstK h1 h5 h6 (ints_rp ns)
theorem walk_G {l : PySem.W.OpenLaw} {n k : Nat} {q : Program} {loose : List Str} {XP : (Str → Option Value) → Heap → Prop} {YP : World → Heap → Prop} {d : DefRec} {K : Params → PySem.W.Frag} {x : Str} {F : Fn}
    (hn : l.most = some n) (hn2 : n ≤ sizeLine) (hdf : d.params.defaults = []) (hr : Room k callerA)
    (hY : ∀ (w : World) (h : Heap), YP w h → (K w.params).In h)
    (hF : ∀ (w : World) (mg : Str → Option Value) (fa : Addr) (h : Heap), (K w.params).In h → h.Ns mainGlobals mg → mg d.name = some (.ref fa) →
      ∃ fd : FuncData, (∀ (s : Shared) (u : Value), BindsTo s fd ⟨[u], []⟩ [(x, u)]) ∧
        ∀ base : Heap, (K w.params).In base → base.Ns mainGlobals mg → FnG l.prog w (K w.params) mg base k fa fd [x] (SpF ⟨K w.params, w, l.prog⟩ F "law" 1))
    (hm : ∀ ns : List Int, ns.length ≤ n → ∃ src', F.call "law" [.d (.list (ns.map PyData.int))] none = some (.d (.bool true), src')) :
    PySem.W.WalkO q loose XP YP l.row.toRowW d [] (fun f vs => PySem.call f vs) := by
  refine Att.attach_call hn hdf fun w s₀ s₁ mg mb fa o pm cd doc a vs ns G Y ho hd hcd hmg hobj hints hlen hg => ?_
  have KX := hY w _ Y
  obtain ⟨fd, hb, hFF⟩ := hF w mg fa _ KX G.T.g hmg
  refine lawG_call KX G.T.g G.T.b G.T.builtins G.T.nolimit hg hobj hints (Nat.le_trans hlen hn2) hr hFF hb fun H hO hS => ?_
  obtain ⟨src', e⟩ := hm ns hlen
  have rs : Rp (⟨K w.params, w, l.prog⟩ : KK) (g0 (fun _ => False) (fun _ => False) (fun _ => False)).N H (.ref a) (.list (ns.map PyData.int)) := by
    refine Rp.forbid (fun b h => (g0_N.mp h).elim) (script_rp (K := ⟨K w.params, w, l.prog⟩) hO hS fun o e => ?_)
    have := KX _ _ e
    rw [hobj] at this
    cases this
    rfl
  exact ⟨rfl, fun _ => False, fun _ => False, fun _ => False, [.d (.list (ns.map PyData.int))], none, _, src', fun _ h => h.elim, fun _ h => h.elim id id, ⟨fun _ h => h, fun _ h => h⟩, .cons rs .nil, e, fun v gc H' _ _ _ rv => by cases rv; rfl⟩
end Ev
/-! Ev25: a slot read and given free. -/
namespace Ev
open PySem PySem.Spec L2
theorem nm {b fr : Bool} (h : b = false) : b = true → fr = true := fun z => by rw [h] at z; cases z
def cSh (i : Nat) : CE := fun F s => match (Opd.sh i).ev F s with
  | some (d, s', _) => some (.d d, s')
  | none => none
section
variable {X : Cx} {M : Nat → Bool} {F : Fn} {pos : Pos} {elt tg iter : Expr} {ifs : List Expr} {scope : Scope} {own : List (Str × Nat)} {i : Nat}
theorem sx_sh {x : Str} (hN : X.N[i]? = some x) (hv : Vis X.env.scope x) (hd : (x == ("__debug__" : Str)) = false := by decide) (hcd : (x == ("__classdict__" : Str)) = false := by decide) : PE X (.Name x pos) (TX X.kk F M false (cSh i)) :=
  peI (pe_var hN hv hd hcd) fun σ H Q ⟨g, s, y, s', r, ev, q⟩ => by
    unfold cSh Opd.ev at ev
    simp only at ev
    split at ev
    · rename_i d s1 l e1
      cases ev
      split at e1
      · rename_i d' e2
        cases e1
        obtain ⟨v, ev, hs⟩ := r.slot i _ e2
        by_cases hm : M i = true ∧ isM d = true
        · obtain ⟨a, rfl, p, t, nN⟩ := r.taken e2 ev hm
          exact ⟨_, ev, q _ (g.drop i) H (r.free ev (t.rp nN)) Evo.drop (t.rp nN) fun z => nomatch z⟩
        · have rp : Rp X.kk (g.drop i).N H v d := (hs.2 hm).forbid fun b h => .inl (G.drop_N h)
          exact ⟨_, ev, q _ (g.drop i) H (r.free ev rp) Evo.drop rp fun z => nomatch z⟩
      · rename_i d' e2
        cases e1
        obtain ⟨v, ev, hs⟩ := r.slot i _ e2
        exact ⟨_, ev, q v g H r Evo.refl hs fun z => nomatch z⟩
      · cases e1
    · cases ev
theorem glI {x : Str} (h : X.env.kindOf x = some .globalImplicit) : Gl X x := h
theorem visL {sc : Scope} {x : Str} (h : sc.names.lookup x = some .local) : Vis sc x := .inl h
theorem visC {sc : Scope} {x : Str} (h : sc.names.lookup x = some .cell) : Vis sc x := .inr (.inl h)
theorem visF {sc : Scope} {x : Str} (h : sc.names.lookup x = some .free) : Vis sc x := .inr (.inr h)
theorem locL {sc : Scope} {x : Str} (h : sc.names.lookup x = some .local) : Loc sc x := .inl h
theorem locC {sc : Scope} {x : Str} (h : sc.names.lookup x = some .cell) : Loc sc x := .inr h
theorem sx_lcV {vs : List Nat} {ic : IC} {ts : List Nat} {as : PyData → S → Option S} {cb : CB} {ce : CE} {fr : Bool} (hv : own.map (·.2) = vs) (hc : X.calm = true) (hN : X.N.Nodup) (hi : PI X tg iter (TIX X.kk F M ic)) (ok : BlkOk X.N X.env.scope scope own) (hm : ∀ i ∈ vs, M i = false) (hts : ∀ t ∈ ts, t ∈ vs)
    (hg : ∀ (s : Shared) (H : Hp) (C : Addr) (cl : List (Str × Addr)) (fp : List Addr), PG (X.blk s H scope (compEnvC scope cl C X.env) fp) tg (TGX X.kk M ts as)) (ht : ∀ (s : Shared) (H : Hp) (C : Addr) (cl : List (Str × Addr)) (fp : List Addr), PTs (X.blk s H scope (compEnvC scope cl C X.env) fp) ifs (TB X.kk F M cb))
    (he : ∀ (s : Shared) (H : Hp) (C : Addr) (cl : List (Str × Addr)) (fp : List Addr), PE (X.blk s H scope (compEnvC scope cl C X.env) fp) elt (TX X.kk F M fr ce)) (hs : ∀ x, foldedSetIterable iter X.env x = pure x := by intro _; rfl) :
    PE X (.ListComp elt [⟨tg, iter, ifs, 0⟩] scope pos) (TX X.kk F M true (cLc vs as ic cb ce)) := by
  subst hv; exact sx_lc hc hN hi ok hm hts hg ht he hs
theorem ss_setLcV {vs : List Nat} {y : Str} {py spos : Pos} {elt tg iter : Expr} {ifs : List Expr} {scope : Scope} {own : List (Str × Nat)} {ic : IC} {ts : List Nat} {as : PyData → S → Option S} {cb : CB} {ce : CE} {fr : Bool} (hv : own.map (·.2) = vs) (hc : X.calm = true) (hN : X.N.Nodup) (hy : X.N[i]? = some y) (hyl : X.env.scope.names.lookup y = some .local)
    (hi : PI X tg iter (TIX X.kk F M ic)) (ok : BlkOk X.N X.env.scope scope own) (hm : ∀ i ∈ vs, M i = false) (hts : ∀ t ∈ ts, t ∈ vs)
    (hg : ∀ (s : Shared) (H : Hp) (C : Addr) (cl : List (Str × Addr)) (fp : List Addr), PG (X.blk s H scope (compEnvC scope cl C X.env) fp) tg (TGX X.kk M ts as)) (ht : ∀ (s : Shared) (H : Hp) (C : Addr) (cl : List (Str × Addr)) (fp : List Addr), PTs (X.blk s H scope (compEnvC scope cl C X.env) fp) ifs (TB X.kk F M cb))
    (he : ∀ (s : Shared) (H : Hp) (C : Addr) (cl : List (Str × Addr)) (fp : List Addr), PE (X.blk s H scope (compEnvC scope cl C X.env) fp) elt (TX X.kk F M fr ce)) (hsw : swapsWith (.ListComp elt [⟨tg, iter, ifs, 0⟩] scope pos) (some (.Name y py)) spos.line X.env = pure true) (hs : ∀ x, foldedSetIterable iter X.env x = pure x := by intro _; rfl) :
    PS X (.Assign [.Name y py] (.ListComp elt [⟨tg, iter, ifs, 0⟩] scope pos) spos) (TSt X.kk F M (sPar [i] [cLc vs as ic cb ce])) := by
  subst hv; exact ss_setLc hc hN hy hyl hi ok hm hts hg ht he hsw hs
theorem sx_dcV {vs : List Nat} {kx vx tg iter : Expr} {ifs : List Expr} {scope : Scope} {own : List (Str × Nat)} {pos : Pos} {ic : IC} {ts : List Nat} {as : PyData → S → Option S} {cb : CB} {ck cv : CE} {fk fv : Bool} (hv : own.map (·.2) = vs) (hc : X.calm = true) (hu : X.A.units + 20 < cLine) (hN : X.N.Nodup) (hi : PI X tg iter (TIX X.kk F M ic)) (ok : BlkOk X.N X.env.scope scope own) (hm : ∀ i ∈ vs, M i = false) (hts : ∀ t ∈ ts, t ∈ vs)
    (hg : ∀ (s : Shared) (H : Hp) (C : Addr) (cl : List (Str × Addr)) (fp : List Addr), PG (X.blk s H scope (compEnvC scope cl C X.env) fp) tg (TGX X.kk M ts as)) (ht : ∀ (s : Shared) (H : Hp) (C : Addr) (cl : List (Str × Addr)) (fp : List Addr), PTs (X.blk s H scope (compEnvC scope cl C X.env) fp) ifs (TB X.kk F M cb))
    (hk : ∀ (s : Shared) (H : Hp) (C : Addr) (cl : List (Str × Addr)) (fp : List Addr), PE (X.blk s H scope (compEnvC scope cl C X.env) fp) kx (TX X.kk F M fk ck)) (he : ∀ (s : Shared) (H : Hp) (C : Addr) (cl : List (Str × Addr)) (fp : List Addr), PE (X.blk s H scope (compEnvC scope cl C X.env) fp) vx (TX X.kk F M fv cv))
    (hs : ∀ x, foldedSetIterable iter X.env x = pure x := by intro _; rfl) :
    PE X (.DictComp kx vx [⟨tg, iter, ifs, 0⟩] scope pos) (TX X.kk F M true (cDc vs as ic cb ck cv)) := by
  subst hv; exact sx_dc hc hu hN hi ok hm hts hg ht hk he hs
theorem ps_setDc {i : Nat} {y : Str} {py : Pos} {kx vx tg iter : Expr} {ifs : List Expr} {scope : Scope} {own : List (Str × Nat)} {pos spos : Pos} {wi : TI} {g : TG} {tt : TT} {tk tv : TE} (hc : X.calm = true) (hN : X.N.Nodup) (hy : X.N[i]? = some y) (hyl : X.env.scope.names.lookup y = some .local)
    (hsw : swapsWith (.DictComp kx vx [⟨tg, iter, ifs, 0⟩] scope pos) (some (.Name y py)) spos.line X.env = pure true) (hi : PI X tg iter wi) (ok : BlkOk X.N X.env.scope scope own)
    (hg : ∀ (s : Shared) (H : Hp) (C : Addr) (cl : List (Str × Addr)) (fp : List Addr), PG (X.blk s H scope (compEnvC scope cl C X.env) fp) tg g) (ht : ∀ (s : Shared) (H : Hp) (C : Addr) (cl : List (Str × Addr)) (fp : List Addr), PTs (X.blk s H scope (compEnvC scope cl C X.env) fp) ifs tt)
    (hu : X.A.units + 20 < cLine) (hk : ∀ (s : Shared) (H : Hp) (C : Addr) (cl : List (Str × Addr)) (fp : List Addr), PE (X.blk s H scope (compEnvC scope cl C X.env) fp) kx tk)
    (he : ∀ (s : Shared) (H : Hp) (C : Addr) (cl : List (Str × Addr)) (fp : List Addr), PE (X.blk s H scope (compEnvC scope cl C X.env) fp) vx tv) (hs : ∀ x, foldedSetIterable iter X.env x = pure x := by intro _; rfl) :
    PS X (.Assign [.Name y py] (.DictComp kx vx [⟨tg, iter, ifs, 0⟩] scope pos) spos) (tAsg (tDcG X.kk wi g tt tk tv (own.map (·.2))) (gName i)) := by
  refine ⟨fun pins s σ H D I h => ?_⟩
  rw [exec_Assign_Name_used _ _ _ _ hsw]
  refine wpAny_bind (wpAny_standAt (wpAny_bind ?_))
  show wpAny _ X.A (do let _ ← comprehension (.DictComp kx vx [⟨tg, iter, ifs, 0⟩] scope pos) scope X.env (firstIterPos [⟨tg, iter, ifs, 0⟩] pos) newDict false (eval iter X.env) (some (assign (.Name y py) X.env))) _ _ s
  have h : tDcG X.kk wi g tt tk tv (own.map (·.2)) σ H (fun x H1 => gName i x σ H1 D.nx) := h
  refine wpAny_bind (thn (dcg_core (Qf := fun _ s' => SP X pins D .next s') hc hN I hi ok hg ht hu hk he hs h fun L C s' m H' I' q hn f => ?_) fun _ s' hq => wpAny_pure (wpAny_pure hq))
  show wpAny _ _ (assign (.Name y py) X.env (.ref L)) _ _ _
  refine wpAny_assign_Name (store_ok2 (v := V.ref L) I' hN hy (.inl hyl) rfl (fun sB IB ⟨a, sbB, haB⟩ => ?_) (.inr hyl))
  obtain ⟨f0, f1, f2, f3, f4, f5⟩ := f
  have hCa : C ≠ a := by
    rcases haB with z | z
    · rw [z]; exact f1
    · exact fun e => f4 y a z e.symm
  refine ⟨m, hn.sameBut sbB hCa, fun hB3 sB3 => ?_⟩
  exact ⟨_, H', IB.turned (t' := sB.toks) (fun b o hb e => (sB3.2 b hb).trans e) f0 f1 f3 f4 f5, q⟩
theorem swd_true {kx vx : Expr} {gs : List Comprehension} {scope : Scope} {pos py : Pos} {y : Str} {l : Nat} {env : Env} (hk : env.scope.kind = .function) (hy : env.scope.names.lookup y = some .local) (hl : (py.line == pos.line) = true)
    (ha : (scope.names.any fun (n, k) => n == y && (k == .local || k == .cell)) = false) : swapsWith (.DictComp kx vx gs scope pos) (some (.Name y py)) l env = pure true := by
  have kyD : env.kindOf y = some .local := hy
  have hbD : env.blockKind = .function := by unfold Env.blockKind; rw [hk]; rfl
  unfold swapsWith
  simp only [hbD, kyD, ha, Expr.pos, hl]
  rfl
theorem ss_setDcV {vs : List Nat} {y : Str} {py spos pos : Pos} {kx vx : Expr} {ic : IC} {ts : List Nat} {as : PyData → S → Option S} {cb : CB} {ck cv : CE} {fk fv : Bool} (hv : own.map (·.2) = vs) (hc : X.calm = true) (hu : X.A.units + 20 < cLine) (hN : X.N.Nodup) (hy : X.N[i]? = some y) (hyl : X.env.scope.names.lookup y = some .local)
    (hi : PI X tg iter (TIX X.kk F M ic)) (ok : BlkOk X.N X.env.scope scope own) (hm : ∀ i ∈ vs, M i = false) (hts : ∀ t ∈ ts, t ∈ vs)
    (hg : ∀ (s : Shared) (H : Hp) (C : Addr) (cl : List (Str × Addr)) (fp : List Addr), PG (X.blk s H scope (compEnvC scope cl C X.env) fp) tg (TGX X.kk M ts as)) (ht : ∀ (s : Shared) (H : Hp) (C : Addr) (cl : List (Str × Addr)) (fp : List Addr), PTs (X.blk s H scope (compEnvC scope cl C X.env) fp) ifs (TB X.kk F M cb))
    (hk : ∀ (s : Shared) (H : Hp) (C : Addr) (cl : List (Str × Addr)) (fp : List Addr), PE (X.blk s H scope (compEnvC scope cl C X.env) fp) kx (TX X.kk F M fk ck)) (he : ∀ (s : Shared) (H : Hp) (C : Addr) (cl : List (Str × Addr)) (fp : List Addr), PE (X.blk s H scope (compEnvC scope cl C X.env) fp) vx (TX X.kk F M fv cv))
    (hsw : swapsWith (.DictComp kx vx [⟨tg, iter, ifs, 0⟩] scope pos) (some (.Name y py)) spos.line X.env = pure true) (hs : ∀ x, foldedSetIterable iter X.env x = pure x := by intro _; rfl) :
    PS X (.Assign [.Name y py] (.DictComp kx vx [⟨tg, iter, ifs, 0⟩] scope pos) spos) (TSt X.kk F M (sPar [i] [cDc vs as ic cb ck cv])) := by
  subst hv
  exact psI (ps_setDc hc hN hy hyl hsw hi ok hg ht hu hk he hs) fun D σ H h => tx_dc hm hts (tx_set (fun _ => rfl) h)
end
end Ev
/-! Ev26: all defs of a text, level by level. -/
namespace Ev
open PySem PySem.Spec PyProof.Rows L2
/-- the def x of the text as the module's top has written it -/
def Fa (K : PySem.W.Frag) (mg : Str → Option Value) (x : Str) (st : Stmt) (ps : List Str) : Prop := ∃ f fd, Fun K x x st f fd ∧ mg x = some (.ref f) ∧ PySem.W.keepIn K (.ref f) = true ∧ Binds K fd ps []
section
variable {P : Program} {w : World} {K : PySem.W.Frag} {mg : Str → Option Value} {base : Heap} {x : Str} {st : Stmt} {N ps : List Str} {k fuel n : Nat} {T : String → Option FnDef} {nm : String} {d : FnDef} {M : Nat → Bool}
theorem Fa.zero (h : Fa K mg x st ps) (hn : ps.length = n) : Callee P w K mg base (fnAt T fuel 0) 0 nm x n := by
  obtain ⟨f, fd, D, h1, h2, h3⟩ := h
  refine ⟨f, fd, ps, ⟨fun vs H Q q => q.1.trans hn.symm, fun A outer s H args us vs Q _ _ _ _ _ q => ?_⟩, h1, h2, h3⟩
  obtain ⟨_, _, _, _, xs, src, y, src', _, _, _, _, e, _⟩ := q
  cases e
theorem Fa.succ (h : Fa K mg x st ps) (S : FnScope N ps (defScope st)) (hT : T nm = some d) (hn : d.n = ps.length) (hnn : d.nn = N.length) (hM : ∀ i, i < d.n → M i = false)
    (body : ∀ (f : Addr) (cdv : Value) (A : Around) (outer : List Env) (s : Shared) (H : Hp), Room k (A.deeper (envOfC x (defScope st) s.heap.objs.size f cdv)) → (A.deeper (envOfC x (defScope st) s.heap.objs.size f cdv)).guards = some [] →
      PSs (cxG P w K mg base N x (defScope st) f cdv A outer s H) (defBody st) (TSt ⟨K, w, P⟩ (fnAt T fuel k) M d.body)) (hd : d.n = n) : Callee P w K mg base (fnAt T fuel (k + 1)) (k + 1) nm x n := by
  obtain ⟨f, fd, D, h1, h2, h3⟩ := h
  subst hd
  exact ⟨f, fd, ps, defG D S hT hn hnn hM (body f), h1, h2, h3⟩
end
theorem Callee.law {P : Program} {w : World} {K : PySem.W.Frag} {mg : Str → Option Value} {base : Heap} {F : Fn} {k n : Nat} {nm : String} {x : Str} {fa : Addr} (C : Callee P w K mg base F k nm x n) (h : mg x = some (.ref fa)) : ∃ fd ps, FnG P w K mg base k fa fd ps (SpF ⟨K, w, P⟩ F nm n) := by
  obtain ⟨f, fd, ps, D, h1, _⟩ := C
  rw [h1] at h
  cases h
  exact ⟨fd, ps, D⟩
end Ev
/-! Ev27: what the drawing defs of a law compute (plain). -/
namespace Ev
open PySem PySem.Spec L2
def pickB : CS :=
    (sSeq (sWhile (bAnd (bOf (cBin fGt (.e (cVar false 1)) (.e (cC (.int 1))))) (bAnd (bOf (cBin fLt (.e (cSF .left 0)) (.e (cC (.int 2))))) (bOf (cBin fGt (.e (cLenS (cCells 0))) (.e (cC (.int 0))))))) (sSF .left 0 (cPopS (cCells 0))))
    (sSeq (sPar [2] [(cSF .left 0)])
    (sSeq (sIf (bOr (bOf (cBin fLt (.e (cVar false 1)) (.e (cC (.int 2))))) (bOf (cBin fGt (.e (cVar false 2)) (.e (cC (.int 1)))))) (sSeq (sSF .left 0 (cBin fDiv (.e (cVar false 2)) (.e (cNat fMax2 [(.e (cC (.int 1))), (.e (cVar false 1))]))))
    (sRet (cBin fMod (.e (cNat fInt [(.e (cVar false 2))])) (.e (cNat fMax2 [(.e (cC (.int 1))), (.e (cVar false 1))]))))) sPass)
    (sSeq (sSF .turn 0 (cBin fAdd (.e (cSF .turn 0)) (.e (cC (.int 1)))))
    (sSeq (sPar [3] [(cBin fMod (.e (cNat fInt [(.e (cBin fAdd (.e (cSF .mixed 0)) (.e (cBin fMul (.e (cSF .turn 0)) (.e (cC (.int 104729)))))))])) (.e (cC (.int 998244353))))])
    (sSeq (sPar [3] [(cBin fMod (.e (cNat fInt [(.e (cBin fAdd (.e (cBin fMul (.e (cVar false 3)) (.e (cVar false 3)))) (.e (cBin fMul (.e (cSF .turn 0)) (.e (cC (.int 17)))))))])) (.e (cC (.int 2147483647))))])
    (sSeq (sSF .mixed 0 (cVar false 3))
    (sRet (cBin fMod (.e (cNat fInt [(.e (cBin fDiv (.e (cVar false 3)) (.e (cC (.int 16)))))])) (.e (cVar false 1)))))))))))
/-! ### big steps -/
section
variable {F : Fn} {s s1 s2 : S} {a b : CS} {c d : CB} {p q : Bool} {r : Option (Fl × S)} {n : Nat}
theorem e_seq (h : a F s = some (.nx, s1)) (h2 : b F s1 = r) : sSeq a b F s = r := by unfold sSeq; rw [h]; exact h2
theorem e_ret {x : Vx} (h : a F s = some (.rt x, s1)) : sSeq a b F s = some (.rt x, s1) := by unfold sSeq; rw [h]
theorem e_ifT (h : c F s = some (true, s1)) (h2 : a F s1 = r) : sIf c a b F s = r := by unfold sIf; rw [h]; exact h2
theorem e_ifF (h : c F s = some (false, s1)) (h2 : b F s1 = r) : sIf c a b F s = r := by unfold sIf; rw [h]; exact h2
theorem e_and (h : c F s = some (p, s)) (h2 : d F s = some (q, s)) : bAnd c d F s = some (p && q, s) := by
  unfold bAnd; rw [h]
  cases p
  · rfl
  · show d F s = _; rw [h2]; rfl
theorem e_or (h : c F s = some (p, s)) (h2 : d F s = some (q, s)) : bOr c d F s = some (p || q, s) := by
  unfold bOr; rw [h]
  cases p
  · show d F s = _; rw [h2]; rfl
  · rfl
theorem e_whT (h : c F s = some (true, s1)) (h2 : a F s1 = some (.nx, s2)) : whileN (n + 1) c a F s = whileN n c a F s2 := by
  show (match c F s with | some (true, s1) => _ | some (false, s1) => _ | none => _) = _
  rw [h]
  show (match a F s1 with | some (.rt x, s2) => _ | some (_, s2) => _ | none => _) = _
  rw [h2]
theorem e_whF (h : c F s = some (false, s1)) : whileN (n + 1) c a F s = some (.nx, s1) := by
  show (match c F s with | some (true, s1) => _ | some (false, s1) => _ | none => _) = _
  rw [h]
end
/-- the while of a draw -/
theorem pick_while (F : Fn) (many : Int) (e2 e3 : Option Vx) : ∀ (n : Nat) (s : Src), s.cells.length < n → ∃ s', whileN n (bAnd (bOf (cBin fGt (.e (cVar false 1)) (.e (cC (.int 1))))) (bAnd (bOf (cBin fLt (.e (cSF .left 0)) (.e (cC (.int 2))))) (bOf (cBin fGt (.e (cLenS (cCells 0))) (.e (cC (.int 0))))))) (sSF .left 0 (cPopS (cCells 0))) F ⟨[some .src, some (.d (.int many)), e2, e3], some s⟩ = some (.nx, ⟨[some .src, some (.d (.int many)), e2, e3], some s'⟩) ∧ s'.cells.length ≤ s.cells.length
  | 0, s, h => absurd h (Nat.not_lt_zero _)
  | n + 1, s, h => by
    have hc : (bAnd (bOf (cBin fGt (.e (cVar false 1)) (.e (cC (.int 1))))) (bAnd (bOf (cBin fLt (.e (cSF .left 0)) (.e (cC (.int 2))))) (bOf (cBin fGt (.e (cLenS (cCells 0))) (.e (cC (.int 0))))))) F ⟨[some .src, some (.d (.int many)), e2, e3], some s⟩ = some (decide (many > 1) && (decide (s.left < 2) && decide ((s.cells.length : Int) > 0)), ⟨[some .src, some (.d (.int many)), e2, e3], some s⟩) := e_and rfl (e_and rfl rfl)
    cases hb : (decide (many > 1) && (decide (s.left < 2) && decide ((s.cells.length : Int) > 0))) with
    | false => rw [hb] at hc; exact ⟨s, e_whF hc, Nat.le_refl _⟩
    | true =>
      rw [hb] at hc
      simp only [Bool.and_eq_true, decide_eq_true_eq] at hb
      have hp : 0 < s.cells.length := by omega
      have hx : s.cells[s.cells.length - 1]? = some (s.cells[s.cells.length - 1]'(Nat.sub_lt hp Nat.one_pos)) := List.getElem?_eq_getElem _
      have hs : (sSF .left 0 (cPopS (cCells 0))) F ⟨[some .src, some (.d (.int many)), e2, e3], some s⟩ = some (.nx, ⟨[some .src, some (.d (.int many)), e2, e3], some (SF.left.set { s with cells := s.cells.dropLast } (s.cells[s.cells.length - 1]'(Nat.sub_lt hp Nat.one_pos)))⟩) := by
        have h1 : cPopS (cCells 0) F ⟨[some .src, some (.d (.int many)), e2, e3], some s⟩ = some (.d (.int (s.cells[s.cells.length - 1]'(Nat.sub_lt hp Nat.one_pos))), ⟨[some .src, some (.d (.int many)), e2, e3], some { s with cells := s.cells.dropLast }⟩) := by
          show (match s.cells[s.cells.length - 1]? with | some y => some (Vx.d (.int y), (⟨[some .src, some (.d (.int many)), e2, e3], some { s with cells := s.cells.dropLast }⟩ : S)) | none => none) = _
          rw [hx]
        unfold sSF
        rw [h1]
        rfl
      obtain ⟨s', e, hl⟩ := pick_while F many e2 e3 n (SF.left.set { s with cells := s.cells.dropLast } (s.cells[s.cells.length - 1]'(Nat.sub_lt hp Nat.one_pos))) (by simp [SF.set]; omega)
      refine ⟨s', (e_whT hc hs).trans e, Nat.le_trans hl ?_⟩
      simp [SF.set]
theorem mul_sm (i j : Int) (h : small64 j = true) : fMul (.int i) (.int j) = some (.int (i * j)) := by
  show (if small64 i || small64 j then some (PyData.int (i * j)) else none) = _
  rw [h, Bool.or_true]; rfl
theorem div_ok (i j : Int) (h : 0 < j) (h2 : j < 1073741824) : fDiv (.int i) (.int j) = some (.int (i / j)) := by
  show (if decide (0 < j) && decide (j < 1073741824) then some (PyData.int (i / j)) else none) = _
  rw [decide_eq_true h, decide_eq_true h2]; rfl
theorem mod_ok (i j : Int) (h : 0 < j) : fMod (.int i) (.int j) = some (.int (i % j)) := by
  show (if 0 < j then some (PyData.int (i % j)) else none) = _
  rw [if_pos h]
theorem cbin {F : Fn} {s s1 s2 : S} {f : PyData → PyData → Option PyData} {a b : CE} {x y z : PyData} (h1 : a F s = some (.d x, s1)) (h2 : b F s1 = some (.d y, s2)) (h : f x y = some z) : cBin f (.e a) (.e b) F s = some (.d z, s2) := by
  unfold cBin
  simp only [Opd.ev, h1, h2, h]
  rfl
theorem spar1 {F : Fn} {s s1 : S} {i : Nat} {c : CE} {x : Vx} (h : c F s = some (x, s1)) : sPar [i] [c] F s = some (.nx, { s1 with env := s1.env.set i (some x) }) := by
  unfold sPar
  simp only [evArgs, h]
  rfl
theorem ssf {F : Fn} {s s1 : S} {q : SF} {i : Nat} {c : CE} {k : Int} {x : Src} (h : c F s = some (.d (.int k), s1)) (h2 : s1.env[i]? = some (some .src)) (h3 : s1.src = some x) : sSF q i c F s = some (.nx, { s1 with src := some (q.set x k) }) := by
  unfold sSF
  simp only [h, h2, h3]
theorem sret {F : Fn} {s s1 : S} {c : CE} {x : Vx} (h : c F s = some (x, s1)) : sRet c F s = some (.rt x, s1) := by
  unfold sRet
  simp only [h]
theorem cnat1 {F : Fn} {s s1 : S} {f : List PyData → Option PyData} {a : CE} {x z : PyData} (h1 : a F s = some (.d x, s1)) (h : f [x] = some z) : cNat f [.e a] F s = some (.d z, s1) := by
  unfold cNat
  simp only [evOps, Opd.ev, h1, h]
  rfl
theorem max2_eq (many : Int) : fMax2 [.int 1, .int many] = some (.int (max 1 many)) := by
  show some (PyData.int (if many > 1 then many else 1)) = _
  rw [Int.max_def]; congr 2; split <;> split <;> omega
theorem cnat2 {F : Fn} {s s1 s2 : S} {f : List PyData → Option PyData} {a b : CE} {x y z : PyData} (h1 : a F s = some (.d x, s1)) (h2 : b F s1 = some (.d y, s2)) (h : f [x, y] = some z) : cNat f [.e a, .e b] F s = some (.d z, s2) := by
  unfold cNat
  simp only [evOps, Opd.ev, h1, h2, h]
  rfl
theorem run_ret {d : FnDef} {F : Fn} {xs : List Vx} {src : Option Src} {x : Vx} {s' : S} (hn : xs.length = d.n) (h : d.body F ⟨xs.map some ++ List.replicate (d.nn - xs.length) none, src⟩ = some (.rt x, s')) : runDef d F xs src = some (x, s'.src) := by
  unfold runDef
  rw [if_pos hn, h]
theorem pick_run (F : Fn) (hf : 64 ≤ F.fuel) (s : Src) (hs : s.cells.length ≤ 63) (many : Int) (hm : many < 1073741824) : ∃ r s', runDef ⟨2, 4, pickB⟩ F [.src, .d (.int many)] (some s) = some (.d (.int r), some s') ∧ s'.cells.length ≤ 63 ∧ 0 ≤ r ∧ r < max 1 many := by
  obtain ⟨s1, e1, h1⟩ := pick_while F many none none F.fuel s (by omega)
  have hmx : 0 < max 1 many := by omega
  have key : ∃ r s', pickB F ⟨[some .src, some (.d (.int many)), none, none], some s⟩ = some (.rt (.d (.int r)), s') ∧ (∃ s2, s'.src = some s2 ∧ s2.cells.length ≤ 63) ∧ 0 ≤ r ∧ r < max 1 many := by
    by_cases hb : (decide (many < 2) || decide (s1.left > 1)) = true
    · refine ⟨s1.left % max 1 many, ⟨[some .src, some (.d (.int many)), some (.d (.int s1.left)), none], some { s1 with left := s1.left / max 1 many }⟩, ?_, ⟨_, rfl, by show s1.cells.length ≤ 63; omega⟩, Int.emod_nonneg _ (by omega), Int.emod_lt_of_pos _ hmx⟩
      refine e_seq (show sWhile _ _ F _ = _ from e1) (e_seq (spar1 (x := .d (.int s1.left)) rfl) ?_)
      refine e_ret (e_ifT (s1 := ⟨[some .src, some (.d (.int many)), some (.d (.int s1.left)), none], some s1⟩) ((e_or rfl rfl).trans (by rw [hb]; rfl)) ?_)
      refine e_seq (ssf (k := s1.left / max 1 many) (x := s1) (cbin (x := .int s1.left) (y := .int (max 1 many)) rfl (cnat2 rfl rfl (max2_eq many)) (div_ok _ _ hmx (by omega))) rfl rfl) ?_
      exact sret (cbin (x := .int s1.left) (y := .int (max 1 many)) rfl (cnat2 rfl rfl (max2_eq many)) (mod_ok _ _ hmx))
    · have hb' : (decide (many < 2) || decide (s1.left > 1)) = false := by simpa using hb
      have hb2 := hb'
      simp only [Bool.or_eq_false_iff, decide_eq_false_iff_not] at hb2
      have h0 : 0 < many := by omega
      refine ⟨((((s1.mixed + (s1.turn + 1) * 104729) % 998244353) * ((s1.mixed + (s1.turn + 1) * 104729) % 998244353) + (s1.turn + 1) * 17) % 2147483647) / 16 % many, ⟨[some .src, some (.d (.int many)), some (.d (.int s1.left)), some (.d (.int ((((s1.mixed + (s1.turn + 1) * 104729) % 998244353) * ((s1.mixed + (s1.turn + 1) * 104729) % 998244353) + (s1.turn + 1) * 17) % 2147483647)))], some { s1 with turn := s1.turn + 1, mixed := ((((s1.mixed + (s1.turn + 1) * 104729) % 998244353) * ((s1.mixed + (s1.turn + 1) * 104729) % 998244353) + (s1.turn + 1) * 17) % 2147483647) }⟩, ?_, ⟨_, rfl, ?_⟩, Int.emod_nonneg _ (by omega), by have := Int.emod_lt_of_pos (((((s1.mixed + (s1.turn + 1) * 104729) % 998244353) * ((s1.mixed + (s1.turn + 1) * 104729) % 998244353) + (s1.turn + 1) * 17) % 2147483647) / 16) h0; omega⟩
      · refine e_seq (show sWhile _ _ F _ = _ from e1) (e_seq (spar1 (x := .d (.int s1.left)) rfl) ?_)
        refine e_seq (e_ifF (s1 := ⟨[some .src, some (.d (.int many)), some (.d (.int s1.left)), none], some s1⟩) ((e_or rfl rfl).trans (by rw [hb']; rfl)) rfl) ?_
        refine e_seq (ssf (k := s1.turn + 1) (x := s1) rfl rfl rfl) ?_
        refine e_seq (spar1 (x := .d (.int ((s1.mixed + (s1.turn + 1) * 104729) % 998244353))) (cbin (cnat1 (cbin rfl (cbin rfl rfl (mul_sm _ _ (by decide))) rfl) rfl) rfl (mod_ok _ _ (by decide)))) ?_
        refine e_seq (spar1 (x := .d (.int ((((s1.mixed + (s1.turn + 1) * 104729) % 998244353) * ((s1.mixed + (s1.turn + 1) * 104729) % 998244353) + (s1.turn + 1) * 17) % 2147483647))) (cbin (cnat1 (cbin (cbin rfl rfl (mul_sm _ _ ?_)) (cbin rfl rfl (mul_sm _ _ (by decide))) rfl) rfl) rfl (mod_ok _ _ (by decide)))) ?_
        · have := Int.emod_lt_of_pos (s1.mixed + (s1.turn + 1) * 104729) (show (0 : Int) < 998244353 by decide)
          have := Int.emod_nonneg (s1.mixed + (s1.turn + 1) * 104729) (show (998244353 : Int) ≠ 0 by decide)
          unfold small64
          simp only [Bool.and_eq_true, decide_eq_true_eq]
          omega
        refine e_seq (ssf (k := (((s1.mixed + (s1.turn + 1) * 104729) % 998244353) * ((s1.mixed + (s1.turn + 1) * 104729) % 998244353) + (s1.turn + 1) * 17) % 2147483647) (x := { s1 with turn := s1.turn + 1 }) rfl rfl rfl) ?_
        exact sret (cbin (cnat1 (cbin rfl rfl (div_ok _ _ (by decide) (by decide))) rfl) rfl (mod_ok _ _ h0))
      · show s1.cells.length ≤ 63
        omega
  obtain ⟨r, s', e, ⟨s2, h2, h3⟩, h4, h5⟩ := key
  refine ⟨r, s2, ?_, h3, h4, h5⟩
  have hd := run_ret (d := ⟨2, 4, pickB⟩) (F := F) (xs := [.src, .d (.int many)]) (src := some s) rfl e
  rw [hd, h2]
end Ev
/-! Ev28: loops and comprehensions by invariants (plain). -/
namespace Ev
open PySem PySem.Spec L2
theorem unwipe_at (e x : List (Option Vx)) (hl : x.length = e.length) : ∀ (vs : List Nat) (j : Nat), (unwipeE e x vs)[j]? = if j ∈ vs then e[j]? else x[j]?
  | [], j => by simp [unwipeE]
  | v :: vs, j => by
    unfold unwipeE
    by_cases hj : v = j
    · subst hj
      by_cases hi : v < e.length
      · rw [List.getElem?_set_self (by rw [unwipeE_len, hl]; exact hi), if_pos List.mem_cons_self, List.getD_eq_getElem?_getD, List.getElem?_eq_getElem hi]; rfl
      · rw [List.getElem?_eq_none (by rw [List.length_set, unwipeE_len, hl]; omega), if_pos List.mem_cons_self, List.getElem?_eq_none (by omega)]
    · rw [List.getElem?_set_ne hj, unwipe_at e x hl vs j]
      by_cases h2 : j ∈ vs
      · rw [if_pos h2, if_pos (List.mem_cons_of_mem _ h2)]
      · rw [if_neg h2, if_neg (fun z => (List.mem_cons.mp z).elim (fun z => hj z.symm) h2)]
theorem wipe_at (e : List (Option Vx)) : ∀ (vs : List Nat) (j : Nat), j ∉ vs → (wipeE e vs)[j]? = e[j]?
  | [], j, _ => rfl
  | v :: vs, j, h => by
    unfold wipeE
    rw [List.getElem?_set_ne (fun z => h (by rw [z]; exact List.mem_cons_self))]
    exact wipe_at e vs j fun z => h (List.mem_cons_of_mem _ z)
theorem unwipe_wipe (e : List (Option Vx)) (vs : List Nat) : unwipeE e (wipeE e vs) vs = e := by
  refine List.ext_getElem? fun j => ?_
  rw [unwipe_at e _ (wipeE_len e vs)]
  by_cases h : j ∈ vs
  · rw [if_pos h]
  · rw [if_neg h, wipe_at e vs j h]
section
variable {as : PyData → S → Option S} {own : List Nat} {t : CB} {c : CE} {F : Fn} {ic : IC} {b : CS}
theorem lc_ind (E : List (Option Vx)) (R : Nat → Option Src → Prop) (Y : Nat → PyData → Prop) : ∀ (ds : List PyData) (i : Nat) (src : Option Src), R i src →
    (∀ (j : Nat) (d : PyData) (src : Option Src), ds[j]? = some d → R (i + j) src → ∃ s1 s2 y E' src', as d ⟨E, src⟩ = some s1 ∧ t F s1 = some (true, s2) ∧ c F s2 = some (.d y, ⟨E', src'⟩) ∧ wipeE E' own = E ∧ R (i + j + 1) src' ∧ Y (i + j) y) →
    ∀ E0, wipeE E0 own = E → ∃ ys E2 src2, lcL as own t c F ds ⟨E0, src⟩ = some (ys, ⟨E2, src2⟩) ∧ wipeE E2 own = E ∧ R (i + ds.length) src2 ∧ ys.length = ds.length ∧ ∀ j y, ys[j]? = some y → Y (i + j) y
  | [], i, src, h, _, E0, he => ⟨[], E0, src, rfl, he, h, rfl, fun j y e => by simp at e⟩
  | d :: ds, i, src, h, st, E0, he => by
    obtain ⟨s1, s2, y, E', src', h1, h2, h3, h4, h5, h6⟩ := st 0 d src rfl h
    obtain ⟨ys, E2, src2, g1, g2, g3, g4, g5⟩ := lc_ind E R Y ds (i + 1) src' h5 (fun j d' src hj hr => by
      have := st (j + 1) d' src (by simpa using hj) (by rw [show i + (j + 1) = i + 1 + j by omega]; exact hr)
      rw [show i + (j + 1) = i + 1 + j by omega] at this
      exact this) E' h4
    refine ⟨y :: ys, E2, src2, ?_, g2, by rw [show i + (d :: ds).length = i + 1 + ds.length by rw [List.length_cons]; omega]; exact g3, by rw [List.length_cons, List.length_cons, g4], fun j z e => ?_⟩
    · show (match as d (wipeS own ⟨E0, src⟩) with | some s1 => _ | none => _) = _
      rw [show wipeS own ⟨E0, src⟩ = ⟨E, src⟩ by unfold wipeS; rw [he], h1]
      simp only [h2, h3]
      rw [g1]
    · cases j with
      | zero => simp at e; subst e; exact h6
      | succ j =>
        have := g5 j z (by simpa using e)
        rw [show i + (j + 1) = i + 1 + j by omega]; exact this
theorem lc_filt (E : List (Option Vx)) (src : Option Src) (p : PyData → Bool) (f : PyData → PyData) : ∀ (ds : List PyData),
    (∀ d ∈ ds, ∃ s1 s2, as d ⟨E, src⟩ = some s1 ∧ t F s1 = some (p d, s2) ∧ (p d = false → s2.src = src ∧ wipeE s2.env own = E) ∧ (p d = true → ∃ E', c F s2 = some (.d (f d), ⟨E', src⟩) ∧ wipeE E' own = E)) →
    ∀ E0, wipeE E0 own = E → ∃ E2, lcL as own t c F ds ⟨E0, src⟩ = some ((ds.filter p).map f, ⟨E2, src⟩) ∧ wipeE E2 own = E
  | [], _, E0, he => ⟨E0, rfl, he⟩
  | d :: ds, st, E0, he => by
    obtain ⟨s1, s2, h1, h2, h3, h4⟩ := st d List.mem_cons_self
    have ih := lc_filt E src p f ds fun d' hd => st d' (List.mem_cons_of_mem _ hd)
    cases hp : p d with
    | true =>
      obtain ⟨E', h5, h6⟩ := h4 hp
      obtain ⟨E2, g1, g2⟩ := ih E' h6
      refine ⟨E2, ?_, g2⟩
      show (match as d (wipeS own ⟨E0, src⟩) with | some s1 => _ | none => _) = _
      rw [show wipeS own ⟨E0, src⟩ = ⟨E, src⟩ by unfold wipeS; rw [he], h1]
      simp only [h2, hp, h5]
      rw [g1, List.filter_cons, hp]
      rfl
    | false =>
      obtain ⟨h5, h6⟩ := h3 hp
      obtain ⟨E2, g1, g2⟩ := ih s2.env h6
      refine ⟨E2, ?_, g2⟩
      show (match as d (wipeS own ⟨E0, src⟩) with | some s1 => _ | none => _) = _
      rw [show wipeS own ⟨E0, src⟩ = ⟨E, src⟩ by unfold wipeS; rw [he], h1]
      simp only [h2, hp]
      have e2 : s2 = ⟨s2.env, src⟩ := by rw [← h5]
      rw [List.filter_cons, hp]
      rw [e2]
      exact g1
theorem clc_ind {ds : List PyData} {E1 : List (Option Vx)} {src : Option Src} {s : S} (hic : ic F s = some (ds, ⟨E1, src⟩, [])) (hl : ds.length ≤ sizeLine) (R : Nat → Option Src → Prop) (Y : Nat → PyData → Prop) (h0 : R 0 src)
    (st : ∀ (j : Nat) (d : PyData) (src : Option Src), ds[j]? = some d → R j src → ∃ s1 s2 y E' src', as d ⟨wipeE E1 own, src⟩ = some s1 ∧ t F s1 = some (true, s2) ∧ c F s2 = some (.d y, ⟨E', src'⟩) ∧ wipeE E' own = wipeE E1 own ∧ R (j + 1) src' ∧ Y j y) :
    ∃ ys src2, cLc own as ic t c F s = some (.d (.list ys), ⟨E1, src2⟩) ∧ R ds.length src2 ∧ ys.length = ds.length ∧ ∀ j y, ys[j]? = some y → Y j y := by
  obtain ⟨ys, E2, src2, g1, g2, g3, g4, g5⟩ := lc_ind (as := as) (own := own) (t := t) (c := c) (F := F) (wipeE E1 own) R Y ds 0 src h0 (fun j d src hj hr => by
    have := st j d src hj (by rw [Nat.zero_add] at hr; exact hr)
    rw [Nat.zero_add]; exact this) E1 rfl
  rw [Nat.zero_add] at g3
  refine ⟨ys, src2, ?_, g3, g4, fun j y e => by have := g5 j y e; rw [Nat.zero_add] at this; exact this⟩
  unfold cLc
  rw [hic]
  simp only [hl, if_true, g1]
  show some (Vx.d (.list ys), back [] (unwipeS own ⟨E1, src⟩ (wipeS own ⟨E2, src2⟩))) = _
  unfold unwipeS wipeS back
  simp only [List.foldr_nil, g2, unwipe_wipe]
theorem clc_filt {ds : List PyData} {E1 : List (Option Vx)} {src : Option Src} {s : S} (hic : ic F s = some (ds, ⟨E1, src⟩, [])) (hl : ds.length ≤ sizeLine) (p : PyData → Bool) (f : PyData → PyData)
    (st : ∀ d ∈ ds, ∃ s1 s2, as d ⟨wipeE E1 own, src⟩ = some s1 ∧ t F s1 = some (p d, s2) ∧ (p d = false → s2.src = src ∧ wipeE s2.env own = wipeE E1 own) ∧ (p d = true → ∃ E', c F s2 = some (.d (f d), ⟨E', src⟩) ∧ wipeE E' own = wipeE E1 own)) :
    cLc own as ic t c F s = some (.d (.list ((ds.filter p).map f)), ⟨E1, src⟩) := by
  obtain ⟨E2, g1, g2⟩ := lc_filt (as := as) (own := own) (t := t) (c := c) (F := F) (wipeE E1 own) src p f ds st E1 rfl
  unfold cLc
  rw [hic]
  simp only [hl, if_true, g1]
  show some (Vx.d (.list _), back [] (unwipeS own ⟨E1, src⟩ (wipeS own ⟨E2, src⟩))) = _
  unfold unwipeS wipeS back
  simp only [List.foldr_nil, g2, unwipe_wipe]
theorem clc_map {ds : List PyData} {E1 : List (Option Vx)} {src : Option Src} {s : S} (hic : ic F s = some (ds, ⟨E1, src⟩, [])) (hl : ds.length ≤ sizeLine) (f : PyData → PyData)
    (st : ∀ d ∈ ds, ∃ s1 E', as d ⟨wipeE E1 own, src⟩ = some s1 ∧ c F s1 = some (.d (f d), ⟨E', src⟩) ∧ wipeE E' own = wipeE E1 own) :
    cLc own as ic bYes c F s = some (.d (.list (ds.map f)), ⟨E1, src⟩) := by
  have := clc_filt (as := as) (own := own) (t := bYes) (c := c) hic hl (fun _ => true) f fun d hd => by
    obtain ⟨s1, E', h1, h2, h3⟩ := st d hd
    exact ⟨s1, s1, h1, rfl, (fun z => nomatch z), fun _ => ⟨E', h2, h3⟩⟩
  rw [this, List.filter_eq_self.mpr fun _ _ => rfl]
theorem for_ind (R : Nat → S → Prop) : ∀ (ds : List PyData) (i : Nat) (s : S), R i s →
    (∀ (j : Nat) (d : PyData) (s : S), ds[j]? = some d → R (i + j) s → ∃ s1 s2, as d s = some s1 ∧ b F s1 = some (.nx, s2) ∧ R (i + j + 1) s2) → ∃ s', forL as b F ds s = some (.nx, s') ∧ R (i + ds.length) s'
  | [], i, s, h, _ => ⟨s, rfl, h⟩
  | d :: ds, i, s, h, st => by
    obtain ⟨s1, s2, h1, h2, h3⟩ := st 0 d s rfl h
    obtain ⟨s', g1, g2⟩ := for_ind R ds (i + 1) s2 h3 fun j d' s hj hr => by
      have := st (j + 1) d' s (by simpa using hj) (by rw [show i + (j + 1) = i + 1 + j by omega]; exact hr)
      rw [show i + (j + 1) = i + 1 + j by omega] at this
      exact this
    refine ⟨s', ?_, by rw [show i + (d :: ds).length = i + 1 + ds.length by rw [List.length_cons]; omega]; exact g2⟩
    show (match as d s with | some s1 => _ | none => _) = _
    rw [h1]
    simp only [h2]
    exact g1
theorem sfor_ind {ds : List PyData} {s s0 : S} (hic : ic F s = some (ds, s0, [])) (R : Nat → S → Prop) (h0 : R 0 s0) (st : ∀ (j : Nat) (d : PyData) (s : S), ds[j]? = some d → R j s → ∃ s1 s2, as d s = some s1 ∧ b F s1 = some (.nx, s2) ∧ R (j + 1) s2) :
    ∃ s', sFor as ic b F s = some (.nx, s') ∧ R ds.length s' := by
  obtain ⟨s', g1, g2⟩ := for_ind (as := as) (b := b) (F := F) R ds 0 s0 h0 fun j d s hj hr => by
    have := st j d s hj (by rw [Nat.zero_add] at hr; exact hr)
    rw [Nat.zero_add]; exact this
  rw [Nat.zero_add] at g2
  refine ⟨s', ?_, g2⟩
  unfold sFor
  rw [hic]
  exact g1
end
end Ev
/-! Dt1: trees of whole numbers, as data: keys, equality, texts (plain). -/
namespace Ev
open PySem PySem.Spec L2
mutual
/-- a whole number, or a tuple of such trees -/
def itr : PyData → Bool
  | .int _ => true
  | .tuple ds => itrA ds
  | _ => false
def itrA : List PyData → Bool
  | [] => true
  | d :: ds => itr d && itrA ds
end
theorem itrA_iff : ∀ {ds : List PyData}, itrA ds = true ↔ ∀ d ∈ ds, itr d = true
  | [] => by simp [itrA]
  | d :: ds => by
    unfold itrA
    rw [Bool.and_eq_true, itrA_iff]
    constructor
    · rintro ⟨h1, h2⟩ x hx
      rcases List.mem_cons.mp hx with rfl | hx
      · exact h1
      · exact h2 x hx
    · exact fun h => ⟨h d List.mem_cons_self, fun x hx => h x (List.mem_cons_of_mem _ hx)⟩
mutual
theorem itr_key : ∀ (d : PyData), itr d = true → ∃ k, keyOf d = some k
  | .int i, _ => ⟨.num i, rfl⟩
  | .tuple ds, h => by
    obtain ⟨ks, e⟩ := itrA_key ds (by unfold itr at h; exact h)
    exact ⟨.tup ks, by unfold keyOf; rw [e]; rfl⟩
  | .none, h => by cases h
  | .bool _, h => by cases h
  | .str _, h => by cases h
  | .list _, h => by cases h
  | .dict _, h => by cases h
theorem itrA_key : ∀ (ds : List PyData), itrA ds = true → ∃ ks, keysOf ds = some ks
  | [], _ => ⟨[], rfl⟩
  | d :: ds, h => by
    unfold itrA at h
    rw [Bool.and_eq_true] at h
    obtain ⟨k, e⟩ := itr_key d h.1
    obtain ⟨ks, e2⟩ := itrA_key ds h.2
    exact ⟨k :: ks, by unfold keysOf; rw [e, e2]⟩
end
mutual
theorem key_inj : ∀ (d e : PyData), itr d = true → itr e = true → keyOf d = keyOf e → d = e
  | .int i, e, _, he, h => by
    cases e with
    | int j => unfold keyOf at h; cases h; rfl
    | tuple es =>
      obtain ⟨k, q⟩ := itr_key _ he
      rw [q] at h
      unfold keyOf at q h
      rw [Option.map_eq_some_iff] at q
      obtain ⟨ks, _, rfl⟩ := q
      cases h
    | _ => cases he
  | .tuple ds, e, hd, he, h => by
    cases e with
    | int j =>
      obtain ⟨k, q⟩ := itr_key _ hd
      rw [q] at h
      unfold keyOf at q h
      rw [Option.map_eq_some_iff] at q
      obtain ⟨ks, _, rfl⟩ := q
      cases h
    | tuple es =>
      unfold itr at hd he
      obtain ⟨ks, q1⟩ := itrA_key ds hd
      obtain ⟨ls, q2⟩ := itrA_key es he
      unfold keyOf at h
      rw [q1, q2] at h
      have : ks = ls := by
        have := Option.some.inj h
        injection this
      rw [keys_inj ds es hd he (by rw [q1, q2, this])]
    | _ => cases he
  | .none, _, hd, _, _ => by cases hd
  | .bool _, _, hd, _, _ => by cases hd
  | .str _, _, hd, _, _ => by cases hd
  | .list _, _, hd, _, _ => by cases hd
  | .dict _, _, hd, _, _ => by cases hd
theorem keys_inj : ∀ (ds es : List PyData), itrA ds = true → itrA es = true → keysOf ds = keysOf es → ds = es
  | [], [], _, _, _ => rfl
  | [], e :: es, _, he, h => by
    obtain ⟨ks, q⟩ := itrA_key _ he
    rw [q] at h
    unfold keysOf at q h
    split at q
    · cases q; cases h
    · cases q
  | d :: ds, [], hd, _, h => by
    obtain ⟨ks, q⟩ := itrA_key _ hd
    rw [q] at h
    unfold keysOf at q h
    split at q
    · cases q; cases h
    · cases q
  | d :: ds, e :: es, hd, he, h => by
    unfold itrA at hd he
    rw [Bool.and_eq_true] at hd he
    obtain ⟨k, q1⟩ := itr_key d hd.1
    obtain ⟨ks, q2⟩ := itrA_key ds hd.2
    obtain ⟨l, q3⟩ := itr_key e he.1
    obtain ⟨ls, q4⟩ := itrA_key es he.2
    have h' : (some (k :: ks) : Option (List NestedKey)) = some (l :: ls) := by
      unfold keysOf at h
      rw [q1, q2, q3, q4] at h
      exact h
    have h'' := Option.some.inj h'
    obtain ⟨h1, h2⟩ := List.cons.inj h''
    rw [key_inj d e hd.1 he.1 (by rw [q1, q3, h1]), keys_inj ds es hd.2 he.2 (by rw [q2, q4, h2])]
end
theorem keq_itr {d e : PyData} (hd : itr d = true) (he : itr e = true) : keq d e = true ↔ d = e := by
  obtain ⟨k, q1⟩ := itr_key d hd
  obtain ⟨l, q2⟩ := itr_key e he
  unfold keq
  rw [q1, q2]
  constructor
  · intro h
    exact key_inj d e hd he (by rw [q1, q2, of_decide_eq_true h])
  · rintro rfl
    rw [q1] at q2
    cases q2
    simp
mutual
theorem eqv_itr : ∀ (d e : PyData), itr d = true → itr e = true → (PyData.eqv d e = true ↔ d = e)
  | .int i, e, _, he => by
    cases e with
    | int j => simp [PyData.eqv]
    | tuple es => simp [PyData.eqv]
    | _ => cases he
  | .tuple ds, e, hd, he => by
    cases e with
    | int j => simp [PyData.eqv]
    | tuple es =>
      unfold itr at hd he
      simp only [PyData.eqv, PyData.tuple.injEq]
      exact eqvA_itr ds es hd he
    | _ => cases he
  | .none, _, hd, _ => by cases hd
  | .bool _, _, hd, _ => by cases hd
  | .str _, _, hd, _ => by cases hd
  | .list _, _, hd, _ => by cases hd
  | .dict _, _, hd, _ => by cases hd
theorem eqvA_itr : ∀ (ds es : List PyData), itrA ds = true → itrA es = true → (PyData.eqvAll ds es = true ↔ ds = es)
  | [], [], _, _ => by simp [PyData.eqvAll]
  | [], e :: es, _, _ => by simp [PyData.eqvAll]
  | d :: ds, [], _, _ => by simp [PyData.eqvAll]
  | d :: ds, e :: es, hd, he => by
    unfold itrA at hd he
    rw [Bool.and_eq_true] at hd he
    simp only [PyData.eqvAll, Bool.and_eq_true, List.cons.injEq]
    rw [eqv_itr d e hd.1 he.1, eqvA_itr ds es hd.2 he.2]
end
mutual
theorem itr_lay : ∀ (d : PyData), itr d = true → PyData.canLay0 d = true
  | .int _, _ => by simp [PyData.canLay0]
  | .tuple ds, h => by
    unfold itr at h
    simp only [PyData.canLay0]
    exact itrA_lay ds h
  | .none, h => by cases h
  | .bool _, h => by cases h
  | .str _, h => by cases h
  | .list _, h => by cases h
  | .dict _, h => by cases h
theorem itrA_lay : ∀ (ds : List PyData), itrA ds = true → PyData.canLayAll0 ds = true
  | [], _ => by simp [PyData.canLayAll0]
  | d :: ds, h => by
    unfold itrA at h
    rw [Bool.and_eq_true] at h
    simp only [PyData.canLayAll0, Bool.and_eq_true]
    exact ⟨itr_lay d h.1, itrA_lay ds h.2⟩
end
theorem shp_itr {d : PyData} (h : itr d = true) (hd : d.depth ≤ 64) : shp d = true := by
  show (d.canLay0 && decide (d.depth ≤ 64)) = true
  rw [itr_lay d h, decide_eq_true hd]; rfl
end Ev
/-! Dt2: texts of trees of small numbers tell the trees (plain). -/
namespace Ev
open PySem PySem.Spec L2
mutual
/-- a tree of numbers from 0 to 99 -/
def its : PyData → Bool
  | .int i => decide (0 ≤ i) && decide (i < 100)
  | .tuple ds => itsA ds
  | _ => false
def itsA : List PyData → Bool
  | [] => true
  | d :: ds => its d && itsA ds
end
mutual
theorem its_itr : ∀ (d : PyData), its d = true → itr d = true
  | .int _, _ => rfl
  | .tuple ds, h => by unfold its at h; unfold itr; exact itsA_itr ds h
  | .none, h => by cases h
  | .bool _, h => by cases h
  | .str _, h => by cases h
  | .list _, h => by cases h
  | .dict _, h => by cases h
theorem itsA_itr : ∀ (ds : List PyData), itsA ds = true → itrA ds = true
  | [], _ => rfl
  | d :: ds, h => by
    unfold itsA at h
    rw [Bool.and_eq_true] at h
    unfold itrA
    rw [its_itr d h.1, itsA_itr ds h.2]; rfl
end
def shI (i : Int) : List Nat := ((toString i : String) : Str).cps.toList
def sh (d : PyData) : List Nat := d.shown.cps.toList
def restT : List PyData → List Nat
  | [] => []
  | [x] => sh x ++ [41]
  | x :: y :: r => sh x ++ 44 :: 32 :: restT (y :: r)
def bodyT : List PyData → List Nat
  | [] => [41]
  | [x] => sh x ++ [44, 41]
  | x :: y :: r => sh x ++ 44 :: 32 :: restT (y :: r)
theorem join_rest : ∀ (x : PyData) (ds : List PyData), (Str.join ", " (PyData.shownAll (x :: ds))).cps.toList ++ [41] = restT (x :: ds)
  | x, [] => by
    show (PyData.shown x).cps.toList ++ [41] = _
    rfl
  | x, y :: r => by
    have ih := join_rest y r
    show (PyData.shown x ++ (", " : Str) ++ Str.join ", " (PyData.shownAll (y :: r))).cps.toList ++ [41] = sh x ++ 44 :: 32 :: restT (y :: r)
    rw [← ih]
    simp only [Str.cps_append, Array.toList_append, List.append_assoc]
    rfl
theorem sh_tup (ds : List PyData) : sh (.tuple ds) = 40 :: bodyT ds := by
  unfold sh
  simp only [PyData.shown]
  unfold tupleText
  cases ds with
  | nil => rfl
  | cons x r =>
    cases r with
    | nil =>
      simp only [Str.cps_append, Array.toList_append, PyData.shownAll]
      rfl
    | cons y r =>
      have h := join_rest x (y :: r)
      simp only [Str.cps_append, Array.toList_append]
      have e : ((PyData.shownAll (x :: y :: r)).length == 1) = false := by simp [PyData.shownAll]
      rw [e]
      show [40] ++ (Str.join ", " (PyData.shownAll (x :: y :: r))).cps.toList ++ [41] = 40 :: restT (x :: y :: r)
      rw [← h]
      simp
theorem shI_inj : ∀ i j : Fin 100, shI (i.val : Int) = shI (j.val : Int) → i = j := by decide +kernel
theorem shI_small {i j : Int} (hi : 0 ≤ i ∧ i < 100) (hj : 0 ≤ j ∧ j < 100) (h : shI i = shI j) : i = j := by
  have := shI_inj ⟨i.toNat, by omega⟩ ⟨j.toNat, by omega⟩ (by
    show shI ((i.toNat : Nat) : Int) = shI ((j.toNat : Nat) : Int)
    rw [Int.toNat_of_nonneg hi.1, Int.toNat_of_nonneg hj.1]; exact h)
  have := Fin.mk.inj this
  omega
def stop (l : List Nat) : Prop := l = [] ∨ ∃ c r, l = c :: r ∧ (c = 41 ∨ c = 44)
theorem split_at : ∀ (x y a b : List Nat), (∀ c ∈ x, c ≠ 41 ∧ c ≠ 44) → (∀ c ∈ y, c ≠ 41 ∧ c ≠ 44) → stop a → stop b → x ++ a = y ++ b → x = y ∧ a = b
  | [], [], a, b, _, _, _, _, h => ⟨rfl, h⟩
  | [], c :: y, a, b, _, hy, ha, _, h => by
    rcases ha with rfl | ⟨e, r, rfl, he⟩
    · cases h
    · rw [List.nil_append, List.cons_append] at h
      injection h with h1 _
      subst h1
      have := hy _ List.mem_cons_self
      omega
  | c :: x, [], a, b, hx, _, _, hb, h => by
    rcases hb with rfl | ⟨e, r, rfl, he⟩
    · cases h
    · rw [List.nil_append, List.cons_append] at h
      injection h with h1 _
      subst h1
      have := hx _ List.mem_cons_self
      omega
  | c :: x, d :: y, a, b, hx, hy, ha, hb, h => by
    rw [List.cons_append, List.cons_append] at h
    injection h with h1 h2
    obtain ⟨e1, e2⟩ := split_at x y a b (fun z hz => hx z (List.mem_cons_of_mem _ hz)) (fun z hz => hy z (List.mem_cons_of_mem _ hz)) ha hb h2
    exact ⟨by rw [h1, e1], e2⟩
theorem shI_free (i : Int) : ∀ c ∈ shI i, c ≠ 41 ∧ c ≠ 44 := fun c hc => ⟨fun e => PyProof.Rows.int_text_free' 41 ⟨by decide, by decide⟩ i (by rw [← e]; exact hc), fun e => PyProof.Rows.int_text_free' 44 ⟨by decide, by decide⟩ i (by rw [← e]; exact hc)⟩
theorem shI_40 (i : Int) : 40 ∉ shI i := PyProof.Rows.int_text_free' 40 ⟨by decide, by decide⟩ i
theorem sh_int (i : Int) : sh (.int i) = shI i := rfl
/-- the text of a tree does not begin with a ) -/
theorem sh_no41 {d : PyData} (h : its d = true) {a r : List Nat} (hs : ∀ q, a ≠ 41 :: q) : sh d ++ a ≠ 41 :: r := by
  cases d with
  | int i =>
    intro e
    rw [sh_int] at e
    cases hx : shI i with
    | nil => rw [hx] at e; exact hs _ e
    | cons c x =>
      rw [hx] at e
      injection e with e1 _
      have := shI_free i c (by rw [hx]; exact List.mem_cons_self)
      omega
  | tuple ds =>
    intro e
    rw [sh_tup] at e
    injection e with e1 _
    cases e1
  | _ => cases h
mutual
theorem sh_dec : ∀ (d e : PyData) (a b : List Nat), its d = true → its e = true → stop a → stop b → sh d ++ a = sh e ++ b → d = e ∧ a = b
  | .int i, e, a, b, hd, he, ha, hb, h => by
    cases e with
    | int j =>
      unfold its at hd he
      simp only [Bool.and_eq_true, decide_eq_true_eq] at hd he
      obtain ⟨h1, h2⟩ := split_at _ _ a b (shI_free i) (shI_free j) ha hb h
      exact ⟨by rw [shI_small hd he h1], h2⟩
    | tuple es =>
      rw [sh_int, sh_tup] at h
      exfalso
      cases hx : shI i with
      | nil =>
        rw [hx] at h
        rcases ha with rfl | ⟨c, r, rfl, hc⟩
        · cases h
        · injection h with h1 _
          omega
      | cons c x =>
        rw [hx] at h
        injection h with h1 _
        exact shI_40 i (by rw [hx, h1]; exact List.mem_cons_self)
    | _ => cases he
  | .tuple ds, e, a, b, hd, he, ha, hb, h => by
    cases e with
    | int j =>
      rw [sh_int, sh_tup] at h
      exfalso
      cases hx : shI j with
      | nil =>
        rw [hx] at h
        rcases hb with rfl | ⟨c, r, rfl, hc⟩
        · cases h
        · injection h with h1 _
          omega
      | cons c x =>
        rw [hx] at h
        injection h with h1 _
        exact shI_40 j (by rw [hx, ← h1]; exact List.mem_cons_self)
    | tuple es =>
      unfold its at hd he
      rw [sh_tup, sh_tup] at h
      injection h with _ h
      obtain ⟨h1, h2⟩ := body_dec ds es a b hd he h
      exact ⟨by rw [h1], h2⟩
    | _ => cases he
  | .none, _, _, _, hd, _, _, _, _ => by cases hd
  | .bool _, _, _, _, hd, _, _, _, _ => by cases hd
  | .str _, _, _, _, hd, _, _, _, _ => by cases hd
  | .list _, _, _, _, hd, _, _, _, _ => by cases hd
  | .dict _, _, _, _, hd, _, _, _, _ => by cases hd
theorem body_dec : ∀ (ds es : List PyData) (a b : List Nat), itsA ds = true → itsA es = true → bodyT ds ++ a = bodyT es ++ b → ds = es ∧ a = b
  | [], [], a, b, _, _, h => by
    have h : 41 :: a = 41 :: b := h
    injection h with _ h
    exact ⟨rfl, h⟩
  | [], [y], a, b, _, he, h => by
    unfold itsA at he
    rw [Bool.and_eq_true] at he
    have h : 41 :: a = (sh y ++ [44, 41]) ++ b := h
    rw [List.append_assoc] at h
    exact absurd h.symm (sh_no41 he.1 fun q e => by cases e)
  | [], y :: z :: r, a, b, _, he, h => by
    unfold itsA at he
    rw [Bool.and_eq_true] at he
    have h : 41 :: a = (sh y ++ 44 :: 32 :: restT (z :: r)) ++ b := h
    rw [List.append_assoc] at h
    exact absurd h.symm (sh_no41 he.1 fun q e => by cases e)
  | [x], [], a, b, hd, _, h => by
    unfold itsA at hd
    rw [Bool.and_eq_true] at hd
    have h : (sh x ++ [44, 41]) ++ a = 41 :: b := h
    rw [List.append_assoc] at h
    exact absurd h (sh_no41 hd.1 fun q e => by cases e)
  | x :: y :: r, [], a, b, hd, _, h => by
    unfold itsA at hd
    rw [Bool.and_eq_true] at hd
    have h : (sh x ++ 44 :: 32 :: restT (y :: r)) ++ a = 41 :: b := h
    rw [List.append_assoc] at h
    exact absurd h (sh_no41 hd.1 fun q e => by cases e)
  | [x], [y], a, b, hd, he, h => by
    unfold itsA at hd he
    rw [Bool.and_eq_true] at hd he
    have h : (sh x ++ [44, 41]) ++ a = (sh y ++ [44, 41]) ++ b := h
    rw [List.append_assoc, List.append_assoc] at h
    obtain ⟨h1, h2⟩ := sh_dec x y _ _ hd.1 he.1 (.inr ⟨44, _, rfl, .inr rfl⟩) (.inr ⟨44, _, rfl, .inr rfl⟩) h
    have h2 : 44 :: 41 :: a = 44 :: 41 :: b := h2
    injection h2 with _ h2
    injection h2 with _ h2
    exact ⟨by rw [h1], h2⟩
  | [x], y :: z :: r, a, b, hd, he, h => by
    unfold itsA at hd he
    rw [Bool.and_eq_true] at hd he
    have h : (sh x ++ [44, 41]) ++ a = (sh y ++ 44 :: 32 :: restT (z :: r)) ++ b := h
    rw [List.append_assoc, List.append_assoc] at h
    obtain ⟨h1, h2⟩ := sh_dec x y _ _ hd.1 he.1 (.inr ⟨44, _, rfl, .inr rfl⟩) (.inr ⟨44, _, rfl, .inr rfl⟩) h
    have h2 : 44 :: 41 :: a = 44 :: 32 :: (restT (z :: r) ++ b) := h2
    injection h2 with _ h2
    injection h2 with h2 _
    cases h2
  | x :: z :: r, [y], a, b, hd, he, h => by
    unfold itsA at hd he
    rw [Bool.and_eq_true] at hd he
    have h : (sh x ++ 44 :: 32 :: restT (z :: r)) ++ a = (sh y ++ [44, 41]) ++ b := h
    rw [List.append_assoc, List.append_assoc] at h
    obtain ⟨h1, h2⟩ := sh_dec x y _ _ hd.1 he.1 (.inr ⟨44, _, rfl, .inr rfl⟩) (.inr ⟨44, _, rfl, .inr rfl⟩) h
    have h2 : 44 :: 32 :: (restT (z :: r) ++ a) = 44 :: 41 :: b := h2
    injection h2 with _ h2
    injection h2 with h2 _
    cases h2
  | x :: x' :: r, y :: y' :: r', a, b, hd, he, h => by
    unfold itsA at hd he
    rw [Bool.and_eq_true] at hd he
    have h : (sh x ++ 44 :: 32 :: restT (x' :: r)) ++ a = (sh y ++ 44 :: 32 :: restT (y' :: r')) ++ b := h
    rw [List.append_assoc, List.append_assoc] at h
    obtain ⟨h1, h2⟩ := sh_dec x y _ _ hd.1 he.1 (.inr ⟨44, _, rfl, .inr rfl⟩) (.inr ⟨44, _, rfl, .inr rfl⟩) h
    have h2 : 44 :: 32 :: (restT (x' :: r) ++ a) = 44 :: 32 :: (restT (y' :: r') ++ b) := h2
    injection h2 with _ h2
    injection h2 with _ h2
    obtain ⟨h3, h4⟩ := rest_dec (x' :: r) (y' :: r') a b (by simp) (by simp) hd.2 he.2 h2
    exact ⟨by rw [h1, h3], h4⟩
theorem rest_dec : ∀ (ds es : List PyData) (a b : List Nat), ds ≠ [] → es ≠ [] → itsA ds = true → itsA es = true → restT ds ++ a = restT es ++ b → ds = es ∧ a = b
  | [], _, _, _, h, _, _, _, _ => absurd rfl h
  | _, [], _, _, _, h, _, _, _ => absurd rfl h
  | [x], [y], a, b, _, _, hd, he, h => by
    unfold itsA at hd he
    rw [Bool.and_eq_true] at hd he
    have h : (sh x ++ [41]) ++ a = (sh y ++ [41]) ++ b := h
    rw [List.append_assoc, List.append_assoc] at h
    obtain ⟨h1, h2⟩ := sh_dec x y _ _ hd.1 he.1 (.inr ⟨41, _, rfl, .inl rfl⟩) (.inr ⟨41, _, rfl, .inl rfl⟩) h
    have h2 : 41 :: a = 41 :: b := h2
    injection h2 with _ h2
    exact ⟨by rw [h1], h2⟩
  | [x], y :: z :: r, a, b, _, _, hd, he, h => by
    unfold itsA at hd he
    rw [Bool.and_eq_true] at hd he
    have h : (sh x ++ [41]) ++ a = (sh y ++ 44 :: 32 :: restT (z :: r)) ++ b := h
    rw [List.append_assoc, List.append_assoc] at h
    obtain ⟨h1, h2⟩ := sh_dec x y _ _ hd.1 he.1 (.inr ⟨41, _, rfl, .inl rfl⟩) (.inr ⟨44, _, rfl, .inr rfl⟩) h
    have h2 : 41 :: a = 44 :: 32 :: (restT (z :: r) ++ b) := h2
    injection h2 with h2 _
    cases h2
  | x :: z :: r, [y], a, b, _, _, hd, he, h => by
    unfold itsA at hd he
    rw [Bool.and_eq_true] at hd he
    have h : (sh x ++ 44 :: 32 :: restT (z :: r)) ++ a = (sh y ++ [41]) ++ b := h
    rw [List.append_assoc, List.append_assoc] at h
    obtain ⟨h1, h2⟩ := sh_dec x y _ _ hd.1 he.1 (.inr ⟨44, _, rfl, .inr rfl⟩) (.inr ⟨41, _, rfl, .inl rfl⟩) h
    have h2 : 44 :: 32 :: (restT (z :: r) ++ a) = 41 :: b := h2
    injection h2 with h2 _
    cases h2
  | x :: x' :: r, y :: y' :: r', a, b, _, _, hd, he, h => by
    unfold itsA at hd he
    rw [Bool.and_eq_true] at hd he
    have h : (sh x ++ 44 :: 32 :: restT (x' :: r)) ++ a = (sh y ++ 44 :: 32 :: restT (y' :: r')) ++ b := h
    rw [List.append_assoc, List.append_assoc] at h
    obtain ⟨h1, h2⟩ := sh_dec x y _ _ hd.1 he.1 (.inr ⟨44, _, rfl, .inr rfl⟩) (.inr ⟨44, _, rfl, .inr rfl⟩) h
    have h2 : 44 :: 32 :: (restT (x' :: r) ++ a) = 44 :: 32 :: (restT (y' :: r') ++ b) := h2
    injection h2 with _ h2
    injection h2 with _ h2
    obtain ⟨h3, h4⟩ := rest_dec (x' :: r) (y' :: r') a b (by simp) (by simp) hd.2 he.2 h2
    exact ⟨by rw [h1, h3], h4⟩
end
theorem shown_inj {d e : PyData} (hd : its d = true) (he : its e = true) (h : d.shown = e.shown) : d = e :=
  (sh_dec d e [] [] hd he (.inl rfl) (.inl rfl) (by unfold sh; rw [h])).1
end Ev
/-! Dt3: lots of trees: kept once, sorted (plain). -/
namespace Ev
open PySem PySem.Spec L2
/-! ### sorting tells the lot alone -/
theorem perm_sorted {α : Type} {le : α → α → Bool} : ∀ {l m : List α}, l.Perm m → l.Pairwise (fun x y => le x y = true) → m.Pairwise (fun x y => le x y = true) → (∀ x ∈ l, ∀ y ∈ l, le x y = true → le y x = true → x = y) → l = m
  | [], m, p, _, _, _ => (List.nil_perm.mp p).symm
  | x :: l, [], p, _, _, _ => by have := p.length_eq; simp at this
  | x :: l, y :: m, p, h1, h2, ha => by
    have hx : x ∈ y :: m := p.mem_iff.mp List.mem_cons_self
    have hy : y ∈ x :: l := p.mem_iff.mpr List.mem_cons_self
    have e : x = y := by
      rcases List.mem_cons.mp hx with e | hx'
      · exact e
      · rcases List.mem_cons.mp hy with e | hy'
        · exact e.symm
        · exact ha x List.mem_cons_self y hy ((List.pairwise_cons.mp h1).1 y hy') ((List.pairwise_cons.mp h2).1 x hx')
    subst e
    rw [perm_sorted (p.cons_inv) (List.pairwise_cons.mp h1).2 (List.pairwise_cons.mp h2).2 fun a ha' b hb' => ha a (List.mem_cons_of_mem _ ha') b (List.mem_cons_of_mem _ hb')]
theorem toks_inj {d e : PyData} (hd : itr d = true) (he : itr e = true) (ha : PySem.W.alike d e = true) (h : PySem.W.keyToks d = PySem.W.keyToks e) : d = e := by
  obtain ⟨h1, h2⟩ := PySem.W.toks_eqv d e ha
  cases q : PyData.eqv d e with
  | true => exact (eqv_itr d e hd he).mp q
  | false =>
    have a1 := h2 q [] [.inl 0]
    have a2 := h2 q [.inl 0] []
    rw [← h] at a1 a2
    rw [PySem.W.lex_pre] at a1 a2
    rw [show PyProof.Rows.lexLt PyProof.Rows.itemOrd [] [.inl 0] = true from rfl] at a1
    rw [show PyProof.Rows.lexLt PyProof.Rows.itemOrd [.inl 0] [] = false from rfl] at a2
    rw [← a1] at a2
    cases a2
theorem le_antisymm {d e : PyData} (hd : itr d = true) (he : itr e = true) (ha : PySem.W.alike d e = true) (h1 : PySem.W.dataLe false id d e = true) (h2 : PySem.W.dataLe false id e d = true) : d = e := by
  refine toks_inj hd he ha ?_
  rw [PySem.W.dataLe_eq] at h1 h2
  simp only [cond_false, id, Bool.not_eq_true'] at h1 h2
  exact (PyProof.Rows.listOrd PyProof.Rows.itemOrd).total _ _ h2 h1
theorem sortD_perm (l : List PyData) : (sortD l).Perm l := List.mergeSort_perm l _
theorem sortD_pair (l : List PyData) : (sortD l).Pairwise (fun x y => PySem.W.dataLe false id x y = true) := by
  have T := PySem.W.sortLe_total (PyProof.Rows.listOrd PyProof.Rows.itemOrd) false (fun b : PyData => PySem.W.keyToks (id b))
  exact List.pairwise_mergeSort (fun a b c => T.trans a b c) (fun a b => by have := T.total a b; simpa using this) l
/-- what is sorted hangs on what is in it alone -/
theorem sortD_eq {l m : List PyData} (p : l.Perm m) (hi : ∀ d ∈ l, itr d = true) (ha : ∀ d ∈ l, ∀ e ∈ l, PySem.W.alike d e = true) : sortD l = sortD m := by
  refine perm_sorted (((sortD_perm l).trans p).trans (sortD_perm m).symm) (sortD_pair l) (sortD_pair m) fun x hx y hy h1 h2 => ?_
  have hx' := (sortD_perm l).mem_iff.mp hx
  have hy' := (sortD_perm l).mem_iff.mp hy
  exact le_antisymm (hi x hx') (hi y hy') (ha x hx' y hy') h1 h2
/-! ### kept once -/
open Classical in
noncomputable def addU {α : Type} (acc : List α) (d : α) : List α := if d ∈ acc then acc else acc ++ [d]
noncomputable def dd {α : Type} (l : List α) : List α := l.foldl addU []
theorem addU_mem {α : Type} {acc : List α} {d x : α} : x ∈ addU acc d ↔ x ∈ acc ∨ x = d := by
  unfold addU
  split
  · rename_i h
    exact ⟨.inl, fun z => z.elim id fun e => by rw [e]; exact h⟩
  · simp
theorem addU_nodup {α : Type} {acc : List α} {d : α} (h : acc.Nodup) : (addU acc d).Nodup := by
  unfold addU
  split
  · exact h
  · rename_i hn
    rw [List.nodup_append]
    refine ⟨h, by simp, fun a ha b hb => ?_⟩
    rw [List.mem_singleton.mp hb]
    exact fun e => hn (by rw [← e]; exact ha)
theorem foldU_mem {α : Type} : ∀ {l acc : List α} {x : α}, x ∈ l.foldl addU acc ↔ x ∈ acc ∨ x ∈ l
  | [], acc, x => by simp
  | d :: l, acc, x => by
    rw [List.foldl_cons, foldU_mem, addU_mem, List.mem_cons]
    constructor
    · rintro ((h | h) | h)
      · exact .inl h
      · exact .inr (.inl h)
      · exact .inr (.inr h)
    · rintro (h | h | h)
      · exact .inl (.inl h)
      · exact .inl (.inr h)
      · exact .inr h
theorem foldU_nodup {α : Type} : ∀ {l acc : List α}, acc.Nodup → (l.foldl addU acc).Nodup
  | [], _, h => h
  | d :: l, _, h => foldU_nodup (l := l) (addU_nodup h)
theorem dd_mem {α : Type} {l : List α} {x : α} : x ∈ dd l ↔ x ∈ l := by unfold dd; rw [foldU_mem]; simp
theorem dd_nodup {α : Type} (l : List α) : (dd l).Nodup := foldU_nodup List.nodup_nil
theorem dd_perm {α : Type} {l m : List α} (h : ∀ x, x ∈ l ↔ x ∈ m) : (dd l).Perm (dd m) :=
  (List.perm_ext_iff_of_nodup (dd_nodup l) (dd_nodup m)).mpr fun x => by rw [dd_mem, dd_mem]; exact h x
theorem addU_len {α : Type} {acc : List α} {d : α} : (addU acc d).length ≤ acc.length + 1 := by
  unfold addU
  split <;> simp
theorem foldU_len {α : Type} : ∀ {l acc : List α}, (l.foldl addU acc).length ≤ acc.length + l.length
  | [], acc => by simp
  | d :: l, acc => by
    have h1 := foldU_len (l := l) (acc := addU acc d)
    have h2 := addU_len (acc := acc) (d := d)
    rw [List.foldl_cons, List.length_cons]
    omega
theorem dd_len {α : Type} (l : List α) : (dd l).length ≤ l.length := by have := foldU_len (l := l) (acc := []); simpa [dd] using this
/-- a dict with trees for keys: its keys -/
theorem dPut_keys {kvs : List (PyData × PyData)} {k v : PyData} (hk : itr k = true) (hs : ∀ p ∈ kvs, itr p.1 = true) : (dPut kvs k v).map (·.1) = addU (kvs.map (·.1)) k := by
  have hany : (kvs.any fun p => keq p.1 k) = true ↔ k ∈ kvs.map (·.1) := by
    rw [List.any_eq_true]
    constructor
    · rintro ⟨p, hp, e⟩
      exact List.mem_map.mpr ⟨p, hp, (keq_itr (hs p hp) hk).mp e⟩
    · intro h
      obtain ⟨p, hp, e⟩ := List.mem_map.mp h
      exact ⟨p, hp, (keq_itr (hs p hp) hk).mpr e⟩
  unfold dPut addU
  by_cases h : k ∈ kvs.map (·.1)
  · rw [if_pos (hany.mpr h), if_pos h, List.map_map]
    refine List.map_congr_left fun p hp => ?_
    show (if keq p.1 k = true then (p.1, v) else p).1 = p.1
    split <;> rfl
  · rw [if_neg (fun z => h (hany.mp z)), if_neg h, List.map_append]
    rfl
theorem dPut_mem {kvs : List (PyData × PyData)} {k v : PyData} {p : PyData × PyData} (h : p ∈ dPut kvs k v) : p ∈ kvs ∨ p.2 = v ∧ (p.1 = k ∨ ∃ q ∈ kvs, q.1 = p.1) := by
  unfold dPut at h
  split at h
  · obtain ⟨q, hq, e⟩ := List.mem_map.mp h
    split at e
    · subst e
      exact .inr ⟨rfl, .inr ⟨q, hq, rfl⟩⟩
    · subst e
      exact .inl hq
  · rcases List.mem_append.mp h with h | h
    · exact .inl h
    · rw [List.mem_singleton.mp h]
      exact .inr ⟨rfl, .inl rfl⟩
end Ev
/-! Ev29: dict comprehensions that keep a lot of trees (plain). -/
namespace Ev
open PySem PySem.Spec L2
section
variable {as : PyData → S → Option S} {own : List Nat} {ck cv : CE} {F : Fn} {ic : IC}
theorem dc_keys (E : List (Option Vx)) (src : Option Src) (f : PyData → PyData) (y : PyData) : ∀ (ds : List PyData) (acc : List (PyData × PyData)),
    (∀ d ∈ ds, ∃ s1 E1 E', as d ⟨E, src⟩ = some s1 ∧ ck F s1 = some (.d (f d), ⟨E1, src⟩) ∧ cv F ⟨E1, src⟩ = some (.d y, ⟨E', src⟩) ∧ wipeE E' own = E ∧ itr (f d) = true ∧ isKN (f d) = true) →
    (∀ p ∈ acc, itr p.1 = true ∧ isKN p.1 = true) → acc.length + ds.length ≤ sizeLine →
    ∀ E0, wipeE E0 own = E → ∃ kvs E2, dcL as own bYes ck cv F ds acc ⟨E0, src⟩ = some (kvs, ⟨E2, src⟩) ∧ wipeE E2 own = E ∧ kvs.map (·.1) = (ds.map f).foldl addU (acc.map (·.1))
  | [], acc, _, _, _, E0, he => ⟨acc, E0, rfl, he, rfl⟩
  | d :: ds, acc, st, ha, hz, E0, he => by
    obtain ⟨s1, E1, E', h1, h2, h3, h4, h5, h6⟩ := st d List.mem_cons_self
    rw [List.length_cons] at hz
    have hk : dKey acc (f d) = true := by
      unfold dKey
      rw [h6, show (acc.all fun p => isKN p.1) = true from List.all_eq_true.mpr fun p hp => (ha p hp).2]
      simp
    obtain ⟨kvs, E2, g1, g2, g3⟩ := dc_keys E src f y ds (dPut acc (f d) y) (fun d' hd => st d' (List.mem_cons_of_mem _ hd)) (fun p hp => by
      rcases dPut_mem hp with h | ⟨_, h | ⟨q, hq, e⟩⟩
      · exact ha p h
      · rw [h]; exact ⟨h5, h6⟩
      · rw [← e]; exact ha q hq) (by have := dPut_len (kvs := acc) (k := f d) (v := y); omega) E' h4
    refine ⟨kvs, E2, ?_, g2, by rw [g3, dPut_keys h5 fun p hp => (ha p hp).1]; rfl⟩
    show (match as d (wipeS own ⟨E0, src⟩) with | some s1 => _ | none => _) = _
    rw [show wipeS own ⟨E0, src⟩ = ⟨E, src⟩ by unfold wipeS; rw [he], h1]
    show (match ck F s1 with | some (.d k, s3) => _ | _ => none) = _
    rw [h2]
    show (match cv F ⟨E1, src⟩ with | some (.d y, s4) => _ | _ => none) = _
    rw [h3]
    show (if dKey acc (f d) && decide (acc.length < sizeLine) then _ else none) = _
    rw [hk, decide_eq_true (by omega), Bool.and_self, if_pos rfl]
    exact g1
theorem cdc_keys {ds : List PyData} {E1 : List (Option Vx)} {src : Option Src} {s : S} (hic : ic F s = some (ds, ⟨E1, src⟩, [])) (hl : ds.length ≤ sizeLine) (f : PyData → PyData) (y : PyData)
    (st : ∀ d ∈ ds, ∃ s1 E2 E', as d ⟨wipeE E1 own, src⟩ = some s1 ∧ ck F s1 = some (.d (f d), ⟨E2, src⟩) ∧ cv F ⟨E2, src⟩ = some (.d y, ⟨E', src⟩) ∧ wipeE E' own = wipeE E1 own ∧ itr (f d) = true ∧ isKN (f d) = true) :
    ∃ kvs, cDc own as ic bYes ck cv F s = some (.d (.dict kvs), ⟨E1, src⟩) ∧ kvs.map (·.1) = dd (ds.map f) := by
  obtain ⟨kvs, E2, g1, g2, g3⟩ := dc_keys (as := as) (own := own) (ck := ck) (cv := cv) (F := F) (wipeE E1 own) src f y ds [] st (fun p hp => nomatch hp) (by simpa using hl) E1 rfl
  refine ⟨kvs, ?_, g3⟩
  unfold cDc
  rw [hic]
  simp only [hl, if_true, g1]
  show some (Vx.d (.dict _), back [] (unwipeS own ⟨E1, src⟩ (wipeS own ⟨E2, src⟩))) = _
  unfold unwipeS wipeS back
  simp only [List.foldr_nil, g2, unwipe_wipe]
end
end Ev
/-! Ev30: the source of a law (plain). -/
namespace Ev
open PySem PySem.Spec L2
def srcB : CS :=
    (sSeq (sPar [1] [(cC (.int 11))])
    (sSeq (sFor (aName 2) (icAny (.e (cVar false 0))) (sPar [1] [(cBin fMod (.e (cNat fInt [(.e (cBin fAdd (.e (cBin fAdd (.e (cBin fMul (.e (cVar false 1)) (.e (cC (.int 69069))))) (.e (cBin fMul (.e (cVar false 2)) (.e (cC (.int 31))))))) (.e (cC (.int 5)))))])) (.e (cC (.int 2147483629))))]))
    (sRet (cSrc (cUn fRev (.e (cLc [2] (aName 2) (icAny (.e (cVar false 0))) bYes (cNat fAbs [(.e (cVar false 2))])))) (cC (.int 1)) (cVar false 1) (cC (.int 0))))))
theorem cells_ints : ∀ (l : List Int), cellsOf (l.map PyData.int) = some l
  | [] => rfl
  | x :: l => by
    show (cellsOf (l.map PyData.int)).map (x :: ·) = _
    rw [cells_ints l]; rfl
theorem src_run (F : Fn) (ns : List Int) (h : ns.length ≤ 63) : ∃ s', runDef ⟨1, 3, srcB⟩ F [.d (.list (ns.map PyData.int))] none = some (.src, some s') ∧ s'.cells.length ≤ 63 := by
  let R : Nat → S → Prop := fun _ s => ∃ (m : Int) (e2 : Option Vx), s = ⟨[some (.d (.list (ns.map PyData.int))), some (.d (.int m)), e2], none⟩
  obtain ⟨s', hfor, m, e2, rfl⟩ := sfor_ind (as := aName 2) (ic := icAny (.e (cVar false 0))) (F := F) (b := (sPar [1] [(cBin fMod (.e (cNat fInt [(.e (cBin fAdd (.e (cBin fAdd (.e (cBin fMul (.e (cVar false 1)) (.e (cC (.int 69069))))) (.e (cBin fMul (.e (cVar false 2)) (.e (cC (.int 31))))))) (.e (cC (.int 5)))))])) (.e (cC (.int 2147483629))))]))
    (s := ⟨[some (.d (.list (ns.map PyData.int))), some (.d (.int 11)), none], none⟩) (ds := ns.map PyData.int) (s0 := ⟨[some (.d (.list (ns.map PyData.int))), some (.d (.int 11)), none], none⟩) rfl R ⟨11, none, rfl⟩ (by
      rintro j d s hj ⟨m, e2, rfl⟩
      obtain ⟨c, _, rfl⟩ := List.mem_map.mp (List.mem_of_getElem? hj)
      exact ⟨⟨[some (.d (.list (ns.map PyData.int))), some (.d (.int m)), some (.d (.int c))], none⟩, _, rfl, spar1 (cbin (cnat1 (cbin (cbin (cbin rfl rfl (mul_sm _ _ (by decide))) (cbin rfl rfl (mul_sm _ _ (by decide))) rfl) rfl rfl) rfl) rfl (mod_ok _ _ (by decide))), _, _, rfl⟩)
  have hlc := clc_map (own := [2]) (as := aName 2) (ic := icAny (.e (cVar false 0))) (c := cNat fAbs [(.e (cVar false 2))]) (F := F) (ds := ns.map PyData.int) (E1 := [some (.d (.list (ns.map PyData.int))), some (.d (.int m)), e2]) (src := none) (s := ⟨[some (.d (.list (ns.map PyData.int))), some (.d (.int m)), e2], none⟩) rfl (by rw [List.length_map, sizeLine_eq]; omega)
    (fun d => (fAbs [d]).getD .none) (by
      intro d hd
      obtain ⟨c, _, rfl⟩ := List.mem_map.mp hd
      exact ⟨⟨[some (.d (.list (ns.map PyData.int))), some (.d (.int m)), some (.d (.int c))], none⟩, [some (.d (.list (ns.map PyData.int))), some (.d (.int m)), some (.d (.int c))], rfl, rfl, rfl⟩)
  have hm : (ns.map PyData.int).map (fun d => (fAbs [d]).getD .none) = (ns.map fun i => if i < 0 then -i else i).map PyData.int := by
    rw [List.map_map, List.map_map]; rfl
  rw [hm] at hlc
  refine ⟨⟨(ns.map fun i => if i < 0 then -i else i).reverse, 1, m, 0⟩, ?_, by simpa using h⟩
  refine run_ret (s' := ⟨[some (.d (.list (ns.map PyData.int))), some (.d (.int m)), e2], some ⟨(ns.map fun i => if i < 0 then -i else i).reverse, 1, m, 0⟩⟩) rfl ?_
  show srcB F ⟨[some (.d (.list (ns.map PyData.int))), none, none], none⟩ = _
  unfold srcB
  refine e_seq (spar1 (x := .d (.int 11)) rfl) (e_seq hfor (sret ?_))
  have hr : cUn fRev (.e (cLc [2] (aName 2) (icAny (.e (cVar false 0))) bYes (cNat fAbs [(.e (cVar false 2))]))) F ⟨[some (.d (.list (ns.map PyData.int))), some (.d (.int m)), e2], none⟩ = some (.d (.list ((ns.map fun i => if i < 0 then -i else i).reverse.map PyData.int)), ⟨[some (.d (.list (ns.map PyData.int))), some (.d (.int m)), e2], none⟩) := by
    unfold cUn
    simp only [Opd.ev, hlc]
    show some (Vx.d (.list ((ns.map fun i => if i < 0 then -i else i).map PyData.int).reverse), _) = _
    rw [List.map_reverse]
    rfl
  unfold cSrc
  simp only [hr, cells_ints]
  rfl
end Ev
/-! Ev31: x.update(e), x a dict of one's own. -/
namespace Ev
open PySem PySem.Spec L2 PyProof.Rows

mutual
/-- the hash of data without texts -/
def dHash : PyData → Option Int
  | .none => some (reduceHash 0xFCA86420)
  | .bool b => some (hashInt (if b = true then 1 else 0))
  | .int i => some (hashInt i)
  | .tuple ds => (dHashes ds).map fun l => reduceHash (Builtin.Tuple.tupleHashOf l)
  | _ => none
def dHashes : List PyData → Option (List Int)
  | [] => some []
  | d :: ds => match dHash d, dHashes ds with
    | some k, some ks => some (k :: ks)
    | _, _ => none
end
mutual
theorem dHash_is (w : World) : ∀ {d : PyData} {h : Int} {k : NestedKey}, dHash d = some h → keyOf d = some k → k.hash w = h
  | .none, h, k, e, e' => by cases e; cases e'; rfl
  | .bool b, h, k, e, e' => by cases e; cases e'; rfl
  | .int i, h, k, e, e' => by cases e; cases e'; rfl
  | .tuple ds, h, k, e, e' => by
    unfold dHash at e
    unfold keyOf at e'
    rw [Option.map_eq_some_iff] at e e'
    obtain ⟨l, e1, rfl⟩ := e
    obtain ⟨ks, e2, rfl⟩ := e'
    show reduceHash (Builtin.Tuple.tupleHashOf (NestedKey.hashes w ks)) = _
    rw [dHashes_is w e1 e2]
  | .str _, h, k, e, _ => by cases e
  | .list _, h, k, e, _ => by cases e
  | .dict _, h, k, e, _ => by cases e
theorem dHashes_is (w : World) : ∀ {ds : List PyData} {l : List Int} {ks : List NestedKey}, dHashes ds = some l → keysOf ds = some ks → NestedKey.hashes w ks = l
  | [], l, ks, e, e' => by cases e; cases e'; rfl
  | d :: ds, l, ks, e, e' => by
    unfold dHashes at e
    unfold keysOf at e'
    split at e
    · rename_i h hs q1 q2
      cases e
      split at e'
      · rename_i k ks q3 q4
        cases e'
        show NestedKey.hash w k :: NestedKey.hashes w ks = _
        rw [dHash_is w q1 q3, dHashes_is w q2 q4]
      · cases e'
    · cases e
end
/-- no two keys hash alike -/
def apartD (kvs : List (PyData × PyData)) : Bool := match dHashes (kvs.map (·.1)) with
  | some l => decide l.Nodup
  | none => false
def updOk (kvs more : List (PyData × PyData)) : Bool := decide (kvs.length + more.length ≤ sizeLine) &&
  (((kvs.all fun p => isK1 p.1) && (more.all fun p => isK1 p.1)) || ((kvs.all fun p => isKN p.1) && (more.all fun p => isKN p.1) && (!kvs.isEmpty || apartD more)))
theorem keysOf_map : ∀ {xs : List (NestedKey × Addr × V)} {kvs : List (PyData × PyData)}, xs.map (fun x => some x.1) = kvs.map (fun p => keyOf p.1) → keysOf (kvs.map (·.1)) = some (xs.map (·.1))
  | [], [], _ => rfl
  | x :: xs, p :: kvs, e => by
    rw [List.map_cons, List.map_cons] at e
    obtain ⟨e1, e2⟩ := List.cons.inj e
    rw [List.map_cons]
    unfold keysOf
    rw [← e1, keysOf_map e2]
    rfl
  | [], _ :: _, e => by simp at e
  | _ :: _, [], e => by simp at e
theorem hashes_map (w : World) : ∀ ks : List NestedKey, NestedKey.hashes w ks = ks.map (NestedKey.hash w)
  | [] => rfl
  | k :: ks => by rw [List.map_cons, ← hashes_map w ks]; rfl
theorem kn_fst : ∀ {xs : List (NestedKey × Addr × V)} {ys : List (NestedKey × Addr × Value)}, KN xs ys → xs.map (·.1) = ys.map (·.1)
  | _, _, .nil => rfl
  | _, _, .cons h t => by rw [List.map_cons, List.map_cons, h.1, kn_fst t]
section
variable {X : Cx} {pins : List (Addr × Obj)} {σ : L2.St} {H : Hp} {s : Shared} {N : Addr → Prop} {a : Addr} {kvs : List (PyData × PyData)} {v : V} {u : Value} {k : PyData} {A : Around} {E : Value → Shared → Prop}
theorem D_update {b : Addr} {more : List (PyData × PyData)} {Q : Value → Shared → Prop} {o : HO} (hu : A.units + 20 < cLine) (I : Inv X pins σ H s) (h : DAt X.kk N H a kvs) (e : H a = some o) (ho : Plain0 o) (hp : N a) (hb : DAt X.kk N H b more) (hab : a ≠ b) (hz : updOk kvs more = true)
    (q : ∀ o' s', Inv X pins σ (upd H a o') s' → DAt X.kk N (upd H a o') a (dMerge kvs more) → Q .none s') : wpAny (model X.prog X.w) A (call (.builtin "dict.update") [.ref a, .ref b]) Q E s := by
  unfold updOk at hz
  rw [Bool.and_eq_true, decide_eq_true_eq, Bool.or_eq_true, Bool.and_eq_true, Bool.and_eq_true, Bool.and_eq_true] at hz
  obtain ⟨hl, ⟨h1, h2⟩ | ⟨⟨h1, h2⟩, h3⟩⟩ := hz
  · obtain ⟨ks, vs, as⟩ := h.asK I h1
    obtain ⟨ms, rs, bs⟩ := hb.asK I h2
    have z1 := as.rel.length
    have z2 := bs.rel.length
    rw [List.length_map] at z1 z2
    refine call_meetsIn F.slot_dict_update as.dict.typeIs F.entry_dict_update (F.args_dict_update_2 _ _) (meets_dict_update (mixKind X.prog X.w) a b hab bs.sys) ⟨vs, rs, as.dict, bs.dict, by rw [← as.kv.length, ← bs.kv.length]; omega, fun h' dd' _ hs => ?_⟩
    have he : ∃ q, h'.get? a = some q := let ⟨q, _, _, hq, _⟩ := dd'; ⟨q, hq⟩
    obtain ⟨qo, hq⟩ := he
    have hm := length_mergeK ms ks
    refine q (.ext (PhiK X.kk a qo (mergeK ks ms))) _ ?_ ⟨_, _, upd_same, .dK, Paired.mapP (mergeK_rel bs.rel as.rel) fun p q h => ⟨h.1.upd hp e ho, h.2.upd hp e ho⟩⟩
    refine d_write (t' := s.toks) I (mut_plain e ho) hs ⟨qo, hq⟩ (phiK_ok ⟨by omega, as.sys, hq, _, KV.merge bs.kv as.kv, dd'⟩)
  · obtain ⟨xs, ys, as⟩ := h.asN I h1
    obtain ⟨ms, rs, bs⟩ := hb.asN I h2
    have z1 := as.rel.length
    have z2 := bs.rel.length
    rw [List.length_map] at z1 z2
    refine call_update_dictH (knd := nestedKind X.prog X.w) (show A.in1.units + 8 < cLine from by show A.units + 1 + 8 < cLine; omega) hab bs.sys as.dict bs.dict ?_ (by rw [← as.kn.length, ← bs.kn.length]; omega) fun h' dd' _ hs => ?_
    · rw [Bool.or_eq_true] at h3
      rcases h3 with h3 | h3
      · refine .inl fun z => ?_
        subst z
        have x0 : xs = [] := paired_nil' as.kn
        subst x0
        have k0 : kvs = [] := paired_nil as.rel
        subst k0
        cases h3
      · refine .inr ⟨fun y hy => ?_, ?_⟩
        · exact nestedKind_stays.tuple ((let ⟨_, _, _, _, _, _, _, his, _⟩ := bs.dict; his) y hy)
        · unfold apartD at h3
          split at h3
          · rename_i l el
            have e1 := dHashes_is X.w el (keysOf_map bs.keys)
            rw [hashes_map, kn_fst bs.kn] at e1
            have : (rs.map fun x => (nestedKind X.prog X.w).hash x.1) = l := by
              rw [← e1, List.map_map]; rfl
            rw [this]
            simpa using h3
          · cases h3
    · obtain ⟨qo, es, ep, hq, g2, g3, g4, _, g5⟩ := dd'
      have hm := mergeN_len ms xs
      obtain ⟨m1, m2⟩ := mergeN_rel (X := X) bs.rel bs.keys as.rel as.keys
      refine q (.ext (PhiN X.kk a qo (mergeN xs ms))) _ ?_ ⟨_, _, upd_same, .dN m2, Paired.mapP m1 fun p q h => ⟨h.1.upd hp e ho, h.2.upd hp e ho⟩⟩
      refine d_write (t' := s.toks) I (mut_plain e ho) hs ⟨qo, hq⟩ (phiN_ok ⟨by omega, as.sys, mergeN_deep bs.deep as.deep, hq, _, mergeN_kn bs.kn as.kn, es, ep, g2, g3, g4, g5⟩)
end

section
variable {X : Cx} {M : Nat → Bool} {F : Fn} {a b c e : Expr} {es : List Expr} {pos p apos cpos : Pos} {x : Str} {i : Nat}
/-- x.update(e) -/
def cUpd (i : Nat) (c : CE) : CE := fun F s => match s.env[i]? with
  | some (some (.d (.dict _))) => match c F s with
    | some (.d (.dict more), s1) => match s1.env[i]? with
      | some (some (.d (.dict kvs))) => if updOk kvs more then some (.d .none, { s1 with env := s1.env.set i (some (.d (.dict (dMerge kvs more)))) }) else none
      | _ => none
    | _ => none
  | _ => none
theorem sx_update {ce : CE} {fr : Bool} (hu : X.A.units + 20 < cLine) (hN : X.N[i]? = some x) (hv : Vis X.env.scope x) (hm : M i = true) (ha : PE X e (TX X.kk F M fr ce)) (hd : (x == ("__debug__" : Str)) = false := by decide) (hcd : (x == ("__classdict__" : Str)) = false := by decide)
    (hbase : attributeBase (.Name x p) "update" X.env (eval (.Name x p) X.env) = eval (.Name x p) X.env := by rfl)
    (hfew : ((backTo cpos (starEach [e] X.env)).all (fun x => !x.1) && (backToKw cpos (keywordEach [] X.env)).all (fun x => x.1.isSome) && decide (([e] : List Expr).length + ([] : List Keyword).length + (if ([] : List Keyword).isEmpty then 0 else 1) < 30)) = true := by rfl)
    (hline : (apos.endLine == cpos.line) = true := by rfl) (hs : starEach [e] X.env = (false, eval e X.env) :: starEach [] X.env := by rfl) (hpl : (backTo cpos (starEach [] X.env)).any (·.1) = false := by rfl) :
    PE X (.Call (.Attribute (.Name x p) "update" apos) [e] [] cpos) (TX X.kk F M true (cUpd i ce)) := by
  refine ⟨fun pins s σ H Q I ⟨g, st, y, s', r, ev, q⟩ => ?_⟩
  have pv := pe_var (X := X) (pos := p) hN hv hd hcd
  have pa := pa_cons (es := []) ha pa_nil hs
  unfold cUpd at ev
  split at ev
  · rename_i kvs0 e0
    split at ev
    · rename_i more s1 e1
      split at ev
      · rename_i kvs e2
        split at ev
        · rename_i hz
          cases ev
          obtain ⟨l0, ev0, hp0, t0, _⟩ := r.owned e0 ⟨hm, rfl⟩
          refine wpAny_Call_method_late hbase hfew hline rfl (thn (pv.run pins s σ H (fun w H2 => w = .ref l0 ∧ H2 = H) I ⟨_, ev0, rfl, rfl⟩) fun v sh1 ⟨w, H2, I2, rv, ew, eH⟩ => ?_)
          subst ew
          rw [eH] at I2
          cases rv
          obtain ⟨o, es, ep, ents, eo, _, P, r2, hl⟩ := t0.dat.pin I2
          have raw := P.at' _ _ _ _ _ I2 eo
          refine ⟨"dict", "dict.update", PySem.F.plainAttrs_dict, PySem.F.slot_dict_update, PySem.F.type_dict_update, raw.typeIs, fun a ea => ?_, ?_⟩
          · cases ea
            obtain ⟨ob, h1, h2, _⟩ := raw
            exact ⟨ob, h1, h2.2.1⟩
          have hA := pa.run cpos pins sh1 σ H (fun vs H' => ∃ v g1, vs = [v] ∧ Rel X.kk M g1 s1 σ H' ∧ Evo g g1 H H' ∧ RpX X.kk g1 H' v (.d (.dict more))) I2 ⟨g, st, .d (.dict more), s1, r, e1, fun v g1 H1 r1 v1 rp _ => ⟨v, g1, rfl, r1, v1, rp⟩⟩
          rw [hs] at hA ⊢
          refine Calls.callWith_builtin (by show (false || (backTo cpos (starEach [] X.env)).any (·.1)) = false; rw [hpl]; rfl) (Calls.evalArgs_plain ?_)
          refine thn hA fun us sh2 ⟨vs, H3, I3, r3, v, g1, evs, r1, v1, rp⟩ => ?_
          subst evs
          obtain ⟨u, rfl, ru⟩ := vals1 r3
          obtain ⟨l, ev1, hp, t, w⟩ := r1.owned e2 ⟨hm, rfl⟩
          rw [ev0] at ev1
          cases ev1
          obtain ⟨o1, eo1, ho1⟩ := t.plain
          have rp : Rp X.kk g1.N H3 v (.dict more) := rp
          obtain ⟨b, rfl, hb⟩ := RpV.dct (.inl rp)
          cases ru
          have hab : l0 ≠ b := by
            rintro rfl
            generalize hd : PyData.dict more = d at rp
            cases rp with
            | dct _ _ hn _ _ => exact hn (.inr ⟨i, hp⟩)
            | _ => cases hd
          refine D_update hu I3 t.dat eo1 ho1 (.inr ⟨i, hp⟩) hb hab hz fun o' sh4 I4 dat => ?_
          obtain ⟨r4, v4⟩ := w o' _ dat.top
          exact ⟨.non, _, I4, rfl, q .non g1 _ r4 (v1.trans v4) .non fun _ d' e' h => by cases e'; cases h⟩
        · cases ev
      · cases ev
    · cases ev
  · cases ev
end
end Ev
/-! Ev32: a, b, .. = a list or a tuple. -/
namespace Ev
open PySem PySem.Spec L2
section
variable {X : Cx} {M : Nat → Bool} {F : Fn} {es : List Expr} {pos : Pos}
def aUnp (n : Nat) (a : List PyData → S → Option S) : PyData → S → Option S := fun d s => match d with
  | .tuple ds => if ds.length = n then a ds s else none
  | .list ds => if ds.length = n then a ds s else none
  | _ => none
theorem tg_unp {k n : Nat} {ts : List Nat} {t : List PyData → S → Option S} (hc : X.calm = true) (h : PGs X es (TGXs X.kk M ts t)) (hn : (assignEach es X.env).length = n := by rfl) (hst : (assignEach es X.env).findIdx? (·.1) = none := by rfl) : PG X (.Tuple es k pos) (TGX X.kk M ts (aUnp n t)) := by
  refine ⟨fun pins s σ H v u Q I r ⟨g, st, d, s', r0, rp, e, q⟩ => ?_⟩
  unfold aUnp at e
  split at e
  · rename_i ds
    split at e
    · rename_i hl
      refine (pg_tup hc h hn hst).run pins s σ H v u Q I r ?_
      cases rp with
      | tup h1 h2 => exact ⟨_, _, rfl, h1, by rw [h2.length]; exact hl, g, st, ds, s', r0, h2, e, q⟩
    · cases e
  · rename_i ds
    split at e
    · rename_i hl
      refine (pg_unl hc h hn hst).run pins s σ H v u Q I r ?_
      cases rp with
      | lst h1 _ h2 => exact ⟨_, _, rfl, Lr.sq (.inl h1), by rw [h2.length]; exact hl, g, st, ds, s', r0, h2, e, q⟩
      | lstK h1 h3 h4 h2 => exact ⟨_, _, rfl, Lr.sq (.inr ⟨_, _, h1, h3, h4⟩), by rw [h2.length]; exact hl, g, st, ds, s', r0, h2, e, q⟩
    · cases e
  · cases e
end
end Ev
/-! Ev33: dicts merged, lots of trees (plain). -/
namespace Ev
open PySem PySem.Spec L2
/-- no two of l hash alike -/
def HI (l : List PyData) : Prop := ∀ d ∈ l, ∃ h, dHash d = some h ∧ ∀ e ∈ l, dHash e = some h → e = d
theorem HI.mono {l m : List PyData} (h : HI l) (hm : ∀ x ∈ m, x ∈ l) : HI m := fun d hd => by
  obtain ⟨k, h1, h2⟩ := h d (hm d hd)
  exact ⟨k, h1, fun e he => h2 e (hm e he)⟩
theorem HI.hashes : ∀ {l : List PyData}, HI l → l.Nodup → ∃ hs, dHashes l = some hs ∧ hs.Nodup ∧ ∀ x ∈ hs, ∃ d ∈ l, dHash d = some x
  | [], _, _ => ⟨[], rfl, List.nodup_nil, fun _ h => nomatch h⟩
  | d :: l, h, hn => by
    rw [List.nodup_cons] at hn
    obtain ⟨hs, h1, h2, h3⟩ := HI.hashes (h.mono fun x hx => List.mem_cons_of_mem _ hx) hn.2
    obtain ⟨k, h4, h5⟩ := h d List.mem_cons_self
    refine ⟨k :: hs, by unfold dHashes; rw [h4, h1], List.nodup_cons.mpr ⟨fun hk => ?_, h2⟩, fun x hx => ?_⟩
    · obtain ⟨e, he, e1⟩ := h3 k hk
      exact hn.1 ((h5 e (List.mem_cons_of_mem _ he) e1) ▸ he)
    · rcases List.mem_cons.mp hx with rfl | hx
      · exact ⟨d, List.mem_cons_self, h4⟩
      · obtain ⟨e, he, e1⟩ := h3 x hx
        exact ⟨e, List.mem_cons_of_mem _ he, e1⟩
theorem apartD_of {kvs : List (PyData × PyData)} (h : HI (kvs.map (·.1))) (hn : (kvs.map (·.1)).Nodup) : apartD kvs = true := by
  obtain ⟨hs, h1, h2, _⟩ := h.hashes hn
  unfold apartD
  rw [h1]
  exact decide_eq_true h2
theorem dMerge_keys : ∀ {more kvs : List (PyData × PyData)}, (∀ p ∈ more, itr p.1 = true) → (∀ p ∈ kvs, itr p.1 = true) → (dMerge kvs more).map (·.1) = (more.map (·.1)).foldl addU (kvs.map (·.1))
  | [], _, _, _ => rfl
  | p :: more, kvs, hm, hk => by
    show (dMerge (dPut kvs p.1 p.2) more).map (·.1) = _
    rw [dMerge_keys (fun q hq => hm q (List.mem_cons_of_mem _ hq)) fun q hq => ?_, dPut_keys (hm p List.mem_cons_self) hk]
    · rfl
    · rcases dPut_mem hq with h | ⟨_, h | ⟨r, hr, e⟩⟩
      · exact hk q h
      · rw [h]; exact hm p List.mem_cons_self
      · rw [← e]; exact hk r hr
theorem foldU_nodup' {α : Type} {l acc : List α} (h : acc.Nodup) : (l.foldl addU acc).Nodup := foldU_nodup h
theorem cupd {i : Nat} {c : CE} {F : Fn} {s s1 : S} {kvs0 more kvs : List (PyData × PyData)} (h0 : s.env[i]? = some (some (.d (.dict kvs0)))) (h1 : c F s = some (.d (.dict more), s1)) (h2 : s1.env[i]? = some (some (.d (.dict kvs)))) (hz : updOk kvs more = true) :
    cUpd i c F s = some (.d .none, { s1 with env := s1.env.set i (some (.d (.dict (dMerge kvs more)))) }) := by
  unfold cUpd
  rw [h0]
  simp only [h1, h2, hz, if_true]
theorem sexpr {c : CE} {F : Fn} {s s1 : S} {x : Vx} (h : c F s = some (x, s1)) : sExpr c F s = some (.nx, s1) := by
  unfold sExpr
  rw [h]
end Ev
/-! Ev34: list(range(e)). -/
namespace Ev
open PySem PySem.Spec L2
section
variable {X : Cx} {M : Nat → Bool} {F : Fn} {a : Expr} {pos p p2 pos2 : Pos}
def cLRng (o : Opd) : CE := fun F s => match o.ev F s with
  | some (.int j, s', l) => if 0 ≤ j ∧ j ≤ 16777216 then some (.d (.list (intsFrom 0 j.toNat)), back l s') else none
  | _ => none
theorem rp_rgV {K : KK} {N : Addr → Prop} {H : Hp} (j : Int) : RpA K N H (rgV 0 j) (intsFrom 0 j.toNat) := by
  unfold rgV intsFrom
  rw [Int.sub_zero]
  generalize List.range j.toNat = l
  induction l with
  | nil => exact .nil
  | cons x l ih => exact .cons (.int _) ih
theorem sx_lrng {o : Opd} (hc : X.calm = true) (hgl : Gl X "list") (hml : X.mg "list" = none) (hg : Gl X "range") (hm : X.mg "range" = none) (ha : PE X a (TP X.kk F M o))
    (na : starEach [a] X.env = (false, eval a X.env) :: starEach [] X.env := by rfl) (na2 : starEach [Expr.Call (.Name "range" p2) [a] [] pos2] X.env = (false, eval (.Call (.Name "range" p2) [a] [] pos2) X.env) :: starEach [] X.env := by rfl) :
    PE X (.Call (.Name "list" p) [.Call (.Name "range" p2) [a] [] pos2] [] pos) (TX X.kk F M true (cLRng o)) :=
  peI (pe_listRg hc hgl hml (prg_1 hg hm ha na) na2) fun σ H Q ⟨g, s, y, s', r, ev, q⟩ => by
    unfold cLRng at ev
    split at ev
    · rename_i j s1 l e1
      split at ev
      · rename_i hj
        cases ev
        refine ⟨g, s, _, s1, l, r, e1, fun v g1 H1 r1 v1 rp L => ?_⟩
        refine ⟨j, rp.v.int, ⟨by omega, by omega, by omega, by omega, by omega⟩, fun q1 hq => ?_⟩
        exact vr_lst r1.ex (rp_rgV j) (fin_op r1 L v1 q) hq
      · cases ev
    · cases ev
end
end Ev
/-! Ev35: f(). -/
namespace Ev
open PySem PySem.Spec L2
section
variable {X : Cx} {M : Nat → Bool} {F : Fn} {pos p : Pos} {x : Str} {k n : Nat} {nm : String}
theorem sx_call0 (C : Callee X.prog X.w X.K X.mg X.base F k nm x n) (hr : Room k X.A) (hgd : X.A.guards = some []) (hg : Gl X x) (hlen : 0 = n) (hdb : (x == ("__debug__" : Str)) = false := by decide) :
    PE X (.Call (.Name x p) [] [] pos) (TX X.kk F M false (cCall nm [])) := by
  obtain ⟨f, fd, ps, D, hm, hk, hb⟩ := C
  refine ⟨fun pins s σ H Q I h => ?_⟩
  obtain ⟨g, st, xs, s1, r, e1, q⟩ := tx_call (cs := []) hlen h
  cases e1
  refine wpAny_Call_Name_kw (ld_glob I hg hm ?_ hdb)
  exact PySem.W.callWith_K0 I.kIn hk (run_g D hr hgd hb I .nil (q [] g H r Evo.refl .nil))
end
end Ev
/-! W1: types of words (plain). -/
namespace Ev
open PySem PySem.Spec L2
def trp (f : List Int → PyData) (u : List Int) (k : Nat) : PyData := .tuple [f (u.take k), .int (u.getD k 0), f (u.drop (k + 1))]
def trps (f : List Int → PyData) (u : List Int) : List PyData := (List.range u.length).map (trp f u)
noncomputable def wt : Nat → List Int → PyData
  | 0, _ => .tuple []
  | r + 1, u => .tuple (sortD (dd (trps (wt r) u)))
def Lw (u : List Int) : Prop := ∀ x ∈ u, 0 ≤ x ∧ x < 100
theorem Lw.take {u : List Int} (h : Lw u) (n : Nat) : Lw (u.take n) := fun x hx => h x (List.mem_of_mem_take hx)
theorem Lw.drop {u : List Int} (h : Lw u) (n : Nat) : Lw (u.drop n) := fun x hx => h x (List.mem_of_mem_drop hx)
theorem Lw.getD {u : List Int} (h : Lw u) (n : Nat) : 0 ≤ u.getD n 0 ∧ u.getD n 0 < 100 := by
  rw [List.getD_eq_getElem?_getD]
  cases q : u[n]? with
  | none => exact ⟨Int.le_refl _, by decide⟩
  | some x => exact h x (List.mem_of_getElem? q)
theorem itsA_iff : ∀ {ds : List PyData}, itsA ds = true ↔ ∀ d ∈ ds, its d = true
  | [] => by simp [itsA]
  | d :: ds => by
    unfold itsA
    rw [Bool.and_eq_true, itsA_iff]
    constructor
    · rintro ⟨h1, h2⟩ x hx
      rcases List.mem_cons.mp hx with rfl | hx
      · exact h1
      · exact h2 x hx
    · exact fun h => ⟨h d List.mem_cons_self, fun x hx => h x (List.mem_cons_of_mem _ hx)⟩
theorem sortD_mem {l : List PyData} {x : PyData} : x ∈ sortD l ↔ x ∈ l := (sortD_perm l).mem_iff
theorem trp_its {f : List Int → PyData} (hf : ∀ u, Lw u → its (f u) = true) {u : List Int} (h : Lw u) (k : Nat) : its (trp f u k) = true := by
  show itsA [f (u.take k), .int (u.getD k 0), f (u.drop (k + 1))] = true
  have := h.getD k
  simp only [itsA, hf _ (h.take k), hf _ (h.drop (k + 1)), its, Bool.true_and, Bool.and_true, Bool.and_eq_true, decide_eq_true_eq]
  exact this
theorem wt_its : ∀ (r : Nat) (u : List Int), Lw u → its (wt r u) = true
  | 0, _, _ => rfl
  | r + 1, u, h => by
    show itsA (sortD (dd (trps (wt r) u))) = true
    rw [itsA_iff]
    intro d hd
    rw [sortD_mem, dd_mem] at hd
    obtain ⟨k, _, rfl⟩ := List.mem_map.mp hd
    exact trp_its (wt_its r) h k
/-- shapes alike -/
theorem alikeAll_of : ∀ {xs ys : List PyData}, (∀ x ∈ xs, ∀ y ∈ ys, PySem.W.alike x y = true) → PySem.W.alikeAll xs ys = true
  | [], _, _ => by simp [PySem.W.alikeAll]
  | _ :: _, [], _ => by simp [PySem.W.alikeAll]
  | x :: xs, y :: ys, h => by
    rw [PySem.W.alikeAll, h x List.mem_cons_self y List.mem_cons_self, alikeAll_of fun a ha b hb => h a (List.mem_cons_of_mem _ ha) b (List.mem_cons_of_mem _ hb)]
    rfl
theorem trp_alike {f : List Int → PyData} (hf : ∀ u v, PySem.W.alike (f u) (f v) = true) (u v : List Int) (k j : Nat) : PySem.W.alike (trp f u k) (trp f v j) = true := by
  show PySem.W.alikeAll _ _ = true
  simp [PySem.W.alikeAll, PySem.W.alike, hf]
theorem wt_alike : ∀ (r : Nat) (u v : List Int), PySem.W.alike (wt r u) (wt r v) = true
  | 0, _, _ => by simp [wt, PySem.W.alike, PySem.W.alikeAll]
  | r + 1, u, v => by
    show PySem.W.alikeAll _ _ = true
    refine alikeAll_of fun x hx y hy => ?_
    rw [sortD_mem, dd_mem] at hx hy
    obtain ⟨k, _, rfl⟩ := List.mem_map.mp hx
    obtain ⟨j, _, rfl⟩ := List.mem_map.mp hy
    exact trp_alike (wt_alike r) u v k j
theorem depthAll_le {n : Nat} : ∀ {ds : List PyData}, (∀ d ∈ ds, d.depth ≤ n) → PyData.depthAll ds ≤ n
  | [], _ => Nat.zero_le _
  | d :: ds, h => by
    have h1 := h d List.mem_cons_self
    have h2 := depthAll_le (ds := ds) fun x hx => h x (List.mem_cons_of_mem _ hx)
    simp only [PyData.depthAll]
    omega
theorem trp_depth {f : List Int → PyData} {n : Nat} (hf : ∀ u, (f u).depth ≤ n) (u : List Int) (k : Nat) : (trp f u k).depth ≤ n + 1 := by
  have h1 := hf (u.take k)
  have h2 := hf (u.drop (k + 1))
  simp only [trp, PyData.depth, PyData.depthAll]
  omega
theorem wt_depth : ∀ (r : Nat) (u : List Int), (wt r u).depth ≤ 2 * r + 1
  | 0, _ => by simp [wt, PyData.depth, PyData.depthAll]
  | r + 1, u => by
    have : PyData.depthAll (sortD (dd (trps (wt r) u))) ≤ 2 * r + 1 + 1 := depthAll_le fun d hd => by
      rw [sortD_mem, dd_mem] at hd
      obtain ⟨k, _, rfl⟩ := List.mem_map.mp hd
      exact trp_depth (wt_depth r) u k
    simp only [wt, PyData.depth]
    omega
mutual
theorem key_depth : ∀ (d : PyData) (k : NestedKey), keyOf d = some k → k.depth ≤ d.depth
  | .none, _, h => by cases h; simp [NestedKey.depth]
  | .bool _, _, h => by cases h; simp [NestedKey.depth]
  | .int _, _, h => by cases h; simp [NestedKey.depth]
  | .str _, _, h => by cases h; simp [NestedKey.depth]
  | .tuple ds, _, h => by
    unfold keyOf at h
    rw [Option.map_eq_some_iff] at h
    obtain ⟨ks, e, rfl⟩ := h
    have := keys_depth ds ks e
    simp only [NestedKey.depth, PyData.depth]
    omega
  | .list _, _, h => by unfold keyOf at h; cases h
  | .dict _, _, h => by unfold keyOf at h; cases h
theorem keys_depth : ∀ (ds : List PyData) (ks : List NestedKey), keysOf ds = some ks → NestedKey.depthAll ks ≤ PyData.depthAll ds
  | [], _, h => by cases h; simp [NestedKey.depthAll]
  | d :: ds, _, h => by
    unfold keysOf at h
    split at h
    · rename_i k ks e1 e2
      cases h
      have h1 := key_depth d k e1
      have h2 := keys_depth ds ks e2
      simp only [NestedKey.depthAll, PyData.depthAll]
      omega
    · cases h
end
theorem isKN_of {ds : List PyData} (h : itr (.tuple ds) = true) (hd : (PyData.tuple ds).depth ≤ 8) : isKN (.tuple ds) = true := by
  obtain ⟨k, e⟩ := itr_key _ h
  have := key_depth _ k e
  show (match keyOf (.tuple ds) with | some k => decide (k.depth ≤ 8) | none => false) = true
  rw [e]
  exact decide_eq_true (by omega)
theorem trp_KN {f : List Int → PyData} (hf : ∀ u, Lw u → its (f u) = true) {n : Nat} (hn : ∀ u, (f u).depth ≤ n) (h7 : n ≤ 7) {u : List Int} (h : Lw u) (k : Nat) : isKN (trp f u k) = true :=
  isKN_of (its_itr _ (trp_its hf h k)) (by have := trp_depth hn u k; show (trp f u k).depth ≤ 8; omega)
/-- how long the texts are -/
theorem shI_len : ∀ i : Fin 100, (shI (i.val : Int)).length ≤ 2 := by decide +kernel
theorem shI_len' {i : Int} (h : 0 ≤ i ∧ i < 100) : (shI i).length ≤ 2 := by
  have := shI_len ⟨i.toNat, by omega⟩
  rw [show ((⟨i.toNat, by omega⟩ : Fin 100).val : Int) = i from Int.toNat_of_nonneg h.1] at this
  exact this
theorem rest_len {n : Nat} : ∀ (ds : List PyData), (∀ d ∈ ds, (sh d).length ≤ n) → (restT ds).length ≤ ds.length * (n + 2)
  | [], _ => by simp [restT]
  | [x], h => by
    have := h x List.mem_cons_self
    simp [restT]; omega
  | x :: y :: r, h => by
    have h1 := h x List.mem_cons_self
    have h2 := rest_len (y :: r) fun d hd => h d (List.mem_cons_of_mem _ hd)
    show (sh x ++ 44 :: 32 :: restT (y :: r)).length ≤ _
    rw [List.length_append, List.length_cons, List.length_cons, List.length_cons, Nat.succ_mul]
    omega
theorem body_len {n : Nat} (ds : List PyData) (h : ∀ d ∈ ds, (sh d).length ≤ n) : (bodyT ds).length ≤ ds.length * (n + 2) + 1 := by
  match ds, h with
  | [], _ => simp [bodyT]
  | [x], h =>
    have := h x List.mem_cons_self
    simp [bodyT]; omega
  | x :: y :: r, h =>
    have h1 := rest_len (x :: y :: r) h
    show (restT (x :: y :: r)).length ≤ _
    omega
theorem tup_len {n : Nat} (ds : List PyData) (h : ∀ d ∈ ds, (sh d).length ≤ n) : (sh (.tuple ds)).length ≤ ds.length * (n + 2) + 2 := by
  rw [sh_tup, List.length_cons]
  have := body_len ds h
  omega
theorem shown_len (d : PyData) : d.shown.length = (sh d).length := by
  unfold sh Str.length
  simp
end Ev
/-! W2: how the programs reckon types of words (plain). -/
namespace Ev
open PySem PySem.Spec L2
def bl : Nat → Nat
  | 0 => 2
  | r + 1 => 16 * ((3 * (bl r + 2) + 2) + 2) + 2
theorem trp_len {f : List Int → PyData} {n : Nat} (hn : 2 ≤ n) (hf : ∀ u, Lw u → u.length ≤ 16 → (sh (f u)).length ≤ n) {u : List Int} (h : Lw u) (hl : u.length ≤ 16) (k : Nat) : (sh (trp f u k)).length ≤ 3 * (n + 2) + 2 := by
  refine tup_len (n := n) [f (u.take k), .int (u.getD k 0), f (u.drop (k + 1))] fun d hd => ?_
  rcases List.mem_cons.mp hd with rfl | hd
  · exact hf _ (h.take k) (by rw [List.length_take]; omega)
  · rcases List.mem_cons.mp hd with rfl | hd
    · rw [sh_int]
      have := shI_len' (h.getD k)
      omega
    · rw [List.mem_singleton.mp hd]
      exact hf _ (h.drop (k + 1)) (by rw [List.length_drop]; omega)
theorem bl_two : ∀ r, 2 ≤ bl r
  | 0 => Nat.le_refl _
  | r + 1 => by unfold bl; omega
theorem sortD_len (l : List PyData) : (sortD l).length = l.length := (sortD_perm l).length_eq
theorem trps_len (f : List Int → PyData) (u : List Int) : (trps f u).length = u.length := by unfold trps; simp
theorem wt_len : ∀ (r : Nat) (u : List Int), Lw u → u.length ≤ 16 → (sh (wt r u)).length ≤ bl r
  | 0, _, _, _ => by
    show (sh (.tuple [])).length ≤ 2
    rw [sh_tup]; exact Nat.le_refl _
  | r + 1, u, h, hl => by
    have := tup_len (n := 3 * (bl r + 2) + 2) (sortD (dd (trps (wt r) u))) fun d hd => by
      rw [sortD_mem, dd_mem] at hd
      obtain ⟨k, _, rfl⟩ := List.mem_map.mp hd
      exact trp_len (bl_two r) (wt_len r) h hl k
    refine Nat.le_trans this ?_
    rw [sortD_len]
    have h1 := dd_len (trps (wt r) u)
    rw [trps_len] at h1
    have h2 : (dd (trps (wt r) u)).length ≤ 16 := by omega
    have h3 := Nat.mul_le_mul_right (3 * (bl r + 2) + 2 + 2) h2
    show _ ≤ 16 * ((3 * (bl r + 2) + 2) + 2) + 2
    omega
/-- sorted(..) of them may be reckoned -/
theorem sortOk_of {l : List PyData} (hl : l.length ≤ sizeLine) (ha : ∀ d ∈ l, ∀ e ∈ l, PySem.W.alike d e = true) (ht : ∀ d ∈ l, isTupC d = true) (hi : ∀ d ∈ l, itr d = true) (hd : ∀ d ∈ l, d.depth ≤ 64) : sortOk l = true := by
  unfold sortOk
  simp only [Bool.and_eq_true, decide_eq_true_eq, List.all_eq_true, Bool.or_eq_true]
  exact ⟨⟨⟨⟨hl, fun d hd e he => ha d hd e he⟩, .inl ht⟩, itrA_lay l (itrA_iff.mpr hi)⟩, hd⟩
theorem sortOk_trps {f : List Int → PyData} {n : Nat} (hf : ∀ u, Lw u → its (f u) = true) (hfa : ∀ u v, PySem.W.alike (f u) (f v) = true) (hfd : ∀ u, (f u).depth ≤ n) (hn : n ≤ 60) {u : List Int} (h : Lw u) (hl : u.length ≤ 16) {l : List PyData} (hm : ∀ d ∈ l, d ∈ trps f u) (hll : l.length ≤ 16) : sortOk l = true := by
  have ex : ∀ d ∈ l, ∃ k, d = trp f u k := fun d hd => by
    obtain ⟨k, _, e⟩ := List.mem_map.mp (hm d hd)
    exact ⟨k, e.symm⟩
  refine sortOk_of (by rw [sizeLine_eq]; omega) (fun d hd e he => ?_) (fun d hd => ?_) (fun d hd => ?_) fun d hd => ?_
  · obtain ⟨k, rfl⟩ := ex d hd
    obtain ⟨j, rfl⟩ := ex e he
    exact trp_alike hfa u u k j
  · obtain ⟨k, rfl⟩ := ex d hd
    rfl
  · obtain ⟨k, rfl⟩ := ex d hd
    exact its_itr _ (trp_its hf h k)
  · obtain ⟨k, rfl⟩ := ex d hd
    have := trp_depth hfd u k
    omega

/-! ### small evaluations -/
theorem eargs {F : Fn} {s s1 s2 : S} {c : CE} {cs : List CE} {x : Vx} {xs : List Vx} (h : c F s = some (x, s1)) (h2 : evArgs cs F s1 = some (xs, s2)) : evArgs (c :: cs) F s = some (x :: xs, s2) := by
  unfold evArgs
  rw [h]
  simp only [h2]
theorem ccall {F : Fn} {s s1 : S} {nm : String} {cs : List CE} {xs : List Vx} {x : Vx} {src' : Option Src} (h : evArgs cs F s = some (xs, s1)) (h2 : F.call nm xs s1.src = some (x, src')) : cCall nm cs F s = some (x, { s1 with src := src' }) := by
  unfold cCall
  rw [h]
  simp only [h2]
theorem cdisp {F : Fn} {s s1 : S} {b : Bool} {cs : List CE} {xs : List Vx} {ds : List PyData} (h : evArgs cs F s = some (xs, s1)) (h2 : allD xs = some ds) (h3 : ds.length ≤ sizeLine) : cDisp b cs F s = some (.d (if b then .tuple ds else .list ds), s1) := by
  unfold cDisp
  rw [h]
  simp only [h2, h3, if_true]
theorem feq_int (i j : Int) : fEq (.int i) (.int j) = some (.bool (i == j)) := by
  simp [fEq, shp, SeqAt.shaped, PyData.canLay0, PyData.depth, PyData.eqv]
theorem cut_take (xs : List PyData) (j : Nat) : cutD xs none (some (j : Int)) = xs.take j := by
  unfold cutD
  rw [HT.sIx_none, HT.sIx_nat]
  simp only [Nat.sub_zero, List.drop_zero]
  rw [List.take_eq_take_iff]
  omega
theorem cut_drop (xs : List PyData) (j : Nat) : cutD xs (some (j : Int)) none = xs.drop j := by
  unfold cutD
  rw [HT.sIx_none, HT.sIx_nat]
  by_cases h : j ≤ xs.length
  · rw [Nat.min_eq_left h, List.take_of_length_le]
    rw [List.length_drop]; omega
  · rw [Nat.min_eq_right (by omega), List.drop_of_length_le (Nat.le_refl _), List.drop_of_length_le (by omega)]
    simp
theorem fnAt_call {T : String → Option FnDef} {fuel k : Nat} {nm : String} {d : FnDef} {xs : List Vx} {src : Option Src} (h : T nm = some d) : (fnAt T fuel (k + 1)).call nm xs src = runDef d (fnAt T fuel k) xs src := by
  show (match T nm with | some d => runDef d (fnAt T fuel k) xs src | none => none) = _
  rw [h]
end Ev
/-! W4: types of short words, reckoned; their hashes (plain). -/
namespace Ev
open PySem PySem.Spec L2
abbrev dle (a b : PyData) : Bool := PySem.W.dataLe false id a b
def insD (a : PyData) : List PyData → List PyData
  | [] => [a]
  | b :: l => if dle a b then a :: b :: l else b :: insD a l
def isort : List PyData → List PyData
  | [] => []
  | a :: l => insD a (isort l)
theorem insD_perm (a : PyData) : ∀ l, (insD a l).Perm (a :: l)
  | [] => .refl _
  | b :: l => by
    unfold insD
    split
    · exact .refl _
    · exact ((insD_perm a l).cons b).trans (.swap a b l)
theorem isort_perm : ∀ l, (isort l).Perm l
  | [] => .refl _
  | a :: l => (insD_perm a _).trans ((isort_perm l).cons a)
theorem dle_tot (a b : PyData) : dle a b = true ∨ dle b a = true := by
  have T := PySem.W.sortLe_total (PyProof.Rows.listOrd PyProof.Rows.itemOrd) false (fun b : PyData => PySem.W.keyToks (id b))
  exact T.total a b
theorem dle_trans (a b c : PyData) (h1 : dle a b = true) (h2 : dle b c = true) : dle a c = true := by
  have T := PySem.W.sortLe_total (PyProof.Rows.listOrd PyProof.Rows.itemOrd) false (fun b : PyData => PySem.W.keyToks (id b))
  exact T.trans a b c h1 h2
theorem insD_pair (a : PyData) : ∀ {l}, l.Pairwise (fun x y => dle x y = true) → (insD a l).Pairwise (fun x y => dle x y = true)
  | [], _ => List.pairwise_singleton ..
  | b :: l, h => by
    obtain ⟨h1, h2⟩ := List.pairwise_cons.mp h
    unfold insD
    split
    · rename_i hab
      refine List.pairwise_cons.mpr ⟨fun y hy => ?_, h⟩
      rcases List.mem_cons.mp hy with rfl | hy
      · exact hab
      · exact dle_trans _ _ _ hab (h1 y hy)
    · rename_i hab
      have hba := (dle_tot a b).resolve_left hab
      refine List.pairwise_cons.mpr ⟨fun y hy => ?_, insD_pair a h2⟩
      rcases List.mem_cons.mp ((insD_perm a l).mem_iff.mp hy) with rfl | hy
      · exact hba
      · exact h1 y hy
theorem isort_pair : ∀ l, (isort l).Pairwise (fun x y => dle x y = true)
  | [] => .nil
  | a :: l => insD_pair a (isort_pair l)
theorem sortD_isort {l m : List PyData} (p : l.Perm m) (hi : ∀ d ∈ l, itr d = true) (ha : ∀ d ∈ l, ∀ e ∈ l, PySem.W.alike d e = true) : sortD l = isort m := by
  refine perm_sorted ((sortD_perm l).trans (p.trans (isort_perm m).symm)) (sortD_pair l) (isort_pair m) fun x hx y hy h1 h2 => ?_
  have hx' := (sortD_perm l).mem_iff.mp hx
  have hy' := (sortD_perm l).mem_iff.mp hy
  exact le_antisymm (hi x hx') (hi y hy') (ha x hx' y hy') h1 h2
/-- kept once, reckoned -/
def addC (acc : List PyData) (d : PyData) : List PyData := if acc.any (fun x => keq x d) then acc else acc ++ [d]
theorem addC_eq {acc : List PyData} {d : PyData} (hd : itr d = true) (ha : ∀ x ∈ acc, itr x = true) : addC acc d = addU acc d := by
  have : (acc.any fun x => keq x d) = true ↔ d ∈ acc := by
    rw [List.any_eq_true]
    exact ⟨fun ⟨x, hx, e⟩ => ((keq_itr (ha x hx) hd).mp e) ▸ hx, fun h => ⟨d, h, (keq_itr hd hd).mpr rfl⟩⟩
  unfold addC addU
  by_cases h : d ∈ acc
  · rw [if_pos (this.mpr h), if_pos h]
  · rw [if_neg (fun z => h (this.mp z)), if_neg h]
theorem foldC_eq : ∀ {l acc : List PyData}, (∀ d ∈ l, itr d = true) → (∀ x ∈ acc, itr x = true) → l.foldl addC acc = l.foldl addU acc
  | [], _, _, _ => rfl
  | d :: l, acc, hl, ha => by
    rw [List.foldl_cons, List.foldl_cons, addC_eq (hl d List.mem_cons_self) ha]
    refine foldC_eq (fun x hx => hl x (List.mem_cons_of_mem _ hx)) fun x hx => ?_
    rcases addU_mem.mp hx with h | h
    · exact ha x h
    · rw [h]; exact hl d List.mem_cons_self
def wtC : Nat → List Int → PyData
  | 0, _ => .tuple []
  | r + 1, u => .tuple (isort ((trps (wtC r) u).foldl addC []))
theorem wtC_eq : ∀ (r : Nat) (u : List Int), Lw u → wtC r u = wt r u
  | 0, _, _ => rfl
  | r + 1, u, h => by
    have ht : trps (wtC r) u = trps (wt r) u := by
      unfold trps
      refine List.map_congr_left fun j _ => ?_
      unfold trp
      rw [wtC_eq r _ (h.take j), wtC_eq r _ (h.drop (j + 1))]
    have hi : ∀ d ∈ trps (wt r) u, itr d = true := fun d hd => by
      obtain ⟨j, _, rfl⟩ := List.mem_map.mp hd
      exact its_itr _ (trp_its (wt_its r) h j)
    show PyData.tuple (isort ((trps (wtC r) u).foldl addC [])) = .tuple (sortD (dd (trps (wt r) u)))
    rw [ht, foldC_eq (acc := []) hi (by intro x hx; cases hx)]
    show PyData.tuple (isort (dd (trps (wt r) u))) = _
    rw [sortD_isort (.refl _) (fun d hd => hi d (dd_mem.mp hd)) fun d hd e he => ?_]
    obtain ⟨j, _, rfl⟩ := List.mem_map.mp (dd_mem.mp hd)
    obtain ⟨i, _, rfl⟩ := List.mem_map.mp (dd_mem.mp he)
    exact trp_alike (wt_alike r) u u j i
/-! ### hashes that are all unlike -/
def hash1 (d : PyData) : Int := (dHash d).getD 0
def unlike : List Int → Bool
  | [] => true
  | x :: l => (l.all fun y => !(x == y)) && unlike l
theorem unlike_nodup : ∀ {l : List Int}, unlike l = true → l.Nodup
  | [], _ => List.nodup_nil
  | x :: l, h => by
    unfold unlike at h
    rw [Bool.and_eq_true, List.all_eq_true] at h
    refine List.nodup_cons.mpr ⟨fun hx => ?_, unlike_nodup h.2⟩
    have := h.1 x hx
    simp at this
theorem HI_of {L : List PyData} (h1 : (L.all fun d => (dHash d).isSome) = true) (h2 : unlike (L.map hash1) = true) : HI L := fun d hd => by
  rw [List.all_eq_true] at h1
  obtain ⟨h, e⟩ := Option.isSome_iff_exists.mp (h1 d hd)
  refine ⟨h, e, fun x hx ex => ?_⟩
  have hn := unlike_nodup h2
  obtain ⟨i, hi⟩ := List.mem_iff_getElem?.mp hd
  obtain ⟨j, hj⟩ := List.mem_iff_getElem?.mp hx
  have g1 : (L.map hash1)[i]? = some h := by rw [List.getElem?_map, hi]; show some (hash1 d) = _; unfold hash1; rw [e]; rfl
  have g2 : (L.map hash1)[j]? = some h := by rw [List.getElem?_map, hj]; show some (hash1 x) = _; unfold hash1; rw [ex]; rfl
  have hil : i < (L.map hash1).length := (List.getElem?_eq_some_iff.mp g1).1
  have hij : i = j := (List.getElem?_inj hil hn).mp (g1.trans g2.symm)
  subst hij
  rw [hi] at hj
  exact (Option.some.inj hj).symm
end Ev
/-! P1: webs of ties as data (plain). -/
namespace Ev
open PySem PySem.Spec L2
abbrev Nm (n : Nat) : PyData := .int (n : Int)
abbrev pr (p : Nat × Nat) : PyData := .tuple [Nm p.1, Nm p.2]
abbrev Rw (row : List Nat) : PyData := .tuple (row.map Nm)
theorem itr_pr (p : Nat × Nat) : itr (pr p) = true := rfl
theorem Nm_inj {a b : Nat} (h : Nm a = Nm b) : a = b := by
  injection h with h
  omega
theorem pr_inj {p q : Nat × Nat} (h : pr p = pr q) : p = q := by
  injection h with h
  injection h with h1 h
  injection h with h2 _
  exact Prod.ext (Nm_inj h1) (Nm_inj h2)
theorem pr_depth (p : Nat × Nat) : (pr p).depth ≤ 4 := by simp [PyData.depth, PyData.depthAll]
theorem toks_pr (a b : Nat) : PySem.W.keyToks (pr (a, b)) = [.inl 1, .inl (a : Int), .inl 1, .inl (b : Int), .inl 0] := rfl
theorem dle_pr (a b c d : Nat) : dle (pr (a, b)) (pr (c, d)) = true ↔ a < c ∨ (a = c ∧ b ≤ d) := by
  have e : dle (pr (a, b)) (pr (c, d)) = !(decide ((c : Int) < a) || (!decide ((a : Int) < c) && (decide ((d : Int) < b) || (!decide ((b : Int) < d) && false)))) := by
    show (!PyProof.Rows.lexLt PyProof.Rows.itemOrd [.inl 1, .inl (c : Int), .inl 1, .inl (d : Int), .inl 0] [.inl 1, .inl (a : Int), .inl 1, .inl (b : Int), .inl 0]) = _
    rfl
  rw [e]
  simp only [Bool.not_eq_true', Bool.or_eq_false_iff, Bool.and_eq_false_iff, decide_eq_false_iff_not, Bool.not_eq_false', decide_eq_true_eq, Bool.and_false, Bool.or_false]
  omega
def lx (x y : Nat × Nat) : Prop := x.1 < y.1 ∨ (x.1 = y.1 ∧ x.2 < y.2)
def canon (n : Nat) (P : Nat → Nat → Bool) : List (Nat × Nat) := (List.range n).flatMap fun a => ((List.range n).filter (P a)).map fun b => (a, b)
theorem canon_mem {n : Nat} {P : Nat → Nat → Bool} {p : Nat × Nat} : p ∈ canon n P ↔ p.1 < n ∧ p.2 < n ∧ P p.1 p.2 = true := by
  unfold canon
  simp only [List.mem_flatMap, List.mem_map, List.mem_filter, List.mem_range]
  constructor
  · rintro ⟨a, ha, b, ⟨hb, hp⟩, rfl⟩
    exact ⟨ha, hb, hp⟩
  · rintro ⟨h1, h2, h3⟩
    exact ⟨p.1, h1, p.2, ⟨h2, h3⟩, rfl⟩
theorem canon_lx (n : Nat) (P : Nat → Nat → Bool) : (canon n P).Pairwise lx := by
  unfold canon
  rw [List.pairwise_flatMap]
  refine ⟨fun a _ => ?_, ?_⟩
  · rw [List.pairwise_map]
    exact (List.pairwise_lt_range.filter _).imp fun h => .inr ⟨rfl, h⟩
  · refine List.pairwise_lt_range.imp fun h x hx y hy => ?_
    obtain ⟨_, _, rfl⟩ := List.mem_map.mp hx
    obtain ⟨_, _, rfl⟩ := List.mem_map.mp hy
    exact .inl h
theorem canon_nodup (n : Nat) (P : Nat → Nat → Bool) : (canon n P).Nodup := (canon_lx n P).imp fun {x y} h e => by
  subst e
  rcases h with h | ⟨_, h⟩ <;> omega
theorem canon_pair (n : Nat) (P : Nat → Nat → Bool) : ((canon n P).map pr).Pairwise (fun x y => dle x y = true) := by
  rw [List.pairwise_map]
  exact (canon_lx n P).imp fun {x y} h => (dle_pr x.1 x.2 y.1 y.2).mpr (h.imp id fun z => ⟨z.1, by omega⟩)
theorem prs_alike (p q : Nat × Nat) : PySem.W.alike (pr p) (pr q) = true := by simp [PySem.W.alike, PySem.W.alikeAll]
theorem sorted_ties {n : Nat} {P : Nat → Nat → Bool} {ar : List (Nat × Nat)} (hn : ar.Nodup) (hm : ∀ p, p ∈ ar ↔ p ∈ canon n P) : sortD (ar.map pr) = (canon n P).map pr := by
  have hp : ar.Perm (canon n P) := (List.perm_ext_iff_of_nodup hn (canon_nodup n P)).mpr hm
  refine perm_sorted ((sortD_perm _).trans (hp.map pr)) (sortD_pair _) (canon_pair n P) fun x hx y hy h1 h2 => ?_
  obtain ⟨p, _, rfl⟩ := List.mem_map.mp ((sortD_perm _).mem_iff.mp hx)
  obtain ⟨q, _, rfl⟩ := List.mem_map.mp ((sortD_perm _).mem_iff.mp hy)
  exact le_antisymm (itr_pr p) (itr_pr q) (prs_alike p q) h1 h2
theorem sortOk_prs {ar : List (Nat × Nat)} (h : ar.length ≤ 5000) : sortOk (ar.map pr) = true := by
  refine sortOk_of (by rw [List.length_map, sizeLine_eq]; omega) (fun d hd e he => ?_) (fun d hd => ?_) (fun d hd => ?_) fun d hd => ?_
  · obtain ⟨p, _, rfl⟩ := List.mem_map.mp hd
    obtain ⟨q, _, rfl⟩ := List.mem_map.mp he
    exact prs_alike p q
  · obtain ⟨p, _, rfl⟩ := List.mem_map.mp hd
    rfl
  · obtain ⟨p, _, rfl⟩ := List.mem_map.mp hd
    exact itr_pr p
  · obtain ⟨p, _, rfl⟩ := List.mem_map.mp hd
    have := pr_depth p
    omega
/-- a web of ties -/
abbrev tw (n : Nat) (P : Nat → Nat → Bool) : PyData := .tuple [Nm n, .tuple (List.replicate n (.int 0)), .tuple ((canon n P).map pr)]
theorem any_eqv {d : PyData} {ds : List PyData} (hd : itr d = true) (hs : ∀ x ∈ ds, itr x = true) : (ds.any fun y => PyData.eqv y d) = true ↔ d ∈ ds := by
  rw [List.any_eq_true]
  exact ⟨fun ⟨x, hx, e⟩ => ((eqv_itr x d (hs x hx) hd).mp e) ▸ hx, fun h => ⟨d, h, (eqv_itr d d hd hd).mpr rfl⟩⟩
theorem fIn_itr {b q : Bool} {d c : PyData} {ds : List PyData} (hc : itemsOf c = some ds) (hd : itr d = true) (hdd : d.depth ≤ 64) (hs : ∀ x ∈ ds, itr x = true) (hq : d ∈ ds ↔ q = true) : fIn b d c = some (.bool (xor b q)) := by
  unfold fIn
  rw [hc]
  simp only [shp_itr hd hdd, itrA_lay ds (itrA_iff.mpr hs), Bool.and_self, if_true]
  have : (ds.any fun y => PyData.eqv y d) = q := by
    rw [Bool.eq_iff_iff, any_eqv hd hs]; exact hq
  rw [this]
theorem fIn_tw {b : Bool} {n : Nat} {P : Nat → Nat → Bool} {x y : Nat} (hx : x < n) (hy : y < n) : fIn b (pr (x, y)) (.tuple ((canon n P).map pr)) = some (.bool (xor b (P x y))) := by
  refine fIn_itr rfl (itr_pr _) (by have := pr_depth (x, y); omega) (fun d hd => ?_) ?_
  · obtain ⟨p, _, rfl⟩ := List.mem_map.mp hd
    exact itr_pr p
  · rw [List.mem_map]
    constructor
    · rintro ⟨p, hp, e⟩
      have := pr_inj e
      subst this
      exact (canon_mem.mp hp).2.2
    · intro h
      exact ⟨(x, y), canon_mem.mpr ⟨hx, hy, h⟩, rfl⟩
theorem fIn_row {b : Bool} {x : Nat} {row : List Nat} : fIn b (Nm x) (Rw row) = some (.bool (xor b (row.contains x))) := by
  refine fIn_itr rfl rfl (by simp [PyData.depth]) (fun d hd => ?_) ?_
  · obtain ⟨p, _, rfl⟩ := List.mem_map.mp hd
    rfl
  · rw [List.mem_map, List.contains_iff_mem]
    exact ⟨fun ⟨p, hp, e⟩ => (Nm_inj e) ▸ hp, fun h => ⟨x, h, rfl⟩⟩
end Ev
/-! P2: small evaluations of tests and walks (plain). -/
namespace Ev
open PySem PySem.Spec L2
theorem inD_row {x : Nat} {row : List Nat} : fInD false (Nm x) (Rw row) = some (.bool (row.contains x)) := by
  have := fIn_row (b := false) (x := x) (row := row)
  rw [Bool.false_xor] at this
  exact this
theorem notInD_row {x : Nat} {row : List Nat} : fInD true (Nm x) (Rw row) = some (.bool (!row.contains x)) := by
  have := fIn_row (b := true) (x := x) (row := row)
  rw [Bool.true_xor] at this
  exact this
theorem inD_tw {n : Nat} {P : Nat → Nat → Bool} {x y : Nat} (hx : x < n) (hy : y < n) : fInD false (pr (x, y)) (.tuple ((canon n P).map pr)) = some (.bool (P x y)) := by
  have := fIn_tw (b := false) (P := P) hx hy
  rw [Bool.false_xor] at this
  exact this
theorem feq_bool (a b : Bool) : fEq (.bool a) (.bool b) = some (.bool (a == b)) := by cases a <;> cases b <;> rfl
theorem fne_bool' (a b : Bool) : fNe (.bool a) (.bool b) = some (.bool (!(a == b))) := by cases a <;> cases b <;> rfl
theorem fne_int (i j : Int) : fNe (.int i) (.int j) = some (.bool (!(i == j))) := by
  simp [fNe, shp, SeqAt.shaped, PyData.canLay0, PyData.depth, PyData.eqv]
theorem bof' {F : Fn} {s s1 : S} {c : CE} {b : Bool} (h : c F s = some (.d (.bool b), s1)) : bOf c F s = some (b, s1) := by
  unfold bOf
  rw [h]
theorem btru {F : Fn} {s s1 : S} {c : CE} {b : Bool} (h : c F s = some (.d (.bool b), s1)) : bTru (.e c) F s = some (b, s1) := by
  unfold bTru Opd.ev
  simp only [h]
  rfl
theorem bnot {F : Fn} {s s1 : S} {c : CB} {b : Bool} (h : c F s = some (b, s1)) : bNot c F s = some (!b, s1) := by
  unfold bNot
  rw [h]
theorem band {F : Fn} {s : S} {c d : CB} {b b' : Bool} (h : c F s = some (b, s)) (h2 : b = true → d F s = some (b', s)) : bAnd c d F s = some (b && b', s) := by
  unfold bAnd
  rw [h]
  cases b with
  | true => exact h2 rfl
  | false => rfl
theorem bor {F : Fn} {s : S} {c d : CB} {b b' : Bool} (h : c F s = some (b, s)) (h2 : b = false → d F s = some (b', s)) : bOr c d F s = some (b || b', s) := by
  unfold bOr
  rw [h]
  cases b with
  | false => exact h2 rfl
  | true => rfl
theorem vat {i : Nat} {F : Fn} {s : S} {x : PyData} (h : s.env[i]? = some (some (.d x))) : cVar false i F s = some (.d x, s) := by
  unfold cVar
  rw [h]
  rfl
theorem vsrc {i : Nat} {F : Fn} {s : S} (h : s.env[i]? = some (some .src)) : cVar false i F s = some (.src, s) := by
  unfold cVar
  rw [h]
theorem pcall {F : Fn} {s : S} {nm : String} {cs : List CE} {xs : List Vx} {x : Vx} (h : evArgs cs F s = some (xs, s)) (h2 : F.call nm xs s.src = some (x, s.src)) : cCall nm cs F s = some (x, s) := ccall h h2
theorem ints0 (n : Nat) : Ev.intsFrom 0 n = (List.range n).map Nm := by
  unfold Ev.intsFrom
  exact List.map_congr_left fun i _ => by show PyData.int (0 + (i : Int)) = _; rw [Int.zero_add]
theorem ints1 (i n : Nat) : Ev.intsFrom (i : Int) n = (List.range n).map fun k => Nm (i + k) := by
  unfold Ev.intsFrom
  exact List.map_congr_left fun k _ => rfl
theorem atI_nat {l : List PyData} {i : Nat} {d : PyData} (h : l[i]? = some d) : L2.atI l (i : Int) = some d := by
  have hi := (List.getElem?_eq_some_iff.mp h).1
  unfold L2.atI L2.ixN
  rw [if_pos (by omega), if_pos (by omega)]
  exact h
theorem fadd_list {xs ys : List PyData} (h : xs.length + ys.length ≤ 16777216) : fAdd (.list xs) (.list ys) = some (.list (xs ++ ys)) := by
  show (if _ then _ else _) = _
  rw [if_pos (by rw [sizeLine_eq]; exact h)]
/-! a walk that ends at the first find -/
section
variable {as : PyData → S → Option S} {b : CS} {F : Fn} {ic : IC}
def flOf (o : Option Vx) : Fl := match o with
  | some x => .rt x
  | none => .nx
theorem for_find (R : S → Prop) (f : PyData → Option Vx) : ∀ (ds : List PyData) (s : S), R s →
    (∀ d ∈ ds, ∀ s, R s → ∃ s1 s2, as d s = some s1 ∧ b F s1 = some (flOf (f d), s2) ∧ R s2) → ∃ s', forL as b F ds s = some (flOf (ds.findSome? f), s') ∧ R s'
  | [], s, h, _ => ⟨s, rfl, h⟩
  | d :: ds, s, h, st => by
    obtain ⟨s1, s2, h1, h2, h3⟩ := st d List.mem_cons_self s h
    rw [List.findSome?_cons]
    cases hf : f d with
    | some x =>
      refine ⟨s2, ?_, h3⟩
      show (match as d s with | some s1 => _ | none => _) = _
      rw [h1]
      simp only [h2, hf]
      rfl
    | none =>
      obtain ⟨s', g1, g2⟩ := for_find R f ds s2 h3 fun d' hd s hr => st d' (List.mem_cons_of_mem _ hd) s hr
      refine ⟨s', ?_, g2⟩
      show (match as d s with | some s1 => _ | none => _) = _
      rw [h1]
      simp only [h2, hf]
      exact g1
theorem sfor_find {ds : List PyData} {s s0 : S} (hic : ic F s = some (ds, s0, [])) (R : S → Prop) (h0 : R s0) (f : PyData → Option Vx)
    (st : ∀ d ∈ ds, ∀ s, R s → ∃ s1 s2, as d s = some s1 ∧ b F s1 = some (flOf (f d), s2) ∧ R s2) : ∃ s', sFor as ic b F s = some (flOf (ds.findSome? f), s') ∧ R s' := by
  obtain ⟨s', g1, g2⟩ := for_find R f ds s0 h0 st
  refine ⟨s', ?_, g2⟩
  unfold sFor
  rw [hic]
  exact g1
end
theorem e_fl {a b : CS} {F : Fn} {s s1 : S} {o : Option Vx} {r : Option (Fl × S)} (h : a F s = some (flOf o, s1)) (h2 : o = none → b F s1 = r) (h3 : ∀ x, o = some x → r = some (.rt x, s1)) : sSeq a b F s = r := by
  cases o with
  | none => exact e_seq h (h2 rfl)
  | some x => rw [h3 x rfl]; exact e_ret h
theorem ic_rng1 {c : CE} {F : Fn} {s s1 : S} {n : Nat} (h : c F s = some (.d (Nm n), s1)) (hn : n ≤ 1000000) : icRng1 (.e c) F s = some ((List.range n).map Nm, s1, []) := by
  unfold icRng1
  simp only [evOps, Opd.ev, h]
  rw [if_pos (by unfold rgOk; simp only [Bool.and_eq_true, decide_eq_true_eq]; omega), Int.toNat_natCast, ints0]
  rfl
theorem ic_rng2 {c d : CE} {F : Fn} {s s1 s2 : S} {m n : Nat} (h : c F s = some (.d (Nm m), s1)) (h2 : d F s1 = some (.d (Nm n), s2)) (hm : m ≤ 1000000) (hn : n ≤ 1000000) : icRng2 (.e c) (.e d) F s = some ((List.range (n - m)).map (fun k => Nm (m + k)), s2, []) := by
  unfold icRng2
  simp only [evOps, Opd.ev, h, h2]
  rw [if_pos (by unfold rgOk; simp only [Bool.and_eq_true, decide_eq_true_eq]; omega), show ((n : Int) - (m : Int)).toNat = n - m by omega, ints1]
  rfl
theorem ic_any {c : CE} {F : Fn} {s s1 : S} {ds : List PyData} (h : c F s = some (.d (.list ds), s1)) : icAny (.e c) F s = some (ds, s1, []) := by
  unfold icAny
  simp only [evOps, Opd.ev, h]
  rfl
theorem dGet_some {kvs : List (PyData × PyData)} {k : PyData} : (dGet kvs k).isSome = kvs.any fun p => keq p.1 k := by
  unfold dGet
  rw [Option.isSome_map]
  exact List.isSome_find?.trans rfl |>.trans rfl
theorem inD_dict {b : Bool} {n : Nat} {P : Nat → Nat → Bool} {x y : Nat} {kvs : List (PyData × PyData)} (hx : x < n) (hy : y < n) (hk : kvs.map (·.1) = (canon n P).map pr) : fInD b (pr (x, y)) (.dict kvs) = some (.bool (xor b (P x y))) := by
  have kn : ∀ p, isKN (pr p) = true := fun p => isKN_of (itr_pr p) (Nat.le_trans (pr_depth p) (by decide))
  have hall : ∀ p ∈ kvs, ∃ q, p.1 = pr q := fun p hp => by
    have : p.1 ∈ kvs.map (·.1) := List.mem_map.mpr ⟨p, hp, rfl⟩
    rw [hk] at this
    obtain ⟨q, _, e⟩ := List.mem_map.mp this
    exact ⟨q, e.symm⟩
  have hd : dKey kvs (pr (x, y)) = true := by
    unfold dKey
    rw [kn, show (kvs.all fun p => isKN p.1) = true from List.all_eq_true.mpr fun p hp => by obtain ⟨q, e⟩ := hall p hp; rw [e]; exact kn q]
    simp
  have hg : (dGet kvs (pr (x, y))).isSome = P x y := by
    rw [dGet_some, Bool.eq_iff_iff, List.any_eq_true]
    constructor
    · rintro ⟨p, hp, e⟩
      have : p.1 ∈ kvs.map (·.1) := List.mem_map.mpr ⟨p, hp, rfl⟩
      rw [hk] at this
      obtain ⟨q, hq, e1⟩ := List.mem_map.mp this
      rw [← e1] at e
      have e2 := pr_inj ((keq_itr (itr_pr q) (itr_pr _)).mp e)
      subst e2
      exact (canon_mem.mp hq).2.2
    · intro h
      have : pr (x, y) ∈ kvs.map (·.1) := by
        rw [hk]
        exact List.mem_map.mpr ⟨(x, y), canon_mem.mpr ⟨hx, hy, h⟩, rfl⟩
      obtain ⟨p, hp, e⟩ := List.mem_map.mp this
      exact ⟨p, hp, by rw [e]; exact (keq_itr (itr_pr _) (itr_pr _)).mpr rfl⟩
  show (if dKey kvs (pr (x, y)) then some (PyData.bool (xor b (dGet kvs (pr (x, y))).isSome)) else none) = _
  rw [if_pos hd, hg]
theorem Nm_c {row : List Nat} : PyData.canLayAll0 (row.map Nm) = true := itrA_lay _ (itrA_iff.mpr fun d hd => by obtain ⟨p, _, rfl⟩ := List.mem_map.mp hd; rfl)
theorem shp_ints (row : List Nat) : shp (.list (row.map Nm)) = true := by
  show (PyData.canLay0 (.list (row.map Nm)) && decide ((PyData.list (row.map Nm)).depth ≤ 64)) = true
  have h1 : PyData.canLay0 (.list (row.map Nm)) = true := by
    have := Nm_c (row := row)
    unfold PyData.canLay0
    exact this
  have h2 : PyData.depthAll (row.map Nm) ≤ 0 := depthAll_le fun d hd => by obtain ⟨p, _, rfl⟩ := List.mem_map.mp hd; simp [PyData.depth]
  rw [h1, Bool.true_and, decide_eq_true_eq]
  simp only [PyData.depth]
  omega
theorem fne_nil (row : List Nat) : fNe (.list (row.map Nm)) (.list []) = some (.bool (!row.isEmpty)) := by
  unfold fNe
  rw [shp_ints row, show shp (.list []) = true from shp_ints [], Bool.and_self, if_pos rfl]
  cases row with
  | nil => rfl
  | cons x r => rfl
theorem feq_nil (row : List Nat) : fEq (.list (row.map Nm)) (.list []) = some (.bool (row.isEmpty)) := by
  unfold fEq
  rw [shp_ints row, show shp (.list []) = true from shp_ints [], Bool.and_self, if_pos rfl]
  cases row with
  | nil => rfl
  | cons x r => rfl
end Ev
/-! P3: ties and arrows; dicts with numbers for keys (plain). -/
namespace Ev
open PySem PySem.Spec L2
def sw (p : Nat × Nat) : Nat × Nat := (p.2, p.1)
structure TieOk (n : Nat) (P : Nat → Nat → Bool) (ties : List (Nat × Nat)) : Prop where
  nd : ties.Nodup
  lt : ∀ p ∈ ties, p.1 < p.2 ∧ p.2 < n
  iff : ∀ a b, a < n → b < n → (P a b = true ↔ (a, b) ∈ ties ∨ (b, a) ∈ ties)
theorem TieOk.nodup {n : Nat} {P : Nat → Nat → Bool} {ties : List (Nat × Nat)} (h : TieOk n P ties) : (ties ++ ties.map sw).Nodup := by
  rw [List.nodup_append]
  refine ⟨h.nd, ?_, fun a ha b hb e => ?_⟩
  · exact List.Pairwise.map sw (fun a b hab e => hab (by cases a; cases b; simp only [sw, Prod.mk.injEq] at e ⊢; exact ⟨e.2, e.1⟩)) h.nd
  · subst e
    obtain ⟨c, hc, rfl⟩ := List.mem_map.mp hb
    have h1 := h.lt _ ha
    have h2 := h.lt _ hc
    simp only [sw] at h1
    omega
theorem TieOk.mem {n : Nat} {P : Nat → Nat → Bool} {ties : List (Nat × Nat)} (h : TieOk n P ties) (p : Nat × Nat) : p ∈ ties ++ ties.map sw ↔ p ∈ canon n P := by
  rw [List.mem_append, List.mem_map, canon_mem]
  constructor
  · rintro (hp | ⟨q, hq, rfl⟩)
    · have := h.lt p hp
      exact ⟨by omega, by omega, (h.iff _ _ (by omega) (by omega)).mpr (.inl hp)⟩
    · have := h.lt q hq
      exact ⟨by simp only [sw]; omega, by simp only [sw]; omega, (h.iff _ _ (by simp only [sw]; omega) (by simp only [sw]; omega)).mpr (.inr hq)⟩
  · rintro ⟨h1, h2, h3⟩
    rcases (h.iff _ _ h1 h2).mp h3 with h | h
    · exact .inl h
    · exact .inr ⟨_, h, rfl⟩
theorem both_perm : ∀ ties : List (Nat × Nat), (ties.flatMap fun p => [p, sw p]).Perm (ties ++ ties.map sw)
  | [] => .refl _
  | p :: l => by
    rw [List.flatMap_cons, List.map_cons, List.cons_append, List.cons_append]
    refine ((both_perm l).cons (sw p)).cons p |>.trans ?_
    exact (List.perm_middle.symm).cons p
theorem TieOk.both {n : Nat} {P : Nat → Nat → Bool} {ties : List (Nat × Nat)} (h : TieOk n P ties) : sortD ((ties.flatMap fun p => [p, sw p]).map pr) = (canon n P).map pr :=
  sorted_ties ((both_perm ties).nodup_iff.mpr h.nodup) fun p => (both_perm ties).mem_iff.trans (h.mem p)
theorem TieOk.two {n : Nat} {P : Nat → Nat → Bool} {ties : List (Nat × Nat)} (h : TieOk n P ties) : sortD ((ties ++ ties.map sw).map pr) = (canon n P).map pr := sorted_ties h.nodup h.mem
section
variable {as : PyData → S → Option S} {own : List Nat} {ck cv : CE} {F : Fn} {ic : IC}
theorem dc_keys1 (E : List (Option Vx)) (src : Option Src) (f : PyData → PyData) (y : PyData) : ∀ (ds : List PyData) (acc : List (PyData × PyData)),
    (∀ d ∈ ds, ∃ s1 E1 E', as d ⟨E, src⟩ = some s1 ∧ ck F s1 = some (.d (f d), ⟨E1, src⟩) ∧ cv F ⟨E1, src⟩ = some (.d y, ⟨E', src⟩) ∧ wipeE E' own = E ∧ itr (f d) = true ∧ isK1 (f d) = true) →
    (∀ p ∈ acc, itr p.1 = true ∧ isK1 p.1 = true) → acc.length + ds.length ≤ sizeLine →
    ∀ E0, wipeE E0 own = E → ∃ kvs E2, dcL as own bYes ck cv F ds acc ⟨E0, src⟩ = some (kvs, ⟨E2, src⟩) ∧ wipeE E2 own = E ∧ kvs.map (·.1) = (ds.map f).foldl addU (acc.map (·.1))
  | [], acc, _, _, _, E0, he => ⟨acc, E0, rfl, he, rfl⟩
  | d :: ds, acc, st, ha, hz, E0, he => by
    obtain ⟨s1, E1, E', h1, h2, h3, h4, h5, h6⟩ := st d List.mem_cons_self
    rw [List.length_cons] at hz
    have hk : dKey acc (f d) = true := by
      unfold dKey
      rw [h6, show (acc.all fun p => isK1 p.1) = true from List.all_eq_true.mpr fun p hp => (ha p hp).2]
      simp
    obtain ⟨kvs, E2, g1, g2, g3⟩ := dc_keys1 E src f y ds (dPut acc (f d) y) (fun d' hd => st d' (List.mem_cons_of_mem _ hd)) (fun p hp => by
      rcases dPut_mem hp with h | ⟨_, h | ⟨q, hq, e⟩⟩
      · exact ha p h
      · rw [h]; exact ⟨h5, h6⟩
      · rw [← e]; exact ha q hq) (by have := dPut_len (kvs := acc) (k := f d) (v := y); omega) E' h4
    refine ⟨kvs, E2, ?_, g2, by rw [g3, dPut_keys h5 fun p hp => (ha p hp).1]; rfl⟩
    show (match as d (wipeS own ⟨E0, src⟩) with | some s1 => _ | none => _) = _
    rw [show wipeS own ⟨E0, src⟩ = ⟨E, src⟩ by unfold wipeS; rw [he], h1]
    show (match ck F s1 with | some (.d k, s3) => _ | _ => none) = _
    rw [h2]
    show (match cv F ⟨E1, src⟩ with | some (.d y, s4) => _ | _ => none) = _
    rw [h3]
    show (if dKey acc (f d) && decide (acc.length < sizeLine) then _ else none) = _
    rw [hk, decide_eq_true (by omega), Bool.and_self, if_pos rfl]
    exact g1
theorem cdc_keys1 {ds : List PyData} {E1 : List (Option Vx)} {src : Option Src} {s : S} (hic : ic F s = some (ds, ⟨E1, src⟩, [])) (hl : ds.length ≤ sizeLine) (f : PyData → PyData) (y : PyData)
    (st : ∀ d ∈ ds, ∃ s1 E2 E', as d ⟨wipeE E1 own, src⟩ = some s1 ∧ ck F s1 = some (.d (f d), ⟨E2, src⟩) ∧ cv F ⟨E2, src⟩ = some (.d y, ⟨E', src⟩) ∧ wipeE E' own = wipeE E1 own ∧ itr (f d) = true ∧ isK1 (f d) = true) :
    ∃ kvs, cDc own as ic bYes ck cv F s = some (.d (.dict kvs), ⟨E1, src⟩) ∧ kvs.map (·.1) = dd (ds.map f) := by
  obtain ⟨kvs, E2, g1, g2, g3⟩ := dc_keys1 (as := as) (own := own) (ck := ck) (cv := cv) (F := F) (wipeE E1 own) src f y ds [] st (fun p hp => nomatch hp) (by simpa using hl) E1 rfl
  refine ⟨kvs, ?_, g3⟩
  unfold cDc
  rw [hic]
  simp only [hl, if_true, g1]
  show some (Vx.d (.dict _), back [] (unwipeS own ⟨E1, src⟩ (wipeS own ⟨E2, src⟩))) = _
  unfold unwipeS wipeS back
  simp only [List.foldr_nil, g2, unwipe_wipe]
end
theorem lcL_cons {as : PyData → S → Option S} {own : List Nat} {t : CB} {c : CE} {F : Fn} {d y : PyData} {ds ys : List PyData} {s s1 s2 s3 s4 : S} (h1 : as d (wipeS own s) = some s1) (h2 : t F s1 = some (true, s2)) (h3 : c F s2 = some (.d y, s3)) (h4 : lcL as own t c F ds s3 = some (ys, s4)) : lcL as own t c F (d :: ds) s = some (y :: ys, s4) := by
  unfold lcL
  simp only [h1, h2, h3, h4]
theorem clc_of {as : PyData → S → Option S} {own : List Nat} {t : CB} {c : CE} {F : Fn} {ic : IC} {ds ys : List PyData} {s s1 s2 : S} (hic : ic F s = some (ds, s1, [])) (hl : ds.length ≤ sizeLine) (g : lcL as own t c F ds s1 = some (ys, s2)) : cLc own as ic t c F s = some (.d (.list ys), unwipeS own s1 (wipeS own s2)) := by
  unfold cLc
  rw [hic]
  simp only [hl, if_true, g]
  rfl
theorem inD_ints {b q : Bool} {x : Nat} {l : List Nat} {kvs : List (PyData × PyData)} (hk : ∀ d, d ∈ kvs.map (·.1) ↔ d ∈ l.map Nm) (hq : x ∈ l ↔ q = true) : fInD b (Nm x) (.dict kvs) = some (.bool (xor b q)) := by
  have hall : ∀ p ∈ kvs, ∃ i, p.1 = Nm i := fun p hp => by
    obtain ⟨i, _, e⟩ := List.mem_map.mp ((hk p.1).mp (List.mem_map.mpr ⟨p, hp, rfl⟩))
    exact ⟨i, e.symm⟩
  have hd : dKey kvs (Nm x) = true := by
    unfold dKey
    rw [show isK1 (Nm x) = true from rfl, show (kvs.all fun p => isK1 p.1) = true from List.all_eq_true.mpr fun p hp => by obtain ⟨i, e⟩ := hall p hp; rw [e]; rfl]
    rfl
  have hg : (dGet kvs (Nm x)).isSome = q := by
    rw [dGet_some, Bool.eq_iff_iff, List.any_eq_true, ← hq]
    constructor
    · rintro ⟨p, hp, e⟩
      obtain ⟨i, hi, e1⟩ := List.mem_map.mp ((hk p.1).mp (List.mem_map.mpr ⟨p, hp, rfl⟩))
      rw [← e1] at e
      rw [← Nm_inj ((keq_itr (d := Nm i) (e := Nm x) rfl rfl).mp e)]
      exact hi
    · intro h
      obtain ⟨p, hp, e⟩ := List.mem_map.mp ((hk (Nm x)).mpr (List.mem_map.mpr ⟨x, h, rfl⟩))
      exact ⟨p, hp, by rw [e]; exact (keq_itr (d := Nm x) (e := Nm x) rfl rfl).mpr rfl⟩
  show (if dKey kvs (Nm x) then some (PyData.bool (xor b (dGet kvs (Nm x)).isSome)) else none) = _
  rw [if_pos hd, hg]
end Ev
namespace L56
open PySem PySem.Spec L2 Ev PyProof.Rows
def topS (i : Nat) : Stmt := PySem.Challenge.pw_pairstoldapart_k56_whole_least_wished_we.main.body.getD i (.Pass ⟨0, 0, 0, 0⟩)
abbrev s_web_of_ties : Stmt := topS 1
theorem sc_web_of_ties : FnScope [("n" : Str), ("ties" : Str), ("arrows" : Str), ("a" : Str), ("b" : Str)] [("n" : Str), ("ties" : Str)] (defScope s_web_of_ties) := ⟨rfl, rfl, rfl, by decide +kernel, rfl, by decide +kernel, by decide +kernel⟩
def m_web_of_ties : Nat → Bool := fun i => false
def b_web_of_ties : CS :=
    (sSeq (sPar [2] [(cDisp false [])])
    (sSeq (sFor (aTup 2 (aCons (aName 3) (aCons (aName 4) aNil))) (icAny (.e (cVar false 1))) (sPar [2] [(cBin fAdd (.e (cVar false 2)) (.e (cDisp false [(cDisp true [(cVar false 3), (cVar false 4)]), (cDisp true [(cVar false 4), (cVar false 3)])])))]))
    (sRet (cDisp true [(cVar false 0), (cBin fMul (.e (cDisp true [(cC (.int 0))])) (.e (cVar false 0))), (cNat fTuple [(.e (cNat fSortedD [(.e (cVar false 2))]))])]))))
abbrev s_wished_web : Stmt := topS 2
theorem sc_wished_web : FnScope [("k" : Str), ("ties" : Str), ("a" : Str), ("b" : Str)] [("k" : Str)] (defScope s_wished_web) := ⟨rfl, rfl, rfl, by decide +kernel, rfl, by decide +kernel, by decide +kernel⟩
def m_wished_web : Nat → Bool := fun i => false
def b_wished_web : CS :=
    (sSeq (sIf (bOf (cBin fEq (.e (cVar false 0)) (.e (cC (.int 1))))) (sRet (cCall "web_of_ties" [(cC (.int 1)), (cDisp false [])])) sPass)
    (sSeq (sIf (bOf (cBin fEq (.e (cVar false 0)) (.e (cC (.int 2))))) (sRet (cCall "web_of_ties" [(cC (.int 4)), (cDisp false [(cDisp true [(cC (.int 0)), (cC (.int 1))]), (cDisp true [(cC (.int 1)), (cC (.int 2))]), (cDisp true [(cC (.int 2)), (cC (.int 3))]), (cDisp true [(cC (.int 0)), (cC (.int 3))])])])) sPass)
    (sSeq (sPar [1] [(cDisp false [])])
    (sSeq (sFor (aName 2) (icRng1 (.e (cC (.int 9)))) (sPar [1] [(cBin fAdd (.e (cVar false 1)) (.e (cLc [3] (aName 3) (icRng2 (.e (cBin fAdd (.e (cVar false 2)) (.e (cC (.int 1))))) (.e (cC (.int 9)))) (bOr (bOf (cBin fEq (.e (cBin fDiv (.e (cVar false 2)) (.e (cC (.int 3))))) (.e (cBin fDiv (.e (cVar false 3)) (.e (cC (.int 3))))))) (bOf (cBin fEq (.e (cBin fMod (.e (cVar false 2)) (.e (cC (.int 3))))) (.e (cBin fMod (.e (cVar false 3)) (.e (cC (.int 3)))))))) (cDisp true [(cVar false 2), (cVar false 3)]))))]))
    (sRet (cCall "web_of_ties" [(cC (.int 9)), (cVar false 1)]))))))
abbrev s_is_met_by : Stmt := topS 4
theorem sc_is_met_by : FnScope [("web" : Str), ("row" : Str), ("pattern" : Str), ("name" : Str), ("one" : Str), ("tied" : Str)] [("web" : Str), ("row" : Str), ("pattern" : Str), ("name" : Str)] (defScope s_is_met_by) := ⟨rfl, rfl, rfl, by decide +kernel, rfl, by decide +kernel, by decide +kernel⟩
def m_is_met_by : Nat → Bool := fun i => false
def b_is_met_by : CS :=
    (sSeq (sIf (bOf (cBin (fInD false) (.e (cVar false 3)) (.e (cVar false 1)))) (sRet (cC (.bool false))) sPass)
    (sRet (cNat fAll [(.e (cLc [4, 5] (aTup 2 (aCons (aName 4) (aCons (aName 5) aNil))) (icZip (.e (cVar false 1)) (.e (cVar false 2))) bYes (cBin fEq (.e (cBin (fInD false) (.e (cDisp true [(cVar false 3), (cVar false 4)])) (.e (cBin fIxD (.e (cVar false 0)) (.e (cC (.int 2))))))) (.e (cBin fEq (.e (cVar false 5)) (.e (cC (.int 1))))))))])))
abbrev s_meeting_names : Stmt := topS 5
theorem sc_meeting_names : FnScope [("web" : Str), ("row" : Str), ("pattern" : Str), ("name" : Str)] [("web" : Str), ("row" : Str), ("pattern" : Str)] (defScope s_meeting_names) := ⟨rfl, rfl, rfl, by decide +kernel, rfl, by decide +kernel, by decide +kernel⟩
def m_meeting_names : Nat → Bool := fun i => false
def b_meeting_names : CS :=
    (sRet (cLc [3] (aName 3) (icRng1 (.e (cBin fIxD (.e (cVar false 0)) (.e (cC (.int 0)))))) (bTru (.e (cCall "is_met_by" [(cVar false 0), (cVar false 1), (cVar false 2), (cVar false 3)]))) (cVar false 3)))
abbrev s_is_met : Stmt := topS 6
theorem sc_is_met : FnScope [("web" : Str), ("row" : Str), ("pattern" : Str)] [("web" : Str), ("row" : Str), ("pattern" : Str)] (defScope s_is_met) := ⟨rfl, rfl, rfl, by decide +kernel, rfl, by decide +kernel, by decide +kernel⟩
def m_is_met : Nat → Bool := fun i => false
def b_is_met : CS :=
    (sRet (cBin fNe (.e (cCall "meeting_names" [(cVar false 0), (cVar false 1), (cVar false 2)])) (.e (cDisp false []))))
abbrev s_rows_of_names : Stmt := topS 7
theorem sc_rows_of_names : FnScope [("n" : Str), ("many" : Str), ("found" : Str), ("lap" : Str), ("late" : Str), ("row" : Str), ("name" : Str)] [("n" : Str), ("many" : Str)] (defScope s_rows_of_names) := ⟨rfl, rfl, rfl, by decide +kernel, rfl, by decide +kernel, by decide +kernel⟩
def m_rows_of_names : Nat → Bool := fun i => false
def b_rows_of_names : CS :=
    (sSeq (sPar [2] [(cDisp false [(cDisp true [])])])
    (sSeq (sFor (aName 3) (icRng1 (.e (cVar false 1))) (sSeq (sPar [4] [(cDisp false [])])
    (sSeq (sFor (aName 5) (icAny (.e (cVar false 2))) (sPar [4] [(cBin fAdd (.e (cVar false 4)) (.e (cLc [6] (aName 6) (icRng1 (.e (cVar false 0))) (bOf (cBin (fInD true) (.e (cVar false 6)) (.e (cVar false 5)))) (cStar true [(true, (.e (cVar false 5))), (false, .e (cVar false 6))]))))]))
    (sPar [2] [(cVar false 4)]))))
    (sRet (cVar false 2))))
abbrev s_all_patterns : Stmt := topS 8
theorem sc_all_patterns : FnScope [("many" : Str), ("found" : Str), ("lap" : Str), ("late" : Str), ("pattern" : Str)] [("many" : Str)] (defScope s_all_patterns) := ⟨rfl, rfl, rfl, by decide +kernel, rfl, by decide +kernel, by decide +kernel⟩
def m_all_patterns : Nat → Bool := fun i => false
def b_all_patterns : CS :=
    (sSeq (sPar [1] [(cDisp false [(cDisp true [])])])
    (sSeq (sFor (aName 2) (icRng1 (.e (cVar false 0))) (sSeq (sPar [3] [(cDisp false [])])
    (sSeq (sFor (aName 4) (icAny (.e (cVar false 1))) (sPar [3] [(cBin fAdd (.e (cVar false 3)) (.e (cDisp false [(cStar true [(true, (.e (cVar false 4))), (false, .e (cC (.int 0)))]), (cStar true [(true, (.e (cVar false 4))), (false, .e (cC (.int 1)))])])))]))
    (sPar [1] [(cVar false 3)]))))
    (sRet (cVar false 1))))
abbrev s_missing_wish : Stmt := topS 9
theorem sc_missing_wish : FnScope [("web" : Str), ("k" : Str), ("many" : Str), ("row" : Str), ("pattern" : Str)] [("web" : Str), ("k" : Str)] (defScope s_missing_wish) := ⟨rfl, rfl, rfl, by decide +kernel, rfl, by decide +kernel, by decide +kernel⟩
def m_missing_wish : Nat → Bool := fun i => false
def b_missing_wish : CS :=
    (sSeq (sFor (aName 2) (icRng1 (.e (cVar false 1))) (sFor (aName 3) (icAny (.e (cCall "rows_of_names" [(cBin fIxD (.e (cVar false 0)) (.e (cC (.int 0)))), (cVar false 2)]))) (sFor (aName 4) (icAny (.e (cCall "all_patterns" [(cVar false 2)]))) (sIf (bNot (bTru (.e (cCall "is_met" [(cVar false 0), (cVar false 3), (cVar false 4)])))) (sRet (cDisp true [(cVar false 3), (cVar false 4)])) sPass))))
    (sRet (cC .none)))
abbrev s__law_source : Stmt := topS 11
theorem sc__law_source : FnScope [("script" : Str), ("mixed" : Str), ("cell" : Str)] [("script" : Str)] (defScope s__law_source) := ⟨rfl, rfl, rfl, by decide +kernel, rfl, by decide +kernel, by decide +kernel⟩
def m__law_source : Nat → Bool := fun i => false
def b__law_source : CS :=
    (sSeq (sPar [1] [(cC (.int 11))])
    (sSeq (sFor (aName 2) (icAny (.e (cVar false 0))) (sPar [1] [(cBin fMod (.e (cNat fInt [(.e (cBin fAdd (.e (cBin fAdd (.e (cBin fMul (.e (cVar false 1)) (.e (cC (.int 69069))))) (.e (cBin fMul (.e (cVar false 2)) (.e (cC (.int 31))))))) (.e (cC (.int 5)))))])) (.e (cC (.int 2147483629))))]))
    (sRet (cSrc (cUn fRev (.e (cLc [2] (aName 2) (icAny (.e (cVar false 0))) bYes (cNat fAbs [(.e (cVar false 2))])))) (cC (.int 1)) (cVar false 1) (cC (.int 0))))))
abbrev s__law_pick : Stmt := topS 12
theorem sc__law_pick : FnScope [("source" : Str), ("many" : Str), ("left" : Str), ("mixed" : Str)] [("source" : Str), ("many" : Str)] (defScope s__law_pick) := ⟨rfl, rfl, rfl, by decide +kernel, rfl, by decide +kernel, by decide +kernel⟩
def m__law_pick : Nat → Bool := fun i => false
def b__law_pick : CS :=
    (sSeq (sWhile (bAnd (bOf (cBin fGt (.e (cVar false 1)) (.e (cC (.int 1))))) (bAnd (bOf (cBin fLt (.e (cSF .left 0)) (.e (cC (.int 2))))) (bOf (cBin fGt (.e (cLenS (cCells 0))) (.e (cC (.int 0))))))) (sSF .left 0 (cPopS (cCells 0))))
    (sSeq (sPar [2] [(cSF .left 0)])
    (sSeq (sIf (bOr (bOf (cBin fLt (.e (cVar false 1)) (.e (cC (.int 2))))) (bOf (cBin fGt (.e (cVar false 2)) (.e (cC (.int 1)))))) (sSeq (sSF .left 0 (cBin fDiv (.e (cVar false 2)) (.e (cNat fMax2 [(.e (cC (.int 1))), (.e (cVar false 1))]))))
    (sRet (cBin fMod (.e (cNat fInt [(.e (cVar false 2))])) (.e (cNat fMax2 [(.e (cC (.int 1))), (.e (cVar false 1))]))))) sPass)
    (sSeq (sSF .turn 0 (cBin fAdd (.e (cSF .turn 0)) (.e (cC (.int 1)))))
    (sSeq (sPar [3] [(cBin fMod (.e (cNat fInt [(.e (cBin fAdd (.e (cSF .mixed 0)) (.e (cBin fMul (.e (cSF .turn 0)) (.e (cC (.int 104729)))))))])) (.e (cC (.int 998244353))))])
    (sSeq (sPar [3] [(cBin fMod (.e (cNat fInt [(.e (cBin fAdd (.e (cBin fMul (.e (cVar false 3)) (.e (cVar false 3)))) (.e (cBin fMul (.e (cSF .turn 0)) (.e (cC (.int 17)))))))])) (.e (cC (.int 2147483647))))])
    (sSeq (sSF .mixed 0 (cVar false 3))
    (sRet (cBin fMod (.e (cNat fInt [(.e (cBin fDiv (.e (cVar false 3)) (.e (cC (.int 16)))))])) (.e (cVar false 1)))))))))))
abbrev s__law_of : Stmt := topS 13
theorem sc__law_of : FnScope [("source" : Str), ("some" : Str)] [("source" : Str), ("some" : Str)] (defScope s__law_of) := ⟨rfl, rfl, rfl, by decide +kernel, rfl, by decide +kernel, by decide +kernel⟩
def m__law_of : Nat → Bool := fun i => false
def b__law_of : CS :=
    (sRet (cBin fIxD (.e (cVar false 1)) (.e (cCall "_law_pick" [(cVar false 0), (cNat fLenD [(.e (cVar false 1))])]))))
abbrev s__law_mixed : Stmt := topS 14
theorem sc__law_mixed : FnScope [("source" : Str), ("things" : Str), ("rest" : Str), ("lap" : Str)] [("source" : Str), ("things" : Str)] (defScope s__law_mixed) := ⟨rfl, rfl, rfl, by decide +kernel, rfl, by decide +kernel, by decide +kernel⟩
def m__law_mixed : Nat → Bool := fun i => i == 2
def b__law_mixed : CS :=
    (sSeq (sPar [2] [(cNat fListD [(.e (cVar false 1))])])
    (sRet (cLc [3] (aName 3) (icRng1 (.e (cNat fLenD [(.pk 2)]))) bYes (cPopAt 2 (cCall "_law_pick" [(cVar false 0), (cNat fLenD [(.pk 2)])])))))
abbrev s__law_tie_web : Stmt := topS 15
theorem sc__law_tie_web : FnScope [("source" : Str), ("least" : Str), ("most" : Str), ("n" : Str), ("share" : Str), ("ties" : Str), ("a" : Str), ("b" : Str)] [("source" : Str), ("least" : Str), ("most" : Str)] (defScope s__law_tie_web) := ⟨rfl, rfl, rfl, by decide +kernel, rfl, by decide +kernel, by decide +kernel⟩
def m__law_tie_web : Nat → Bool := fun i => false
def b__law_tie_web : CS :=
    (sSeq (sPar [3, 4, 5] [(cBin fAdd (.e (cVar false 1)) (.e (cCall "_law_pick" [(cVar false 0), (cBin fAdd (.e (cBin fSub (.e (cVar false 2)) (.e (cVar false 1)))) (.e (cC (.int 1))))]))), (cBin fAdd (.e (cC (.int 1))) (.e (cCall "_law_pick" [(cVar false 0), (cC (.int 4))]))), (cDisp false [])])
    (sSeq (sFor (aName 6) (icRng1 (.e (cVar false 3))) (sPar [5] [(cBin fAdd (.e (cVar false 5)) (.e (cLc [7] (aName 7) (icRng2 (.e (cBin fAdd (.e (cVar false 6)) (.e (cC (.int 1))))) (.e (cVar false 3))) (bOf (cBin fLt (.e (cCall "_law_pick" [(cVar false 0), (cC (.int 5))])) (.e (cVar false 4)))) (cDisp true [(cVar false 6), (cVar false 7)]))))]))
    (sRet (cCall "_law_of_ties" [(cVar false 3), (cVar false 5)]))))
abbrev s__law_of_ties : Stmt := topS 16
theorem sc__law_of_ties : FnScope [("n" : Str), ("ties" : Str), ("arrows" : Str), ("a" : Str), ("b" : Str)] [("n" : Str), ("ties" : Str)] (defScope s__law_of_ties) := ⟨rfl, rfl, rfl, by decide +kernel, rfl, by decide +kernel, by decide +kernel⟩
def m__law_of_ties : Nat → Bool := fun i => false
def b__law_of_ties : CS :=
    (sSeq (sPar [2] [(cBin fAdd (.e (cNat fListD [(.e (cVar false 1))])) (.e (cLc [3, 4] (aTup 2 (aCons (aName 3) (aCons (aName 4) aNil))) (icAny (.e (cVar false 1))) bYes (cDisp true [(cVar false 4), (cVar false 3)]))))])
    (sRet (cDisp true [(cVar false 0), (cBin fMul (.e (cDisp true [(cC (.int 0))])) (.e (cVar false 0))), (cNat fTuple [(.e (cNat fSortedD [(.e (cVar false 2))]))])])))
abbrev s__law_wishes : Stmt := topS 17
theorem sc__law_wishes : FnScope [("n" : Str), ("k" : Str), ("found" : Str), ("rows" : Str), ("patterns" : Str), ("many" : Str), ("row" : Str), ("more" : Str), ("late" : Str), ("pattern" : Str), ("name" : Str)] [("n" : Str), ("k" : Str)] (defScope s__law_wishes) := ⟨rfl, rfl, rfl, by decide +kernel, rfl, by decide +kernel, by decide +kernel⟩
def m__law_wishes : Nat → Bool := fun i => false
def b__law_wishes : CS :=
    (sSeq (sPar [2, 3, 4] [(cDisp false []), (cDisp false [(cDisp true [])]), (cDisp false [(cDisp true [])])])
    (sSeq (sFor (aName 5) (icRng1 (.e (cVar false 1))) (sSeq (sFor (aName 6) (icAny (.e (cVar false 3))) (sPar [2] [(cBin fAdd (.e (cVar false 2)) (.e (cLc [9] (aName 9) (icAny (.e (cVar false 4))) bYes (cDisp true [(cVar false 6), (cVar false 9)]))))]))
    (sSeq (sPar [7] [(cDisp false [])])
    (sSeq (sFor (aName 6) (icAny (.e (cVar false 3))) (sPar [7] [(cBin fAdd (.e (cVar false 7)) (.e (cLc [10] (aName 10) (icRng1 (.e (cVar false 0))) (bOf (cBin (fInD true) (.e (cVar false 10)) (.e (cVar false 6)))) (cBin fAdd (.e (cVar false 6)) (.e (cDisp true [(cVar false 10)]))))))]))
    (sSeq (sPar [8] [(cDisp false [])])
    (sSeq (sFor (aName 9) (icAny (.e (cVar false 4))) (sPar [8] [(cBin fAdd (.e (cVar false 8)) (.e (cDisp false [(cBin fAdd (.e (cVar false 9)) (.e (cDisp true [(cC (.int 0))]))), (cBin fAdd (.e (cVar false 9)) (.e (cDisp true [(cC (.int 1))])))])))]))
    (sPar [3, 4] [(cVar false 7), (cVar false 8)])))))))
    (sRet (cVar false 2))))
abbrev s__law_meets : Stmt := topS 18
theorem sc__law_meets : FnScope [("web" : Str), ("row" : Str), ("pattern" : Str), ("found" : Str), ("name" : Str), ("wrong" : Str), ("k" : Str), ("one" : Str)] [("web" : Str), ("row" : Str), ("pattern" : Str)] (defScope s__law_meets) := ⟨rfl, rfl, rfl, by decide +kernel, rfl, by decide +kernel, by decide +kernel⟩
def m__law_meets : Nat → Bool := fun i => false
def b__law_meets : CS :=
    (sSeq (sPar [3] [(cDisp false [])])
    (sSeq (sFor (aName 4) (icRng1 (.e (cBin fIxD (.e (cVar false 0)) (.e (cC (.int 0)))))) (sSeq (sPar [5] [(cLc [6, 7] (aTup 2 (aCons (aName 6) (aCons (aName 7) aNil))) (icEnum (.e (cVar false 1))) (bOr (bOf (cBin fEq (.e (cVar false 4)) (.e (cVar false 7)))) (bOf (cBin fNe (.e (cBin (fInD false) (.e (cDisp true [(cVar false 4), (cVar false 7)])) (.e (cBin fIxD (.e (cVar false 0)) (.e (cC (.int 2))))))) (.e (cBin fEq (.e (cBin fIxD (.e (cVar false 2)) (.e (cVar false 6)))) (.e (cC (.int 1)))))))) (cVar false 6))])
    (sPar [3] [(cBin fAdd (.e (cVar false 3)) (.e (cBin fMul (.e (cDisp false [(cVar false 4)])) (.e (cNat fInt [(.e (cBin fEq (.e (cVar false 5)) (.e (cDisp false []))))])))))])))
    (sRet (cVar false 3))))
abbrev s__law_missing : Stmt := topS 19
theorem sc__law_missing : FnScope [("web" : Str), ("k" : Str), ("row" : Str), ("pattern" : Str)] [("web" : Str), ("k" : Str)] (defScope s__law_missing) := ⟨rfl, rfl, rfl, by decide +kernel, rfl, by decide +kernel, by decide +kernel⟩
def m__law_missing : Nat → Bool := fun i => false
def b__law_missing : CS :=
    (sSeq (sFor (aTup 2 (aCons (aName 2) (aCons (aName 3) aNil))) (icAny (.e (cCall "_law_wishes" [(cBin fIxD (.e (cVar false 0)) (.e (cC (.int 0)))), (cVar false 1)]))) (sIf (bOf (cBin fEq (.e (cCall "_law_meets" [(cVar false 0), (cVar false 2), (cVar false 3)])) (.e (cDisp false [])))) (sRet (cDisp true [(cVar false 2), (cVar false 3)])) sPass))
    (sRet (cC .none)))
abbrev s__law_paley : Stmt := topS 20
theorem sc__law_paley : FnScope [("q" : Str), ("squares" : Str), ("ties" : Str), ("a" : Str), ("x" : Str), ("b" : Str)] [("q" : Str)] (defScope s__law_paley) := ⟨rfl, rfl, rfl, by decide +kernel, rfl, by decide +kernel, by decide +kernel⟩
def m__law_paley : Nat → Bool := fun i => false
def b__law_paley : CS :=
    (sSeq (sPar [1, 2] [(cLc [4] (aName 4) (icRng2 (.e (cC (.int 1))) (.e (cVar false 0))) bYes (cBin fMod (.e (cNat fInt [(.e (cBin fMul (.e (cVar false 4)) (.e (cVar false 4))))])) (.e (cVar false 0)))), (cDisp false [])])
    (sSeq (sFor (aName 3) (icRng1 (.e (cVar false 0))) (sPar [2] [(cBin fAdd (.e (cVar false 2)) (.e (cLc [5] (aName 5) (icRng2 (.e (cBin fAdd (.e (cVar false 3)) (.e (cC (.int 1))))) (.e (cVar false 0))) (bOf (cBin (fInD false) (.e (cBin fMod (.e (cNat fInt [(.e (cBin fSub (.e (cVar false 5)) (.e (cVar false 3))))])) (.e (cVar false 0)))) (.e (cVar false 1)))) (cDisp true [(cVar false 3), (cVar false 5)]))))]))
    (sRet (cCall "_law_of_ties" [(cVar false 0), (cVar false 2)]))))
abbrev s__law_square : Stmt := topS 21
theorem sc__law_square : FnScope [("ties" : Str), ("a" : Str), ("b" : Str)] [] (defScope s__law_square) := ⟨rfl, rfl, rfl, by decide +kernel, rfl, by decide +kernel, by decide +kernel⟩
def m__law_square : Nat → Bool := fun i => false
def b__law_square : CS :=
    (sSeq (sPar [0] [(cDisp false [])])
    (sSeq (sFor (aName 1) (icRng1 (.e (cC (.int 9)))) (sPar [0] [(cBin fAdd (.e (cVar false 0)) (.e (cLc [2] (aName 2) (icRng2 (.e (cBin fAdd (.e (cVar false 1)) (.e (cC (.int 1))))) (.e (cC (.int 9)))) (bOr (bOf (cBin fEq (.e (cBin fDiv (.e (cVar false 1)) (.e (cC (.int 3))))) (.e (cBin fDiv (.e (cVar false 2)) (.e (cC (.int 3))))))) (bOf (cBin fEq (.e (cBin fMod (.e (cNat fInt [(.e (cBin fSub (.e (cVar false 2)) (.e (cVar false 1))))])) (.e (cC (.int 3))))) (.e (cC (.int 0)))))) (cDisp true [(cVar false 1), (cVar false 2)]))))]))
    (sRet (cCall "_law_of_ties" [(cC (.int 9)), (cVar false 0)]))))
abbrev s__law_all_tie_webs : Stmt := topS 22
theorem sc__law_all_tie_webs : FnScope [("n" : Str), ("found" : Str), ("a" : Str), ("b" : Str), ("ties" : Str)] [("n" : Str)] (defScope s__law_all_tie_webs) := ⟨rfl, rfl, rfl, by decide +kernel, rfl, by decide +kernel, by decide +kernel⟩
def m__law_all_tie_webs : Nat → Bool := fun i => false
def b__law_all_tie_webs : CS :=
    (sSeq (sPar [1] [(cDisp false [(cDisp false [])])])
    (sSeq (sFor (aName 2) (icRng1 (.e (cVar false 0))) (sFor (aName 3) (icRng2 (.e (cBin fAdd (.e (cVar false 2)) (.e (cC (.int 1))))) (.e (cVar false 0))) (sPar [1] [(cBin fAdd (.e (cVar false 1)) (.e (cLc [4] (aName 4) (icAny (.e (cVar false 1))) bYes (cBin fAdd (.e (cVar false 4)) (.e (cDisp false [(cDisp true [(cVar false 2), (cVar false 3)])]))))))])))
    (sRet (cLc [4] (aName 4) (icAny (.e (cVar false 1))) bYes (cCall "_law_of_ties" [(cVar false 0), (cVar false 4)])))))
abbrev s__law_part : Stmt := topS 23
theorem sc__law_part : FnScope [("web" : Str), ("names" : Str), ("order" : Str), ("ties" : Str), ("k" : Str), ("name" : Str), ("a" : Str), ("b" : Str)] [("web" : Str), ("names" : Str)] (defScope s__law_part) := ⟨rfl, rfl, rfl, by decide +kernel, rfl, by decide +kernel, by decide +kernel⟩
def m__law_part : Nat → Bool := fun i => false
def b__law_part : CS :=
    (sSeq (sPar [2] [(cNat fDict [(.e (cLc [4, 5] (aTup 2 (aCons (aName 4) (aCons (aName 5) aNil))) (icEnum (.e (cVar false 1))) bYes (cDisp true [(cVar false 5), (cVar false 4)])))])])
    (sSeq (sPar [3] [(cLc [6, 7] (aTup 2 (aCons (aName 6) (aCons (aName 7) aNil))) (icAny (.e (cBin fIxD (.e (cVar false 0)) (.e (cC (.int 2)))))) (bAnd (bOf (cBin fLt (.e (cVar false 6)) (.e (cVar false 7)))) (bAnd (bOf (cBin (fInD false) (.e (cVar false 6)) (.e (cVar false 2)))) (bOf (cBin (fInD false) (.e (cVar false 7)) (.e (cVar false 2)))))) (cDisp true [(cBin fIxD (.e (cVar false 2)) (.e (cVar false 6))), (cBin fIxD (.e (cVar false 2)) (.e (cVar false 7)))]))])
    (sRet (cCall "_law_of_ties" [(cNat fLenD [(.e (cVar false 1))]), (cVar false 3)]))))
abbrev s_law : Stmt := topS 24
theorem sc_law : FnScope [("script" : Str), ("source" : Str), ("k" : Str), ("many" : Str), ("web" : Str), ("n" : Str), ("look" : Str), ("name" : Str), ("tied" : Str), ("some" : Str), ("a" : Str), ("b" : Str), ("one" : Str)] [("script" : Str)] (defScope s_law) := ⟨rfl, rfl, rfl, by decide +kernel, rfl, by decide +kernel, by decide +kernel⟩
def m_law : Nat → Bool := fun i => false
def b_law : CS :=
    (sSeq (sPar [1] [(cCall "_law_source" [(cVar false 0)])])
    (sSeq (sFor (aTup 2 (aCons (aName 2) (aCons (aName 3) aNil))) (icAny (.e (cDisp true [(cDisp true [(cC (.int 1)), (cC (.int 1))]), (cDisp true [(cC (.int 2)), (cC (.int 4))]), (cDisp true [(cC (.int 3)), (cC (.int 9))])]))) (sSeq (sPar [4] [(cCall "wished_web" [(cVar false 2)])])
    (sSeq (sIf (bOr (bOf (cBin fNe (.e (cBin fIxD (.e (cVar false 4)) (.e (cC (.int 0))))) (.e (cVar false 3)))) (bOf (cBin fNe (.e (cNat fRepr [(.e (cVar false 4))])) (.e (cNat fRepr [(.e (cCall "_law_of_ties" [(cVar false 3), (cLc [10, 11] (aTup 2 (aCons (aName 10) (aCons (aName 11) aNil))) (icAny (.e (cBin fIxD (.e (cVar false 4)) (.e (cC (.int 2)))))) (bOf (cBin fLt (.e (cVar false 10)) (.e (cVar false 11)))) (cDisp true [(cVar false 10), (cVar false 11)]))]))]))))) (sRet (cC (.bool false))) sPass)
    (sIf (bOr (bOf (cBin fIsNot (.e (cCall "_law_missing" [(cVar false 4), (cVar false 2)])) (.e (cC .none)))) (bOf (cBin fIsNot (.e (cCall "missing_wish" [(cVar false 4), (cVar false 2)])) (.e (cC .none))))) (sRet (cC (.bool false))) sPass))))
    (sSeq (sFor (aName 5) (icAny (.e (cDisp true [(cC (.int 2)), (cC (.int 3))]))) (sFor (aName 4) (icAny (.e (cCall "_law_all_tie_webs" [(cVar false 5)]))) (sIf (bOr (bOf (cBin fIs (.e (cCall "_law_missing" [(cVar false 4), (cC (.int 2))])) (.e (cC .none)))) (bOf (cBin fIs (.e (cCall "missing_wish" [(cVar false 4), (cC (.int 2))])) (.e (cC .none))))) (sRet (cC (.bool false))) sPass)))
    (sSeq (sFor (aName 4) (icAny (.e (cCut (.e (cCall "_law_mixed" [(cVar false 1), (cCall "_law_all_tie_webs" [(cC (.int 4))])])) none (some (.e (cC (.int 12))))))) (sIf (bOf (cBin fNe (.e (cNat fRepr [(.e (cCall "missing_wish" [(cVar false 4), (cC (.int 2))]))])) (.e (cNat fRepr [(.e (cCall "_law_missing" [(cVar false 4), (cC (.int 2))]))])))) (sRet (cC (.bool false))) sPass))
    (sSeq (sFor (aName 6) (icRng1 (.e (cC (.int 4)))) (sSeq (sPar [4] [(cCall "_law_tie_web" [(cVar false 1), (cC (.int 5)), (cC (.int 8))])])
    (sIf (bOf (cBin fIs (.e (cCall "missing_wish" [(cVar false 4), (cC (.int 3))])) (.e (cC .none)))) (sRet (cC (.bool false))) sPass)))
    (sSeq (sPar [4] [(cCall "_law_of" [(cVar false 1), (cDisp false [(cCall "_law_square" []), (cCall "_law_paley" [(cC (.int 13))])])])])
    (sSeq (sPar [7] [(cCall "_law_pick" [(cVar false 1), (cBin fIxD (.e (cVar false 4)) (.e (cC (.int 0))))])])
    (sSeq (sFor (aName 8) (icAny (.e (cDisp true [(cC (.bool true)), (cC (.bool false))]))) (sSeq (sPar [9] [(cLc [12] (aName 12) (icRng1 (.e (cBin fIxD (.e (cVar false 4)) (.e (cC (.int 0)))))) (bAnd (bOf (cBin fNe (.e (cVar false 12)) (.e (cVar false 7)))) (bOf (cBin fEq (.e (cBin (fInD false) (.e (cDisp true [(cVar false 7), (cVar false 12)])) (.e (cBin fIxD (.e (cVar false 4)) (.e (cC (.int 2))))))) (.e (cVar false 8))))) (cVar false 12))])
    (sIf (bOr (bOf (cBin fIsNot (.e (cCall "missing_wish" [(cCall "_law_part" [(cVar false 4), (cVar false 9)]), (cC (.int 2))])) (.e (cC .none)))) (bOf (cBin fLt (.e (cNat fLenD [(.e (cVar false 9))])) (.e (cC (.int 4)))))) (sRet (cC (.bool false))) sPass)))
    (sRet (cC (.bool true)))))))))))
def T : String → Option FnDef
  | "web_of_ties" => some ⟨2, 5, b_web_of_ties⟩
  | "wished_web" => some ⟨1, 4, b_wished_web⟩
  | "is_met_by" => some ⟨4, 6, b_is_met_by⟩
  | "meeting_names" => some ⟨3, 4, b_meeting_names⟩
  | "is_met" => some ⟨3, 3, b_is_met⟩
  | "rows_of_names" => some ⟨2, 7, b_rows_of_names⟩
  | "all_patterns" => some ⟨1, 5, b_all_patterns⟩
  | "missing_wish" => some ⟨2, 5, b_missing_wish⟩
  | "_law_source" => some ⟨1, 3, b__law_source⟩
  | "_law_pick" => some ⟨2, 4, b__law_pick⟩
  | "_law_of" => some ⟨2, 2, b__law_of⟩
  | "_law_mixed" => some ⟨2, 4, b__law_mixed⟩
  | "_law_tie_web" => some ⟨3, 8, b__law_tie_web⟩
  | "_law_of_ties" => some ⟨2, 5, b__law_of_ties⟩
  | "_law_wishes" => some ⟨2, 11, b__law_wishes⟩
  | "_law_meets" => some ⟨3, 8, b__law_meets⟩
  | "_law_missing" => some ⟨2, 4, b__law_missing⟩
  | "_law_paley" => some ⟨1, 6, b__law_paley⟩
  | "_law_square" => some ⟨0, 3, b__law_square⟩
  | "_law_all_tie_webs" => some ⟨1, 5, b__law_all_tie_webs⟩
  | "_law_part" => some ⟨2, 8, b__law_part⟩
  | "law" => some ⟨1, 13, b_law⟩
  | _ => none
structure Bs (mg : Str → Option Value) : Prop where
  abs : mg ("abs" : Str) = none
  all : mg ("all" : Str) = none
  dict : mg ("dict" : Str) = none
  enumerate : mg ("enumerate" : Str) = none
  int : mg ("int" : Str) = none
  len : mg ("len" : Str) = none
  list : mg ("list" : Str) = none
  max : mg ("max" : Str) = none
  range : mg ("range" : Str) = none
  repr : mg ("repr" : Str) = none
  sorted : mg ("sorted" : Str) = none
  tuple : mg ("tuple" : Str) = none
  zip : mg ("zip" : Str) = none
structure Cs (P : Program) (w : World) (K : PySem.W.Frag) (mg : Str → Option Value) (base : Heap) (F : Fn) (k : Nat) : Prop where
  web_of_ties : Callee P w K mg base F k "web_of_ties" ("web_of_ties" : Str) 2
  wished_web : Callee P w K mg base F k "wished_web" ("wished_web" : Str) 1
  is_met_by : Callee P w K mg base F k "is_met_by" ("is_met_by" : Str) 4
  meeting_names : Callee P w K mg base F k "meeting_names" ("meeting_names" : Str) 3
  is_met : Callee P w K mg base F k "is_met" ("is_met" : Str) 3
  rows_of_names : Callee P w K mg base F k "rows_of_names" ("rows_of_names" : Str) 2
  all_patterns : Callee P w K mg base F k "all_patterns" ("all_patterns" : Str) 1
  missing_wish : Callee P w K mg base F k "missing_wish" ("missing_wish" : Str) 2
  _law_source : Callee P w K mg base F k "_law_source" ("_law_source" : Str) 1
  _law_pick : Callee P w K mg base F k "_law_pick" ("_law_pick" : Str) 2
  _law_of : Callee P w K mg base F k "_law_of" ("_law_of" : Str) 2
  _law_mixed : Callee P w K mg base F k "_law_mixed" ("_law_mixed" : Str) 2
  _law_tie_web : Callee P w K mg base F k "_law_tie_web" ("_law_tie_web" : Str) 3
  _law_of_ties : Callee P w K mg base F k "_law_of_ties" ("_law_of_ties" : Str) 2
  _law_wishes : Callee P w K mg base F k "_law_wishes" ("_law_wishes" : Str) 2
  _law_meets : Callee P w K mg base F k "_law_meets" ("_law_meets" : Str) 3
  _law_missing : Callee P w K mg base F k "_law_missing" ("_law_missing" : Str) 2
  _law_paley : Callee P w K mg base F k "_law_paley" ("_law_paley" : Str) 1
  _law_square : Callee P w K mg base F k "_law_square" ("_law_square" : Str) 0
  _law_all_tie_webs : Callee P w K mg base F k "_law_all_tie_webs" ("_law_all_tie_webs" : Str) 1
  _law_part : Callee P w K mg base F k "_law_part" ("_law_part" : Str) 2
  law : Callee P w K mg base F k "law" ("law" : Str) 1
section
variable {P : Program} {w : World} {K : PySem.W.Frag} {mg : Str → Option Value} {base : Heap} {F : Fn} {k : Nat}
theorem pb_web_of_ties {f : Addr} (C : Cs P w K mg base F k) (B : Bs mg) (cdv : Value) (A : Around) (outer : List Env) (s : Shared) (H : Hp) (hr : Room k (A.deeper (envOfC "web_of_ties" (defScope s_web_of_ties) s.heap.objs.size f cdv))) (hgd : (A.deeper (envOfC "web_of_ties" (defScope s_web_of_ties) s.heap.objs.size f cdv)).guards = some []) :
    PSs (cxG P w K mg base [("n" : Str), ("ties" : Str), ("arrows" : Str), ("a" : Str), ("b" : Str)] "web_of_ties" (defScope s_web_of_ties) f cdv A outer s H) (defBody s_web_of_ties) (TSt ⟨K, w, P⟩ F m_web_of_ties b_web_of_ties) := by
  have nd := sc_web_of_ties.nd
  have h70 : (cxG P w K mg base [("n" : Str), ("ties" : Str), ("arrows" : Str), ("a" : Str), ("b" : Str)] "web_of_ties" (defScope s_web_of_ties) f cdv A outer s H).A.units + 70 < cLine := by have := hr.un; show (A.deeper _).units + 70 < cLine; omega
  have h65 : (cxG P w K mg base [("n" : Str), ("ties" : Str), ("arrows" : Str), ("a" : Str), ("b" : Str)] "web_of_ties" (defScope s_web_of_ties) f cdv A outer s H).A.units + 65 < cLine := by omega
  have h64 : (cxG P w K mg base [("n" : Str), ("ties" : Str), ("arrows" : Str), ("a" : Str), ("b" : Str)] "web_of_ties" (defScope s_web_of_ties) f cdv A outer s H).A.units + 64 < cLine := by omega
  have h21 : (cxG P w K mg base [("n" : Str), ("ties" : Str), ("arrows" : Str), ("a" : Str), ("b" : Str)] "web_of_ties" (defScope s_web_of_ties) f cdv A outer s H).A.units + 20 < cLine := by omega
  have h2 : (cxG P w K mg base [("n" : Str), ("ties" : Str), ("arrows" : Str), ("a" : Str), ("b" : Str)] "web_of_ties" (defScope s_web_of_ties) f cdv A outer s H).A.units + 1 < cLine := by omega
  exact (tss_cons (ss_set (i := 2) nd rfl (locL (by kernel_rfl)) (sx_lst as_nil) (nm rfl))
    (tss_cons (ss_for PassesOwn.never rfl (it_any (op_e (sx_var (i := 1) (m := false) rfl (visL (by kernel_rfl)) rfl))) (tg_tup rfl (tg_cons (tg_name (i := 3) nd rfl (locL (by kernel_rfl)) rfl) (tg_cons (tg_name (i := 4) nd rfl (locL (by kernel_rfl)) rfl) tg_nil))) (tss_one (ss_set (i := 2) nd rfl (locL (by kernel_rfl)) (sx_bin od_add (op_e (sx_var (i := 2) (m := false) rfl (visL (by kernel_rfl)) rfl)) (op_e (sx_lst (as_cons (sx_tup (as_cons (sx_var (i := 3) (m := false) rfl (visL (by kernel_rfl)) rfl) (as_cons (sx_var (i := 4) (m := false) rfl (visL (by kernel_rfl)) rfl) as_nil))) (as_cons (sx_tup (as_cons (sx_var (i := 4) (m := false) rfl (visL (by kernel_rfl)) rfl) (as_cons (sx_var (i := 3) (m := false) rfl (visL (by kernel_rfl)) rfl) as_nil))) as_nil))))) (nm rfl))))
    (tss_one (ss_ret (sx_tup (as_cons (sx_var (i := 0) (m := false) rfl (visL (by kernel_rfl)) rfl) (as_cons (sx_bin od_mul (op_e (sx_tup (as_cons sx_int as_nil))) (op_e (sx_var (i := 0) (m := false) rfl (visL (by kernel_rfl)) rfl))) (as_cons (sx_callT cd_tuple (glI (by kernel_rfl)) B.tuple rfl (ops_cons (op_e (sx_callB (cd_sortedD rfl h70) (glI (by kernel_rfl)) B.sorted rfl (ops_cons (op_e (sx_var (i := 2) (m := false) rfl (visL (by kernel_rfl)) rfl)) ops_nil))) ops_nil)) as_nil))))))))
theorem pb_wished_web {f : Addr} (C : Cs P w K mg base F k) (B : Bs mg) (cdv : Value) (A : Around) (outer : List Env) (s : Shared) (H : Hp) (hr : Room k (A.deeper (envOfC "wished_web" (defScope s_wished_web) s.heap.objs.size f cdv))) (hgd : (A.deeper (envOfC "wished_web" (defScope s_wished_web) s.heap.objs.size f cdv)).guards = some []) :
    PSs (cxG P w K mg base [("k" : Str), ("ties" : Str), ("a" : Str), ("b" : Str)] "wished_web" (defScope s_wished_web) f cdv A outer s H) (defBody s_wished_web) (TSt ⟨K, w, P⟩ F m_wished_web b_wished_web) := by
  have nd := sc_wished_web.nd
  have h70 : (cxG P w K mg base [("k" : Str), ("ties" : Str), ("a" : Str), ("b" : Str)] "wished_web" (defScope s_wished_web) f cdv A outer s H).A.units + 70 < cLine := by have := hr.un; show (A.deeper _).units + 70 < cLine; omega
  have h65 : (cxG P w K mg base [("k" : Str), ("ties" : Str), ("a" : Str), ("b" : Str)] "wished_web" (defScope s_wished_web) f cdv A outer s H).A.units + 65 < cLine := by omega
  have h64 : (cxG P w K mg base [("k" : Str), ("ties" : Str), ("a" : Str), ("b" : Str)] "wished_web" (defScope s_wished_web) f cdv A outer s H).A.units + 64 < cLine := by omega
  have h21 : (cxG P w K mg base [("k" : Str), ("ties" : Str), ("a" : Str), ("b" : Str)] "wished_web" (defScope s_wished_web) f cdv A outer s H).A.units + 20 < cLine := by omega
  have h2 : (cxG P w K mg base [("k" : Str), ("ties" : Str), ("a" : Str), ("b" : Str)] "wished_web" (defScope s_wished_web) f cdv A outer s H).A.units + 1 < cLine := by omega
  exact (tss_cons (ss_if (tb_cmp (od_eq h64) (op_e (sx_var (i := 0) (m := false) rfl (visL (by kernel_rfl)) rfl)) (op_e sx_int) rfl) (tss_one (ss_ret (sx_call C.web_of_ties hr hgd (glI (by kernel_rfl)) (as_cons sx_int (as_cons (sx_lst as_nil) as_nil)) rfl))) tss_nil)
    (tss_cons (ss_if (tb_cmp (od_eq h64) (op_e (sx_var (i := 0) (m := false) rfl (visL (by kernel_rfl)) rfl)) (op_e sx_int) rfl) (tss_one (ss_ret (sx_call C.web_of_ties hr hgd (glI (by kernel_rfl)) (as_cons sx_int (as_cons (sx_lst (as_cons (sx_tup (as_cons sx_int (as_cons sx_int as_nil))) (as_cons (sx_tup (as_cons sx_int (as_cons sx_int as_nil))) (as_cons (sx_tup (as_cons sx_int (as_cons sx_int as_nil))) (as_cons (sx_tup (as_cons sx_int (as_cons sx_int as_nil))) as_nil))))) as_nil)) rfl))) tss_nil)
    (tss_cons (ss_set (i := 1) nd rfl (locL (by kernel_rfl)) (sx_lst as_nil) (nm rfl))
    (tss_cons (ss_for PassesOwn.never rfl (it_rng1 (glI (by kernel_rfl)) B.range (op_e sx_int)) (tg_name (i := 2) nd rfl (locC (by kernel_rfl)) rfl) (tss_one (ss_set (i := 1) nd rfl (locL (by kernel_rfl)) (sx_bin od_add (op_e (sx_var (i := 1) (m := false) rfl (visL (by kernel_rfl)) rfl)) (op_e (sx_lcV rfl rfl nd (it_rng2 (glI (by kernel_rfl)) B.range (op_e (sx_bin od_add (op_e (sx_var (i := 2) (m := false) rfl (visC (by kernel_rfl)) rfl)) (op_e sx_int))) (op_e sx_int)) (blkOk_by (own := [((Str.ofString "b"), 3)]) (by kernel_rfl)) (by decide) (by decide) (fun _ _ _ _ _ => (tg_name (i := 3) nd rfl (locL (by kernel_rfl)) rfl)) (fun _ _ _ _ _ => (tb_if (PW.pt (tb_or (tb_cmp (od_eq h64) (op_e (sx_bin od_div (op_e (sx_var (i := 2) (m := false) rfl (visC (by kernel_rfl)) rfl)) (op_e sx_int))) (op_e (sx_bin od_div (op_e (sx_var (i := 3) (m := false) rfl (visL (by kernel_rfl)) rfl)) (op_e sx_int))) rfl) (tb_or1 (tb_cmp (od_eq h64) (op_e (sx_bin od_mod (op_e (sx_var (i := 2) (m := false) rfl (visC (by kernel_rfl)) rfl)) (op_e sx_int))) (op_e (sx_bin od_mod (op_e (sx_var (i := 3) (m := false) rfl (visL (by kernel_rfl)) rfl)) (op_e sx_int))) rfl)))))) (fun _ _ _ _ _ => (sx_tup (as_cons (sx_var (i := 2) (m := false) rfl (visC (by kernel_rfl)) rfl) (as_cons (sx_var (i := 3) (m := false) rfl (visL (by kernel_rfl)) rfl) as_nil))))))) (nm rfl))))
    (tss_one (ss_ret (sx_call C.web_of_ties hr hgd (glI (by kernel_rfl)) (as_cons sx_int (as_cons (sx_var (i := 1) (m := false) rfl (visL (by kernel_rfl)) rfl) as_nil)) rfl)))))))
theorem pb_is_met_by {f : Addr} (C : Cs P w K mg base F k) (B : Bs mg) (cdv : Value) (A : Around) (outer : List Env) (s : Shared) (H : Hp) (hr : Room k (A.deeper (envOfC "is_met_by" (defScope s_is_met_by) s.heap.objs.size f cdv))) (hgd : (A.deeper (envOfC "is_met_by" (defScope s_is_met_by) s.heap.objs.size f cdv)).guards = some []) :
    PSs (cxG P w K mg base [("web" : Str), ("row" : Str), ("pattern" : Str), ("name" : Str), ("one" : Str), ("tied" : Str)] "is_met_by" (defScope s_is_met_by) f cdv A outer s H) (defBody s_is_met_by) (TSt ⟨K, w, P⟩ F m_is_met_by b_is_met_by) := by
  have nd := sc_is_met_by.nd
  have h70 : (cxG P w K mg base [("web" : Str), ("row" : Str), ("pattern" : Str), ("name" : Str), ("one" : Str), ("tied" : Str)] "is_met_by" (defScope s_is_met_by) f cdv A outer s H).A.units + 70 < cLine := by have := hr.un; show (A.deeper _).units + 70 < cLine; omega
  have h65 : (cxG P w K mg base [("web" : Str), ("row" : Str), ("pattern" : Str), ("name" : Str), ("one" : Str), ("tied" : Str)] "is_met_by" (defScope s_is_met_by) f cdv A outer s H).A.units + 65 < cLine := by omega
  have h64 : (cxG P w K mg base [("web" : Str), ("row" : Str), ("pattern" : Str), ("name" : Str), ("one" : Str), ("tied" : Str)] "is_met_by" (defScope s_is_met_by) f cdv A outer s H).A.units + 64 < cLine := by omega
  have h21 : (cxG P w K mg base [("web" : Str), ("row" : Str), ("pattern" : Str), ("name" : Str), ("one" : Str), ("tied" : Str)] "is_met_by" (defScope s_is_met_by) f cdv A outer s H).A.units + 20 < cLine := by omega
  have h2 : (cxG P w K mg base [("web" : Str), ("row" : Str), ("pattern" : Str), ("name" : Str), ("one" : Str), ("tied" : Str)] "is_met_by" (defScope s_is_met_by) f cdv A outer s H).A.units + 1 < cLine := by omega
  exact (tss_cons (ss_if (tb_cmp (od_inD h65) (op_e (sx_var (i := 3) (m := false) rfl (visC (by kernel_rfl)) rfl)) (op_e (sx_var (i := 1) (m := false) rfl (visL (by kernel_rfl)) rfl)) rfl) (tss_one (ss_ret sx_bl)) tss_nil)
    (tss_one (ss_ret (sx_callB (cd_all rfl) (glI (by kernel_rfl)) B.all rfl (ops_cons (op_e (sx_lcV rfl rfl nd (it_zip (glI (by kernel_rfl)) B.zip (op_e (sx_var (i := 1) (m := false) rfl (visL (by kernel_rfl)) rfl)) (op_e (sx_var (i := 2) (m := false) rfl (visL (by kernel_rfl)) rfl))) (blkOk_by (own := [((Str.ofString "one"), 4), ((Str.ofString "tied"), 5)]) (by kernel_rfl)) (by decide) (by decide) (fun _ _ _ _ _ => (tg_tup rfl (tg_cons (tg_name (i := 4) nd rfl (locL (by kernel_rfl)) rfl) (tg_cons (tg_name (i := 5) nd rfl (locL (by kernel_rfl)) rfl) tg_nil)))) (fun _ _ _ _ _ => tb_yes) (fun _ _ _ _ _ => (sx_cmp (od_eq h64) (op_e (sx_cmp (od_inD h65) (op_e (sx_tup (as_cons (sx_var (i := 3) (m := false) rfl (visC (by kernel_rfl)) rfl) (as_cons (sx_var (i := 4) (m := false) rfl (visL (by kernel_rfl)) rfl) as_nil)))) (op_e (sx_ixP (id_ixD h21) (op_e (sx_var (i := 0) (m := false) rfl (visC (by kernel_rfl)) rfl)) (op_e sx_int) (fun _ _ => rfl))) rfl)) (op_e (sx_cmp (od_eq h64) (op_e (sx_var (i := 5) (m := false) rfl (visL (by kernel_rfl)) rfl)) (op_e sx_int) rfl)) rfl)))) ops_nil)))))
theorem pb_meeting_names {f : Addr} (C : Cs P w K mg base F k) (B : Bs mg) (cdv : Value) (A : Around) (outer : List Env) (s : Shared) (H : Hp) (hr : Room k (A.deeper (envOfC "meeting_names" (defScope s_meeting_names) s.heap.objs.size f cdv))) (hgd : (A.deeper (envOfC "meeting_names" (defScope s_meeting_names) s.heap.objs.size f cdv)).guards = some []) :
    PSs (cxG P w K mg base [("web" : Str), ("row" : Str), ("pattern" : Str), ("name" : Str)] "meeting_names" (defScope s_meeting_names) f cdv A outer s H) (defBody s_meeting_names) (TSt ⟨K, w, P⟩ F m_meeting_names b_meeting_names) := by
  have nd := sc_meeting_names.nd
  have h70 : (cxG P w K mg base [("web" : Str), ("row" : Str), ("pattern" : Str), ("name" : Str)] "meeting_names" (defScope s_meeting_names) f cdv A outer s H).A.units + 70 < cLine := by have := hr.un; show (A.deeper _).units + 70 < cLine; omega
  have h65 : (cxG P w K mg base [("web" : Str), ("row" : Str), ("pattern" : Str), ("name" : Str)] "meeting_names" (defScope s_meeting_names) f cdv A outer s H).A.units + 65 < cLine := by omega
  have h64 : (cxG P w K mg base [("web" : Str), ("row" : Str), ("pattern" : Str), ("name" : Str)] "meeting_names" (defScope s_meeting_names) f cdv A outer s H).A.units + 64 < cLine := by omega
  have h21 : (cxG P w K mg base [("web" : Str), ("row" : Str), ("pattern" : Str), ("name" : Str)] "meeting_names" (defScope s_meeting_names) f cdv A outer s H).A.units + 20 < cLine := by omega
  have h2 : (cxG P w K mg base [("web" : Str), ("row" : Str), ("pattern" : Str), ("name" : Str)] "meeting_names" (defScope s_meeting_names) f cdv A outer s H).A.units + 1 < cLine := by omega
  exact (tss_one (ss_ret (sx_lcV rfl rfl nd (it_rng1 (glI (by kernel_rfl)) B.range (op_e (sx_ixP (id_ixD h21) (op_e (sx_var (i := 0) (m := false) rfl (visC (by kernel_rfl)) rfl)) (op_e sx_int) (fun _ _ => rfl)))) (blkOk_by (own := [((Str.ofString "name"), 3)]) (by kernel_rfl)) (by decide) (by decide) (fun _ _ _ _ _ => (tg_name (i := 3) nd rfl (locL (by kernel_rfl)) rfl)) (fun _ _ _ _ _ => (tb_if (tb_tru (op_e (sx_call C.is_met_by hr hgd (glI (by kernel_rfl)) (as_cons (sx_var (i := 0) (m := false) rfl (visC (by kernel_rfl)) rfl) (as_cons (sx_var (i := 1) (m := false) rfl (visC (by kernel_rfl)) rfl) (as_cons (sx_var (i := 2) (m := false) rfl (visC (by kernel_rfl)) rfl) (as_cons (sx_var (i := 3) (m := false) rfl (visL (by kernel_rfl)) rfl) as_nil)))) rfl)) (fun _ => rfl)))) (fun _ _ _ _ _ => (sx_var (i := 3) (m := false) rfl (visL (by kernel_rfl)) rfl)))))
theorem pb_is_met {f : Addr} (C : Cs P w K mg base F k) (B : Bs mg) (cdv : Value) (A : Around) (outer : List Env) (s : Shared) (H : Hp) (hr : Room k (A.deeper (envOfC "is_met" (defScope s_is_met) s.heap.objs.size f cdv))) (hgd : (A.deeper (envOfC "is_met" (defScope s_is_met) s.heap.objs.size f cdv)).guards = some []) :
    PSs (cxG P w K mg base [("web" : Str), ("row" : Str), ("pattern" : Str)] "is_met" (defScope s_is_met) f cdv A outer s H) (defBody s_is_met) (TSt ⟨K, w, P⟩ F m_is_met b_is_met) := by
  have nd := sc_is_met.nd
  have h70 : (cxG P w K mg base [("web" : Str), ("row" : Str), ("pattern" : Str)] "is_met" (defScope s_is_met) f cdv A outer s H).A.units + 70 < cLine := by have := hr.un; show (A.deeper _).units + 70 < cLine; omega
  have h65 : (cxG P w K mg base [("web" : Str), ("row" : Str), ("pattern" : Str)] "is_met" (defScope s_is_met) f cdv A outer s H).A.units + 65 < cLine := by omega
  have h64 : (cxG P w K mg base [("web" : Str), ("row" : Str), ("pattern" : Str)] "is_met" (defScope s_is_met) f cdv A outer s H).A.units + 64 < cLine := by omega
  have h21 : (cxG P w K mg base [("web" : Str), ("row" : Str), ("pattern" : Str)] "is_met" (defScope s_is_met) f cdv A outer s H).A.units + 20 < cLine := by omega
  have h2 : (cxG P w K mg base [("web" : Str), ("row" : Str), ("pattern" : Str)] "is_met" (defScope s_is_met) f cdv A outer s H).A.units + 1 < cLine := by omega
  exact (tss_one (ss_ret (sx_cmp (od_ne h64) (op_e (sx_call C.meeting_names hr hgd (glI (by kernel_rfl)) (as_cons (sx_var (i := 0) (m := false) rfl (visL (by kernel_rfl)) rfl) (as_cons (sx_var (i := 1) (m := false) rfl (visL (by kernel_rfl)) rfl) (as_cons (sx_var (i := 2) (m := false) rfl (visL (by kernel_rfl)) rfl) as_nil))) rfl)) (op_e (sx_lst as_nil)) rfl)))
theorem pb_rows_of_names {f : Addr} (C : Cs P w K mg base F k) (B : Bs mg) (cdv : Value) (A : Around) (outer : List Env) (s : Shared) (H : Hp) (hr : Room k (A.deeper (envOfC "rows_of_names" (defScope s_rows_of_names) s.heap.objs.size f cdv))) (hgd : (A.deeper (envOfC "rows_of_names" (defScope s_rows_of_names) s.heap.objs.size f cdv)).guards = some []) :
    PSs (cxG P w K mg base [("n" : Str), ("many" : Str), ("found" : Str), ("lap" : Str), ("late" : Str), ("row" : Str), ("name" : Str)] "rows_of_names" (defScope s_rows_of_names) f cdv A outer s H) (defBody s_rows_of_names) (TSt ⟨K, w, P⟩ F m_rows_of_names b_rows_of_names) := by
  have nd := sc_rows_of_names.nd
  have h70 : (cxG P w K mg base [("n" : Str), ("many" : Str), ("found" : Str), ("lap" : Str), ("late" : Str), ("row" : Str), ("name" : Str)] "rows_of_names" (defScope s_rows_of_names) f cdv A outer s H).A.units + 70 < cLine := by have := hr.un; show (A.deeper _).units + 70 < cLine; omega
  have h65 : (cxG P w K mg base [("n" : Str), ("many" : Str), ("found" : Str), ("lap" : Str), ("late" : Str), ("row" : Str), ("name" : Str)] "rows_of_names" (defScope s_rows_of_names) f cdv A outer s H).A.units + 65 < cLine := by omega
  have h64 : (cxG P w K mg base [("n" : Str), ("many" : Str), ("found" : Str), ("lap" : Str), ("late" : Str), ("row" : Str), ("name" : Str)] "rows_of_names" (defScope s_rows_of_names) f cdv A outer s H).A.units + 64 < cLine := by omega
  have h21 : (cxG P w K mg base [("n" : Str), ("many" : Str), ("found" : Str), ("lap" : Str), ("late" : Str), ("row" : Str), ("name" : Str)] "rows_of_names" (defScope s_rows_of_names) f cdv A outer s H).A.units + 20 < cLine := by omega
  have h2 : (cxG P w K mg base [("n" : Str), ("many" : Str), ("found" : Str), ("lap" : Str), ("late" : Str), ("row" : Str), ("name" : Str)] "rows_of_names" (defScope s_rows_of_names) f cdv A outer s H).A.units + 1 < cLine := by omega
  exact (tss_cons (ss_set (i := 2) nd rfl (locL (by kernel_rfl)) (sx_lst (as_cons (sx_tup as_nil) as_nil)) (nm rfl))
    (tss_cons (ss_for PassesOwn.never rfl (it_rng1 (glI (by kernel_rfl)) B.range (op_e (sx_var (i := 1) (m := false) rfl (visL (by kernel_rfl)) rfl))) (tg_name (i := 3) nd rfl (locL (by kernel_rfl)) rfl) (tss_cons (ss_set (i := 4) nd rfl (locL (by kernel_rfl)) (sx_lst as_nil) (nm rfl))
    (tss_cons (ss_for PassesOwn.never rfl (it_any (op_e (sx_var (i := 2) (m := false) rfl (visL (by kernel_rfl)) rfl))) (tg_name (i := 5) nd rfl (locC (by kernel_rfl)) rfl) (tss_one (ss_set (i := 4) nd rfl (locL (by kernel_rfl)) (sx_bin od_add (op_e (sx_var (i := 4) (m := false) rfl (visL (by kernel_rfl)) rfl)) (op_e (sx_lcV rfl rfl nd (it_rng1 (glI (by kernel_rfl)) B.range (op_e (sx_var (i := 0) (m := false) rfl (visL (by kernel_rfl)) rfl))) (blkOk_by (own := [((Str.ofString "name"), 6)]) (by kernel_rfl)) (by decide) (by decide) (fun _ _ _ _ _ => (tg_name (i := 6) nd rfl (locL (by kernel_rfl)) rfl)) (fun _ _ _ _ _ => (tb_if (tb_cmp (od_notInD h65) (op_e (sx_var (i := 6) (m := false) rfl (visL (by kernel_rfl)) rfl)) (op_e (sx_var (i := 5) (m := false) rfl (visC (by kernel_rfl)) rfl)) rfl))) (fun _ _ _ _ _ => (sx_tupS (st_star (op_e (sx_var (i := 5) (m := false) rfl (visC (by kernel_rfl)) rfl)) (st_one (sx_var (i := 6) (m := false) rfl (visL (by kernel_rfl)) rfl) st_nil))))))) (nm rfl))))
    (tss_one (ss_set (i := 2) nd rfl (locL (by kernel_rfl)) (sx_var (i := 4) (m := false) rfl (visL (by kernel_rfl)) rfl) (nm rfl))))))
    (tss_one (ss_ret (sx_var (i := 2) (m := false) rfl (visL (by kernel_rfl)) rfl)))))
theorem pb_all_patterns {f : Addr} (C : Cs P w K mg base F k) (B : Bs mg) (cdv : Value) (A : Around) (outer : List Env) (s : Shared) (H : Hp) (hr : Room k (A.deeper (envOfC "all_patterns" (defScope s_all_patterns) s.heap.objs.size f cdv))) (hgd : (A.deeper (envOfC "all_patterns" (defScope s_all_patterns) s.heap.objs.size f cdv)).guards = some []) :
    PSs (cxG P w K mg base [("many" : Str), ("found" : Str), ("lap" : Str), ("late" : Str), ("pattern" : Str)] "all_patterns" (defScope s_all_patterns) f cdv A outer s H) (defBody s_all_patterns) (TSt ⟨K, w, P⟩ F m_all_patterns b_all_patterns) := by
  have nd := sc_all_patterns.nd
  have h70 : (cxG P w K mg base [("many" : Str), ("found" : Str), ("lap" : Str), ("late" : Str), ("pattern" : Str)] "all_patterns" (defScope s_all_patterns) f cdv A outer s H).A.units + 70 < cLine := by have := hr.un; show (A.deeper _).units + 70 < cLine; omega
  have h65 : (cxG P w K mg base [("many" : Str), ("found" : Str), ("lap" : Str), ("late" : Str), ("pattern" : Str)] "all_patterns" (defScope s_all_patterns) f cdv A outer s H).A.units + 65 < cLine := by omega
  have h64 : (cxG P w K mg base [("many" : Str), ("found" : Str), ("lap" : Str), ("late" : Str), ("pattern" : Str)] "all_patterns" (defScope s_all_patterns) f cdv A outer s H).A.units + 64 < cLine := by omega
  have h21 : (cxG P w K mg base [("many" : Str), ("found" : Str), ("lap" : Str), ("late" : Str), ("pattern" : Str)] "all_patterns" (defScope s_all_patterns) f cdv A outer s H).A.units + 20 < cLine := by omega
  have h2 : (cxG P w K mg base [("many" : Str), ("found" : Str), ("lap" : Str), ("late" : Str), ("pattern" : Str)] "all_patterns" (defScope s_all_patterns) f cdv A outer s H).A.units + 1 < cLine := by omega
  exact (tss_cons (ss_set (i := 1) nd rfl (locL (by kernel_rfl)) (sx_lst (as_cons (sx_tup as_nil) as_nil)) (nm rfl))
    (tss_cons (ss_for PassesOwn.never rfl (it_rng1 (glI (by kernel_rfl)) B.range (op_e (sx_var (i := 0) (m := false) rfl (visL (by kernel_rfl)) rfl))) (tg_name (i := 2) nd rfl (locL (by kernel_rfl)) rfl) (tss_cons (ss_set (i := 3) nd rfl (locL (by kernel_rfl)) (sx_lst as_nil) (nm rfl))
    (tss_cons (ss_for PassesOwn.never rfl (it_any (op_e (sx_var (i := 1) (m := false) rfl (visL (by kernel_rfl)) rfl))) (tg_name (i := 4) nd rfl (locL (by kernel_rfl)) rfl) (tss_one (ss_set (i := 3) nd rfl (locL (by kernel_rfl)) (sx_bin od_add (op_e (sx_var (i := 3) (m := false) rfl (visL (by kernel_rfl)) rfl)) (op_e (sx_lst (as_cons (sx_tupS (st_star (op_e (sx_var (i := 4) (m := false) rfl (visL (by kernel_rfl)) rfl)) (st_one sx_int st_nil))) (as_cons (sx_tupS (st_star (op_e (sx_var (i := 4) (m := false) rfl (visL (by kernel_rfl)) rfl)) (st_one sx_int st_nil))) as_nil))))) (nm rfl))))
    (tss_one (ss_set (i := 1) nd rfl (locL (by kernel_rfl)) (sx_var (i := 3) (m := false) rfl (visL (by kernel_rfl)) rfl) (nm rfl))))))
    (tss_one (ss_ret (sx_var (i := 1) (m := false) rfl (visL (by kernel_rfl)) rfl)))))
theorem pb_missing_wish {f : Addr} (C : Cs P w K mg base F k) (B : Bs mg) (cdv : Value) (A : Around) (outer : List Env) (s : Shared) (H : Hp) (hr : Room k (A.deeper (envOfC "missing_wish" (defScope s_missing_wish) s.heap.objs.size f cdv))) (hgd : (A.deeper (envOfC "missing_wish" (defScope s_missing_wish) s.heap.objs.size f cdv)).guards = some []) :
    PSs (cxG P w K mg base [("web" : Str), ("k" : Str), ("many" : Str), ("row" : Str), ("pattern" : Str)] "missing_wish" (defScope s_missing_wish) f cdv A outer s H) (defBody s_missing_wish) (TSt ⟨K, w, P⟩ F m_missing_wish b_missing_wish) := by
  have nd := sc_missing_wish.nd
  have h70 : (cxG P w K mg base [("web" : Str), ("k" : Str), ("many" : Str), ("row" : Str), ("pattern" : Str)] "missing_wish" (defScope s_missing_wish) f cdv A outer s H).A.units + 70 < cLine := by have := hr.un; show (A.deeper _).units + 70 < cLine; omega
  have h65 : (cxG P w K mg base [("web" : Str), ("k" : Str), ("many" : Str), ("row" : Str), ("pattern" : Str)] "missing_wish" (defScope s_missing_wish) f cdv A outer s H).A.units + 65 < cLine := by omega
  have h64 : (cxG P w K mg base [("web" : Str), ("k" : Str), ("many" : Str), ("row" : Str), ("pattern" : Str)] "missing_wish" (defScope s_missing_wish) f cdv A outer s H).A.units + 64 < cLine := by omega
  have h21 : (cxG P w K mg base [("web" : Str), ("k" : Str), ("many" : Str), ("row" : Str), ("pattern" : Str)] "missing_wish" (defScope s_missing_wish) f cdv A outer s H).A.units + 20 < cLine := by omega
  have h2 : (cxG P w K mg base [("web" : Str), ("k" : Str), ("many" : Str), ("row" : Str), ("pattern" : Str)] "missing_wish" (defScope s_missing_wish) f cdv A outer s H).A.units + 1 < cLine := by omega
  exact (tss_cons (ss_for PassesOwn.never rfl (it_rng1 (glI (by kernel_rfl)) B.range (op_e (sx_var (i := 1) (m := false) rfl (visL (by kernel_rfl)) rfl))) (tg_name (i := 2) nd rfl (locL (by kernel_rfl)) rfl) (tss_one (ss_for PassesOwn.never rfl (it_any (op_e (sx_call C.rows_of_names hr hgd (glI (by kernel_rfl)) (as_cons (sx_ixP (id_ixD h21) (op_e (sx_var (i := 0) (m := false) rfl (visL (by kernel_rfl)) rfl)) (op_e sx_int) (fun _ _ => rfl)) (as_cons (sx_var (i := 2) (m := false) rfl (visL (by kernel_rfl)) rfl) as_nil)) rfl))) (tg_name (i := 3) nd rfl (locL (by kernel_rfl)) rfl) (tss_one (ss_for PassesOwn.never rfl (it_any (op_e (sx_call C.all_patterns hr hgd (glI (by kernel_rfl)) (as_cons (sx_var (i := 2) (m := false) rfl (visL (by kernel_rfl)) rfl) as_nil) rfl))) (tg_name (i := 4) nd rfl (locL (by kernel_rfl)) rfl) (tss_one (ss_if (tb_not (tb_tru (op_e (sx_call C.is_met hr hgd (glI (by kernel_rfl)) (as_cons (sx_var (i := 0) (m := false) rfl (visL (by kernel_rfl)) rfl) (as_cons (sx_var (i := 3) (m := false) rfl (visL (by kernel_rfl)) rfl) (as_cons (sx_var (i := 4) (m := false) rfl (visL (by kernel_rfl)) rfl) as_nil))) rfl)) (fun _ => rfl))) (tss_one (ss_ret (sx_tup (as_cons (sx_var (i := 3) (m := false) rfl (visL (by kernel_rfl)) rfl) (as_cons (sx_var (i := 4) (m := false) rfl (visL (by kernel_rfl)) rfl) as_nil))))) tss_nil)))))))
    (tss_one (ss_ret sx_non)))
theorem pb__law_source {f : Addr} (C : Cs P w K mg base F k) (B : Bs mg) (cdv : Value) (A : Around) (outer : List Env) (s : Shared) (H : Hp) (hr : Room k (A.deeper (envOfC "_law_source" (defScope s__law_source) s.heap.objs.size f cdv))) (hgd : (A.deeper (envOfC "_law_source" (defScope s__law_source) s.heap.objs.size f cdv)).guards = some []) :
    PSs (cxG P w K mg base [("script" : Str), ("mixed" : Str), ("cell" : Str)] "_law_source" (defScope s__law_source) f cdv A outer s H) (defBody s__law_source) (TSt ⟨K, w, P⟩ F m__law_source b__law_source) := by
  have nd := sc__law_source.nd
  have h70 : (cxG P w K mg base [("script" : Str), ("mixed" : Str), ("cell" : Str)] "_law_source" (defScope s__law_source) f cdv A outer s H).A.units + 70 < cLine := by have := hr.un; show (A.deeper _).units + 70 < cLine; omega
  have h65 : (cxG P w K mg base [("script" : Str), ("mixed" : Str), ("cell" : Str)] "_law_source" (defScope s__law_source) f cdv A outer s H).A.units + 65 < cLine := by omega
  have h64 : (cxG P w K mg base [("script" : Str), ("mixed" : Str), ("cell" : Str)] "_law_source" (defScope s__law_source) f cdv A outer s H).A.units + 64 < cLine := by omega
  have h21 : (cxG P w K mg base [("script" : Str), ("mixed" : Str), ("cell" : Str)] "_law_source" (defScope s__law_source) f cdv A outer s H).A.units + 20 < cLine := by omega
  have h2 : (cxG P w K mg base [("script" : Str), ("mixed" : Str), ("cell" : Str)] "_law_source" (defScope s__law_source) f cdv A outer s H).A.units + 1 < cLine := by omega
  exact (tss_cons (ss_set (i := 1) nd rfl (locL (by kernel_rfl)) sx_int (nm rfl))
    (tss_cons (ss_for PassesOwn.never rfl (it_any (op_e (sx_var (i := 0) (m := false) rfl (visL (by kernel_rfl)) rfl))) (tg_name (i := 2) nd rfl (locL (by kernel_rfl)) rfl) (tss_one (ss_set (i := 1) nd rfl (locL (by kernel_rfl)) (sx_bin od_mod (op_e (sx_callT cd_int (glI (by kernel_rfl)) B.int rfl (ops_cons (op_e (sx_bin od_add (op_e (sx_bin od_add (op_e (sx_bin od_mul (op_e (sx_var (i := 1) (m := false) rfl (visL (by kernel_rfl)) rfl)) (op_e sx_int))) (op_e (sx_bin od_mul (op_e (sx_var (i := 2) (m := false) rfl (visL (by kernel_rfl)) rfl)) (op_e sx_int))))) (op_e sx_int))) ops_nil))) (op_e sx_int)) (nm rfl))))
    (tss_one (ss_ret (sx_src (sx_rev (op_e (sx_lcV rfl rfl nd (it_any (op_e (sx_var (i := 0) (m := false) rfl (visL (by kernel_rfl)) rfl))) (blkOk_by (own := [((Str.ofString "cell"), 2)]) (by kernel_rfl)) (by decide) (by decide) (fun _ _ _ _ _ => (tg_name (i := 2) nd rfl (locL (by kernel_rfl)) rfl)) (fun _ _ _ _ _ => tb_yes) (fun _ _ _ _ _ => (sx_callB cd_abs (glI (by kernel_rfl)) B.abs rfl (ops_cons (op_e (sx_var (i := 2) (m := false) rfl (visL (by kernel_rfl)) rfl)) ops_nil)))))) sx_int (sx_var (i := 1) (m := false) rfl (visL (by kernel_rfl)) rfl) sx_int)))))
theorem pb__law_pick {f : Addr} (C : Cs P w K mg base F k) (B : Bs mg) (cdv : Value) (A : Around) (outer : List Env) (s : Shared) (H : Hp) (hr : Room k (A.deeper (envOfC "_law_pick" (defScope s__law_pick) s.heap.objs.size f cdv))) (hgd : (A.deeper (envOfC "_law_pick" (defScope s__law_pick) s.heap.objs.size f cdv)).guards = some []) :
    PSs (cxG P w K mg base [("source" : Str), ("many" : Str), ("left" : Str), ("mixed" : Str)] "_law_pick" (defScope s__law_pick) f cdv A outer s H) (defBody s__law_pick) (TSt ⟨K, w, P⟩ F m__law_pick b__law_pick) := by
  have nd := sc__law_pick.nd
  have h70 : (cxG P w K mg base [("source" : Str), ("many" : Str), ("left" : Str), ("mixed" : Str)] "_law_pick" (defScope s__law_pick) f cdv A outer s H).A.units + 70 < cLine := by have := hr.un; show (A.deeper _).units + 70 < cLine; omega
  have h65 : (cxG P w K mg base [("source" : Str), ("many" : Str), ("left" : Str), ("mixed" : Str)] "_law_pick" (defScope s__law_pick) f cdv A outer s H).A.units + 65 < cLine := by omega
  have h64 : (cxG P w K mg base [("source" : Str), ("many" : Str), ("left" : Str), ("mixed" : Str)] "_law_pick" (defScope s__law_pick) f cdv A outer s H).A.units + 64 < cLine := by omega
  have h21 : (cxG P w K mg base [("source" : Str), ("many" : Str), ("left" : Str), ("mixed" : Str)] "_law_pick" (defScope s__law_pick) f cdv A outer s H).A.units + 20 < cLine := by omega
  have h2 : (cxG P w K mg base [("source" : Str), ("many" : Str), ("left" : Str), ("mixed" : Str)] "_law_pick" (defScope s__law_pick) f cdv A outer s H).A.units + 1 < cLine := by omega
  exact (tss_cons (ss_while PassesOwn.never (PW.pt (tb_and (tb_cmp od_gt (op_e (sx_var (i := 1) (m := false) rfl (visL (by kernel_rfl)) rfl)) (op_e sx_int) rfl) (tb_and (tb_cmp od_lt (op_e (sx_SF .left (i := 0) h2 rfl (visL (by kernel_rfl)))) (op_e sx_int) rfl) (tb_and1 (tb_cmp od_gt (op_e (sx_lenS (glI (by kernel_rfl)) B.len (sx_cells (i := 0) h2 rfl (visL (by kernel_rfl))))) (op_e sx_int) rfl))))) (tss_one (ss_SF .left (i := 0) h2 rfl (visL (by kernel_rfl)) (sx_popS (sx_cells (i := 0) h2 rfl (visL (by kernel_rfl)))))))
    (tss_cons (ss_set (i := 2) nd rfl (locL (by kernel_rfl)) (sx_SF .left (i := 0) h2 rfl (visL (by kernel_rfl))) (nm rfl))
    (tss_cons (ss_if (PW.pt (tb_or (tb_cmp od_lt (op_e (sx_var (i := 1) (m := false) rfl (visL (by kernel_rfl)) rfl)) (op_e sx_int) rfl) (tb_or1 (tb_cmp od_gt (op_e (sx_var (i := 2) (m := false) rfl (visL (by kernel_rfl)) rfl)) (op_e sx_int) rfl)))) (tss_cons (ss_SF .left (i := 0) h2 rfl (visL (by kernel_rfl)) (sx_bin od_div (op_e (sx_var (i := 2) (m := false) rfl (visL (by kernel_rfl)) rfl)) (op_e (sx_callB (cd_max2 rfl) (glI (by kernel_rfl)) B.max rfl (ops_cons (op_e sx_int) (ops_cons (op_e (sx_var (i := 1) (m := false) rfl (visL (by kernel_rfl)) rfl)) ops_nil))))))
    (tss_one (ss_ret (sx_bin od_mod (op_e (sx_callT cd_int (glI (by kernel_rfl)) B.int rfl (ops_cons (op_e (sx_var (i := 2) (m := false) rfl (visL (by kernel_rfl)) rfl)) ops_nil))) (op_e (sx_callB (cd_max2 rfl) (glI (by kernel_rfl)) B.max rfl (ops_cons (op_e sx_int) (ops_cons (op_e (sx_var (i := 1) (m := false) rfl (visL (by kernel_rfl)) rfl)) ops_nil)))))))) tss_nil)
    (tss_cons (ss_SF .turn (i := 0) h2 rfl (visL (by kernel_rfl)) (sx_bin od_add (op_e (sx_SF .turn (i := 0) h2 rfl (visL (by kernel_rfl)))) (op_e sx_int)))
    (tss_cons (ss_set (i := 3) nd rfl (locL (by kernel_rfl)) (sx_bin od_mod (op_e (sx_callT cd_int (glI (by kernel_rfl)) B.int rfl (ops_cons (op_e (sx_bin od_add (op_e (sx_SF .mixed (i := 0) h2 rfl (visL (by kernel_rfl)))) (op_e (sx_bin od_mul (op_e (sx_SF .turn (i := 0) h2 rfl (visL (by kernel_rfl)))) (op_e sx_int))))) ops_nil))) (op_e sx_int)) (nm rfl))
    (tss_cons (ss_set (i := 3) nd rfl (locL (by kernel_rfl)) (sx_bin od_mod (op_e (sx_callT cd_int (glI (by kernel_rfl)) B.int rfl (ops_cons (op_e (sx_bin od_add (op_e (sx_bin od_mul (op_e (sx_var (i := 3) (m := false) rfl (visL (by kernel_rfl)) rfl)) (op_e (sx_var (i := 3) (m := false) rfl (visL (by kernel_rfl)) rfl)))) (op_e (sx_bin od_mul (op_e (sx_SF .turn (i := 0) h2 rfl (visL (by kernel_rfl)))) (op_e sx_int))))) ops_nil))) (op_e sx_int)) (nm rfl))
    (tss_cons (ss_SF .mixed (i := 0) h2 rfl (visL (by kernel_rfl)) (sx_var (i := 3) (m := false) rfl (visL (by kernel_rfl)) rfl))
    (tss_one (ss_ret (sx_bin od_mod (op_e (sx_callT cd_int (glI (by kernel_rfl)) B.int rfl (ops_cons (op_e (sx_bin od_div (op_e (sx_var (i := 3) (m := false) rfl (visL (by kernel_rfl)) rfl)) (op_e sx_int))) ops_nil))) (op_e (sx_var (i := 1) (m := false) rfl (visL (by kernel_rfl)) rfl))))))))))))
theorem pb__law_of {f : Addr} (C : Cs P w K mg base F k) (B : Bs mg) (cdv : Value) (A : Around) (outer : List Env) (s : Shared) (H : Hp) (hr : Room k (A.deeper (envOfC "_law_of" (defScope s__law_of) s.heap.objs.size f cdv))) (hgd : (A.deeper (envOfC "_law_of" (defScope s__law_of) s.heap.objs.size f cdv)).guards = some []) :
    PSs (cxG P w K mg base [("source" : Str), ("some" : Str)] "_law_of" (defScope s__law_of) f cdv A outer s H) (defBody s__law_of) (TSt ⟨K, w, P⟩ F m__law_of b__law_of) := by
  have nd := sc__law_of.nd
  have h70 : (cxG P w K mg base [("source" : Str), ("some" : Str)] "_law_of" (defScope s__law_of) f cdv A outer s H).A.units + 70 < cLine := by have := hr.un; show (A.deeper _).units + 70 < cLine; omega
  have h65 : (cxG P w K mg base [("source" : Str), ("some" : Str)] "_law_of" (defScope s__law_of) f cdv A outer s H).A.units + 65 < cLine := by omega
  have h64 : (cxG P w K mg base [("source" : Str), ("some" : Str)] "_law_of" (defScope s__law_of) f cdv A outer s H).A.units + 64 < cLine := by omega
  have h21 : (cxG P w K mg base [("source" : Str), ("some" : Str)] "_law_of" (defScope s__law_of) f cdv A outer s H).A.units + 20 < cLine := by omega
  have h2 : (cxG P w K mg base [("source" : Str), ("some" : Str)] "_law_of" (defScope s__law_of) f cdv A outer s H).A.units + 1 < cLine := by omega
  exact (tss_one (ss_ret (sx_ixP (id_ixD h21) (op_e (sx_var (i := 1) (m := false) rfl (visL (by kernel_rfl)) rfl)) (op_e (sx_call C._law_pick hr hgd (glI (by kernel_rfl)) (as_cons (sx_var (i := 0) (m := false) rfl (visL (by kernel_rfl)) rfl) (as_cons (sx_callB cd_lenD (glI (by kernel_rfl)) B.len rfl (ops_cons (op_e (sx_var (i := 1) (m := false) rfl (visL (by kernel_rfl)) rfl)) ops_nil)) as_nil)) rfl)) (fun _ _ => rfl))))
theorem pb__law_mixed {f : Addr} (C : Cs P w K mg base F k) (B : Bs mg) (cdv : Value) (A : Around) (outer : List Env) (s : Shared) (H : Hp) (hr : Room k (A.deeper (envOfC "_law_mixed" (defScope s__law_mixed) s.heap.objs.size f cdv))) (hgd : (A.deeper (envOfC "_law_mixed" (defScope s__law_mixed) s.heap.objs.size f cdv)).guards = some []) :
    PSs (cxG P w K mg base [("source" : Str), ("things" : Str), ("rest" : Str), ("lap" : Str)] "_law_mixed" (defScope s__law_mixed) f cdv A outer s H) (defBody s__law_mixed) (TSt ⟨K, w, P⟩ F m__law_mixed b__law_mixed) := by
  have nd := sc__law_mixed.nd
  have h70 : (cxG P w K mg base [("source" : Str), ("things" : Str), ("rest" : Str), ("lap" : Str)] "_law_mixed" (defScope s__law_mixed) f cdv A outer s H).A.units + 70 < cLine := by have := hr.un; show (A.deeper _).units + 70 < cLine; omega
  have h65 : (cxG P w K mg base [("source" : Str), ("things" : Str), ("rest" : Str), ("lap" : Str)] "_law_mixed" (defScope s__law_mixed) f cdv A outer s H).A.units + 65 < cLine := by omega
  have h64 : (cxG P w K mg base [("source" : Str), ("things" : Str), ("rest" : Str), ("lap" : Str)] "_law_mixed" (defScope s__law_mixed) f cdv A outer s H).A.units + 64 < cLine := by omega
  have h21 : (cxG P w K mg base [("source" : Str), ("things" : Str), ("rest" : Str), ("lap" : Str)] "_law_mixed" (defScope s__law_mixed) f cdv A outer s H).A.units + 20 < cLine := by omega
  have h2 : (cxG P w K mg base [("source" : Str), ("things" : Str), ("rest" : Str), ("lap" : Str)] "_law_mixed" (defScope s__law_mixed) f cdv A outer s H).A.units + 1 < cLine := by omega
  exact (tss_cons (ss_set (i := 2) nd rfl (locC (by kernel_rfl)) (sx_callT (cd_listD rfl) (glI (by kernel_rfl)) B.list rfl (ops_cons (op_e (sx_var (i := 1) (m := false) rfl (visL (by kernel_rfl)) rfl)) ops_nil)) (fun _ => rfl))
    (tss_one (ss_ret (sx_lcV rfl rfl nd (it_rng1 (glI (by kernel_rfl)) B.range (op_e (sx_callB cd_lenD (glI (by kernel_rfl)) B.len rfl (ops_cons (op_pk (i := 2) rfl (visC (by kernel_rfl)) rfl) ops_nil)))) (blkOk_by (own := [((Str.ofString "lap"), 3)]) (by kernel_rfl)) (by decide) (by decide) (fun _ _ _ _ _ => (tg_name (i := 3) nd rfl (locL (by kernel_rfl)) rfl)) (fun _ _ _ _ _ => tb_yes) (fun _ _ _ _ _ => (sx_popAt (i := 2) rfl (visC (by kernel_rfl)) rfl (sx_call C._law_pick hr hgd (glI (by kernel_rfl)) (as_cons (sx_var (i := 0) (m := false) rfl (visC (by kernel_rfl)) rfl) (as_cons (sx_callB cd_lenD (glI (by kernel_rfl)) B.len rfl (ops_cons (op_pk (i := 2) rfl (visC (by kernel_rfl)) rfl) ops_nil)) as_nil)) rfl)))))))
theorem pb__law_tie_web {f : Addr} (C : Cs P w K mg base F k) (B : Bs mg) (cdv : Value) (A : Around) (outer : List Env) (s : Shared) (H : Hp) (hr : Room k (A.deeper (envOfC "_law_tie_web" (defScope s__law_tie_web) s.heap.objs.size f cdv))) (hgd : (A.deeper (envOfC "_law_tie_web" (defScope s__law_tie_web) s.heap.objs.size f cdv)).guards = some []) :
    PSs (cxG P w K mg base [("source" : Str), ("least" : Str), ("most" : Str), ("n" : Str), ("share" : Str), ("ties" : Str), ("a" : Str), ("b" : Str)] "_law_tie_web" (defScope s__law_tie_web) f cdv A outer s H) (defBody s__law_tie_web) (TSt ⟨K, w, P⟩ F m__law_tie_web b__law_tie_web) := by
  have nd := sc__law_tie_web.nd
  have h70 : (cxG P w K mg base [("source" : Str), ("least" : Str), ("most" : Str), ("n" : Str), ("share" : Str), ("ties" : Str), ("a" : Str), ("b" : Str)] "_law_tie_web" (defScope s__law_tie_web) f cdv A outer s H).A.units + 70 < cLine := by have := hr.un; show (A.deeper _).units + 70 < cLine; omega
  have h65 : (cxG P w K mg base [("source" : Str), ("least" : Str), ("most" : Str), ("n" : Str), ("share" : Str), ("ties" : Str), ("a" : Str), ("b" : Str)] "_law_tie_web" (defScope s__law_tie_web) f cdv A outer s H).A.units + 65 < cLine := by omega
  have h64 : (cxG P w K mg base [("source" : Str), ("least" : Str), ("most" : Str), ("n" : Str), ("share" : Str), ("ties" : Str), ("a" : Str), ("b" : Str)] "_law_tie_web" (defScope s__law_tie_web) f cdv A outer s H).A.units + 64 < cLine := by omega
  have h21 : (cxG P w K mg base [("source" : Str), ("least" : Str), ("most" : Str), ("n" : Str), ("share" : Str), ("ties" : Str), ("a" : Str), ("b" : Str)] "_law_tie_web" (defScope s__law_tie_web) f cdv A outer s H).A.units + 20 < cLine := by omega
  have h2 : (cxG P w K mg base [("source" : Str), ("least" : Str), ("most" : Str), ("n" : Str), ("share" : Str), ("ties" : Str), ("a" : Str), ("b" : Str)] "_law_tie_web" (defScope s__law_tie_web) f cdv A outer s H).A.units + 1 < cLine := by omega
  exact (tss_cons (ss_parO (is := [3, 4, 5]) rfl nd (.cons (i := 3) rfl (locL (by kernel_rfl)) (by first | exact .inl rfl | exact .inr rfl) rfl (.cons (i := 4) rfl (locC (by kernel_rfl)) (by first | exact .inl rfl | exact .inr rfl) rfl (.cons (i := 5) rfl (locL (by kernel_rfl)) (by first | exact .inl rfl | exact .inr rfl) rfl Nms.nil))) (aps_cons (sx_bin od_add (op_e (sx_var (i := 1) (m := false) rfl (visL (by kernel_rfl)) rfl)) (op_e (sx_call C._law_pick hr hgd (glI (by kernel_rfl)) (as_cons (sx_var (i := 0) (m := false) rfl (visC (by kernel_rfl)) rfl) (as_cons (sx_bin od_add (op_e (sx_bin od_sub (op_e (sx_var (i := 2) (m := false) rfl (visL (by kernel_rfl)) rfl)) (op_e (sx_var (i := 1) (m := false) rfl (visL (by kernel_rfl)) rfl)))) (op_e sx_int)) as_nil)) rfl))) (aps_cons (sx_bin od_add (op_e sx_int) (op_e (sx_call C._law_pick hr hgd (glI (by kernel_rfl)) (as_cons (sx_var (i := 0) (m := false) rfl (visC (by kernel_rfl)) rfl) (as_cons sx_int as_nil)) rfl))) (aps_cons (sx_lst as_nil) aps_nil (nm rfl)) (nm rfl)) (nm rfl)) (by rw [sizeLine_eq]; decide))
    (tss_cons (ss_for PassesOwn.never rfl (it_rng1 (glI (by kernel_rfl)) B.range (op_e (sx_var (i := 3) (m := false) rfl (visL (by kernel_rfl)) rfl))) (tg_name (i := 6) nd rfl (locC (by kernel_rfl)) rfl) (tss_one (ss_set (i := 5) nd rfl (locL (by kernel_rfl)) (sx_bin od_add (op_e (sx_var (i := 5) (m := false) rfl (visL (by kernel_rfl)) rfl)) (op_e (sx_lcV rfl rfl nd (it_rng2 (glI (by kernel_rfl)) B.range (op_e (sx_bin od_add (op_e (sx_var (i := 6) (m := false) rfl (visC (by kernel_rfl)) rfl)) (op_e sx_int))) (op_e (sx_var (i := 3) (m := false) rfl (visL (by kernel_rfl)) rfl))) (blkOk_by (own := [((Str.ofString "b"), 7)]) (by kernel_rfl)) (by decide) (by decide) (fun _ _ _ _ _ => (tg_name (i := 7) nd rfl (locL (by kernel_rfl)) rfl)) (fun _ _ _ _ _ => (tb_if (tb_cmp od_lt (op_e (sx_call C._law_pick hr hgd (glI (by kernel_rfl)) (as_cons (sx_var (i := 0) (m := false) rfl (visC (by kernel_rfl)) rfl) (as_cons sx_int as_nil)) rfl)) (op_e (sx_var (i := 4) (m := false) rfl (visC (by kernel_rfl)) rfl)) rfl))) (fun _ _ _ _ _ => (sx_tup (as_cons (sx_var (i := 6) (m := false) rfl (visC (by kernel_rfl)) rfl) (as_cons (sx_var (i := 7) (m := false) rfl (visL (by kernel_rfl)) rfl) as_nil))))))) (nm rfl))))
    (tss_one (ss_ret (sx_call C._law_of_ties hr hgd (glI (by kernel_rfl)) (as_cons (sx_var (i := 3) (m := false) rfl (visL (by kernel_rfl)) rfl) (as_cons (sx_var (i := 5) (m := false) rfl (visL (by kernel_rfl)) rfl) as_nil)) rfl)))))
theorem pb__law_of_ties {f : Addr} (C : Cs P w K mg base F k) (B : Bs mg) (cdv : Value) (A : Around) (outer : List Env) (s : Shared) (H : Hp) (hr : Room k (A.deeper (envOfC "_law_of_ties" (defScope s__law_of_ties) s.heap.objs.size f cdv))) (hgd : (A.deeper (envOfC "_law_of_ties" (defScope s__law_of_ties) s.heap.objs.size f cdv)).guards = some []) :
    PSs (cxG P w K mg base [("n" : Str), ("ties" : Str), ("arrows" : Str), ("a" : Str), ("b" : Str)] "_law_of_ties" (defScope s__law_of_ties) f cdv A outer s H) (defBody s__law_of_ties) (TSt ⟨K, w, P⟩ F m__law_of_ties b__law_of_ties) := by
  have nd := sc__law_of_ties.nd
  have h70 : (cxG P w K mg base [("n" : Str), ("ties" : Str), ("arrows" : Str), ("a" : Str), ("b" : Str)] "_law_of_ties" (defScope s__law_of_ties) f cdv A outer s H).A.units + 70 < cLine := by have := hr.un; show (A.deeper _).units + 70 < cLine; omega
  have h65 : (cxG P w K mg base [("n" : Str), ("ties" : Str), ("arrows" : Str), ("a" : Str), ("b" : Str)] "_law_of_ties" (defScope s__law_of_ties) f cdv A outer s H).A.units + 65 < cLine := by omega
  have h64 : (cxG P w K mg base [("n" : Str), ("ties" : Str), ("arrows" : Str), ("a" : Str), ("b" : Str)] "_law_of_ties" (defScope s__law_of_ties) f cdv A outer s H).A.units + 64 < cLine := by omega
  have h21 : (cxG P w K mg base [("n" : Str), ("ties" : Str), ("arrows" : Str), ("a" : Str), ("b" : Str)] "_law_of_ties" (defScope s__law_of_ties) f cdv A outer s H).A.units + 20 < cLine := by omega
  have h2 : (cxG P w K mg base [("n" : Str), ("ties" : Str), ("arrows" : Str), ("a" : Str), ("b" : Str)] "_law_of_ties" (defScope s__law_of_ties) f cdv A outer s H).A.units + 1 < cLine := by omega
  exact (tss_cons (ss_set (i := 2) nd rfl (locL (by kernel_rfl)) (sx_bin od_add (op_e (sx_callT (cd_listD rfl) (glI (by kernel_rfl)) B.list rfl (ops_cons (op_e (sx_var (i := 1) (m := false) rfl (visL (by kernel_rfl)) rfl)) ops_nil))) (op_e (sx_lcV rfl rfl nd (it_any (op_e (sx_var (i := 1) (m := false) rfl (visL (by kernel_rfl)) rfl))) (blkOk_by (own := [((Str.ofString "a"), 3), ((Str.ofString "b"), 4)]) (by kernel_rfl)) (by decide) (by decide) (fun _ _ _ _ _ => (tg_tup rfl (tg_cons (tg_name (i := 3) nd rfl (locL (by kernel_rfl)) rfl) (tg_cons (tg_name (i := 4) nd rfl (locL (by kernel_rfl)) rfl) tg_nil)))) (fun _ _ _ _ _ => tb_yes) (fun _ _ _ _ _ => (sx_tup (as_cons (sx_var (i := 4) (m := false) rfl (visL (by kernel_rfl)) rfl) (as_cons (sx_var (i := 3) (m := false) rfl (visL (by kernel_rfl)) rfl) as_nil))))))) (nm rfl))
    (tss_one (ss_ret (sx_tup (as_cons (sx_var (i := 0) (m := false) rfl (visL (by kernel_rfl)) rfl) (as_cons (sx_bin od_mul (op_e (sx_tup (as_cons sx_int as_nil))) (op_e (sx_var (i := 0) (m := false) rfl (visL (by kernel_rfl)) rfl))) (as_cons (sx_callT cd_tuple (glI (by kernel_rfl)) B.tuple rfl (ops_cons (op_e (sx_callB (cd_sortedD rfl h70) (glI (by kernel_rfl)) B.sorted rfl (ops_cons (op_e (sx_var (i := 2) (m := false) rfl (visL (by kernel_rfl)) rfl)) ops_nil))) ops_nil)) as_nil)))))))
theorem pb__law_wishes {f : Addr} (C : Cs P w K mg base F k) (B : Bs mg) (cdv : Value) (A : Around) (outer : List Env) (s : Shared) (H : Hp) (hr : Room k (A.deeper (envOfC "_law_wishes" (defScope s__law_wishes) s.heap.objs.size f cdv))) (hgd : (A.deeper (envOfC "_law_wishes" (defScope s__law_wishes) s.heap.objs.size f cdv)).guards = some []) :
    PSs (cxG P w K mg base [("n" : Str), ("k" : Str), ("found" : Str), ("rows" : Str), ("patterns" : Str), ("many" : Str), ("row" : Str), ("more" : Str), ("late" : Str), ("pattern" : Str), ("name" : Str)] "_law_wishes" (defScope s__law_wishes) f cdv A outer s H) (defBody s__law_wishes) (TSt ⟨K, w, P⟩ F m__law_wishes b__law_wishes) := by
  have nd := sc__law_wishes.nd
  have h70 : (cxG P w K mg base [("n" : Str), ("k" : Str), ("found" : Str), ("rows" : Str), ("patterns" : Str), ("many" : Str), ("row" : Str), ("more" : Str), ("late" : Str), ("pattern" : Str), ("name" : Str)] "_law_wishes" (defScope s__law_wishes) f cdv A outer s H).A.units + 70 < cLine := by have := hr.un; show (A.deeper _).units + 70 < cLine; omega
  have h65 : (cxG P w K mg base [("n" : Str), ("k" : Str), ("found" : Str), ("rows" : Str), ("patterns" : Str), ("many" : Str), ("row" : Str), ("more" : Str), ("late" : Str), ("pattern" : Str), ("name" : Str)] "_law_wishes" (defScope s__law_wishes) f cdv A outer s H).A.units + 65 < cLine := by omega
  have h64 : (cxG P w K mg base [("n" : Str), ("k" : Str), ("found" : Str), ("rows" : Str), ("patterns" : Str), ("many" : Str), ("row" : Str), ("more" : Str), ("late" : Str), ("pattern" : Str), ("name" : Str)] "_law_wishes" (defScope s__law_wishes) f cdv A outer s H).A.units + 64 < cLine := by omega
  have h21 : (cxG P w K mg base [("n" : Str), ("k" : Str), ("found" : Str), ("rows" : Str), ("patterns" : Str), ("many" : Str), ("row" : Str), ("more" : Str), ("late" : Str), ("pattern" : Str), ("name" : Str)] "_law_wishes" (defScope s__law_wishes) f cdv A outer s H).A.units + 20 < cLine := by omega
  have h2 : (cxG P w K mg base [("n" : Str), ("k" : Str), ("found" : Str), ("rows" : Str), ("patterns" : Str), ("many" : Str), ("row" : Str), ("more" : Str), ("late" : Str), ("pattern" : Str), ("name" : Str)] "_law_wishes" (defScope s__law_wishes) f cdv A outer s H).A.units + 1 < cLine := by omega
  exact (tss_cons (ss_par3 (i := 2) (j := 3) (l := 4) rfl nd rfl rfl rfl (by decide) (by decide) (by decide) rfl rfl rfl (sx_lst as_nil) (sx_lst (as_cons (sx_tup as_nil) as_nil)) (sx_lst (as_cons (sx_tup as_nil) as_nil)) (nm rfl) (nm rfl) (nm rfl))
    (tss_cons (ss_for PassesOwn.never rfl (it_rng1 (glI (by kernel_rfl)) B.range (op_e (sx_var (i := 1) (m := false) rfl (visL (by kernel_rfl)) rfl))) (tg_name (i := 5) nd rfl (locL (by kernel_rfl)) rfl) (tss_cons (ss_for PassesOwn.never rfl (it_any (op_e (sx_var (i := 3) (m := false) rfl (visL (by kernel_rfl)) rfl))) (tg_name (i := 6) nd rfl (locC (by kernel_rfl)) rfl) (tss_one (ss_set (i := 2) nd rfl (locL (by kernel_rfl)) (sx_bin od_add (op_e (sx_var (i := 2) (m := false) rfl (visL (by kernel_rfl)) rfl)) (op_e (sx_lcV rfl rfl nd (it_any (op_e (sx_var (i := 4) (m := false) rfl (visL (by kernel_rfl)) rfl))) (blkOk_by (own := [((Str.ofString "pattern"), 9)]) (by kernel_rfl)) (by decide) (by decide) (fun _ _ _ _ _ => (tg_name (i := 9) nd rfl (locL (by kernel_rfl)) rfl)) (fun _ _ _ _ _ => tb_yes) (fun _ _ _ _ _ => (sx_tup (as_cons (sx_var (i := 6) (m := false) rfl (visC (by kernel_rfl)) rfl) (as_cons (sx_var (i := 9) (m := false) rfl (visL (by kernel_rfl)) rfl) as_nil))))))) (nm rfl))))
    (tss_cons (ss_set (i := 7) nd rfl (locL (by kernel_rfl)) (sx_lst as_nil) (nm rfl))
    (tss_cons (ss_for PassesOwn.never rfl (it_any (op_e (sx_var (i := 3) (m := false) rfl (visL (by kernel_rfl)) rfl))) (tg_name (i := 6) nd rfl (locC (by kernel_rfl)) rfl) (tss_one (ss_set (i := 7) nd rfl (locL (by kernel_rfl)) (sx_bin od_add (op_e (sx_var (i := 7) (m := false) rfl (visL (by kernel_rfl)) rfl)) (op_e (sx_lcV rfl rfl nd (it_rng1 (glI (by kernel_rfl)) B.range (op_e (sx_var (i := 0) (m := false) rfl (visL (by kernel_rfl)) rfl))) (blkOk_by (own := [((Str.ofString "name"), 10)]) (by kernel_rfl)) (by decide) (by decide) (fun _ _ _ _ _ => (tg_name (i := 10) nd rfl (locL (by kernel_rfl)) rfl)) (fun _ _ _ _ _ => (tb_if (tb_cmp (od_notInD h65) (op_e (sx_var (i := 10) (m := false) rfl (visL (by kernel_rfl)) rfl)) (op_e (sx_var (i := 6) (m := false) rfl (visC (by kernel_rfl)) rfl)) rfl))) (fun _ _ _ _ _ => (sx_bin od_add (op_e (sx_var (i := 6) (m := false) rfl (visC (by kernel_rfl)) rfl)) (op_e (sx_tup (as_cons (sx_var (i := 10) (m := false) rfl (visL (by kernel_rfl)) rfl) as_nil)))))))) (nm rfl))))
    (tss_cons (ss_set (i := 8) nd rfl (locL (by kernel_rfl)) (sx_lst as_nil) (nm rfl))
    (tss_cons (ss_for PassesOwn.never rfl (it_any (op_e (sx_var (i := 4) (m := false) rfl (visL (by kernel_rfl)) rfl))) (tg_name (i := 9) nd rfl (locL (by kernel_rfl)) rfl) (tss_one (ss_set (i := 8) nd rfl (locL (by kernel_rfl)) (sx_bin od_add (op_e (sx_var (i := 8) (m := false) rfl (visL (by kernel_rfl)) rfl)) (op_e (sx_lst (as_cons (sx_bin od_add (op_e (sx_var (i := 9) (m := false) rfl (visL (by kernel_rfl)) rfl)) (op_e (sx_tup (as_cons sx_int as_nil)))) (as_cons (sx_bin od_add (op_e (sx_var (i := 9) (m := false) rfl (visL (by kernel_rfl)) rfl)) (op_e (sx_tup (as_cons sx_int as_nil)))) as_nil))))) (nm rfl))))
    (tss_one (ss_par2 (i := 3) (j := 4) rfl nd rfl rfl (by decide) rfl rfl (sx_var (i := 7) (m := false) rfl (visL (by kernel_rfl)) rfl) (sx_var (i := 8) (m := false) rfl (visL (by kernel_rfl)) rfl) (nm rfl) (nm rfl)))))))))
    (tss_one (ss_ret (sx_var (i := 2) (m := false) rfl (visL (by kernel_rfl)) rfl)))))
theorem pb__law_meets {f : Addr} (C : Cs P w K mg base F k) (B : Bs mg) (cdv : Value) (A : Around) (outer : List Env) (s : Shared) (H : Hp) (hr : Room k (A.deeper (envOfC "_law_meets" (defScope s__law_meets) s.heap.objs.size f cdv))) (hgd : (A.deeper (envOfC "_law_meets" (defScope s__law_meets) s.heap.objs.size f cdv)).guards = some []) :
    PSs (cxG P w K mg base [("web" : Str), ("row" : Str), ("pattern" : Str), ("found" : Str), ("name" : Str), ("wrong" : Str), ("k" : Str), ("one" : Str)] "_law_meets" (defScope s__law_meets) f cdv A outer s H) (defBody s__law_meets) (TSt ⟨K, w, P⟩ F m__law_meets b__law_meets) := by
  have nd := sc__law_meets.nd
  have h70 : (cxG P w K mg base [("web" : Str), ("row" : Str), ("pattern" : Str), ("found" : Str), ("name" : Str), ("wrong" : Str), ("k" : Str), ("one" : Str)] "_law_meets" (defScope s__law_meets) f cdv A outer s H).A.units + 70 < cLine := by have := hr.un; show (A.deeper _).units + 70 < cLine; omega
  have h65 : (cxG P w K mg base [("web" : Str), ("row" : Str), ("pattern" : Str), ("found" : Str), ("name" : Str), ("wrong" : Str), ("k" : Str), ("one" : Str)] "_law_meets" (defScope s__law_meets) f cdv A outer s H).A.units + 65 < cLine := by omega
  have h64 : (cxG P w K mg base [("web" : Str), ("row" : Str), ("pattern" : Str), ("found" : Str), ("name" : Str), ("wrong" : Str), ("k" : Str), ("one" : Str)] "_law_meets" (defScope s__law_meets) f cdv A outer s H).A.units + 64 < cLine := by omega
  have h21 : (cxG P w K mg base [("web" : Str), ("row" : Str), ("pattern" : Str), ("found" : Str), ("name" : Str), ("wrong" : Str), ("k" : Str), ("one" : Str)] "_law_meets" (defScope s__law_meets) f cdv A outer s H).A.units + 20 < cLine := by omega
  have h2 : (cxG P w K mg base [("web" : Str), ("row" : Str), ("pattern" : Str), ("found" : Str), ("name" : Str), ("wrong" : Str), ("k" : Str), ("one" : Str)] "_law_meets" (defScope s__law_meets) f cdv A outer s H).A.units + 1 < cLine := by omega
  exact (tss_cons (ss_set (i := 3) nd rfl (locL (by kernel_rfl)) (sx_lst as_nil) (nm rfl))
    (tss_cons (ss_for PassesOwn.never rfl (it_rng1 (glI (by kernel_rfl)) B.range (op_e (sx_ixP (id_ixD h21) (op_e (sx_var (i := 0) (m := false) rfl (visC (by kernel_rfl)) rfl)) (op_e sx_int) (fun _ _ => rfl)))) (tg_name (i := 4) nd rfl (locC (by kernel_rfl)) rfl) (tss_cons (ss_setLcV (i := 5) rfl rfl nd rfl (by kernel_rfl) (it_enum (glI (by kernel_rfl)) B.enumerate (op_e (sx_var (i := 1) (m := false) rfl (visL (by kernel_rfl)) rfl))) (blkOk_by (own := [((Str.ofString "k"), 6), ((Str.ofString "one"), 7)]) (by kernel_rfl)) (by decide) (by decide) (fun _ _ _ _ _ => (tg_tup rfl (tg_cons (tg_name (i := 6) nd rfl (locL (by kernel_rfl)) rfl) (tg_cons (tg_name (i := 7) nd rfl (locL (by kernel_rfl)) rfl) tg_nil)))) (fun _ _ _ _ _ => (tb_if (PW.pt (tb_or (tb_cmp (od_eq h64) (op_e (sx_var (i := 4) (m := false) rfl (visC (by kernel_rfl)) rfl)) (op_e (sx_var (i := 7) (m := false) rfl (visL (by kernel_rfl)) rfl)) rfl) (tb_or1 (tb_cmp (od_ne h64) (op_e (sx_cmp (od_inD h65) (op_e (sx_tup (as_cons (sx_var (i := 4) (m := false) rfl (visC (by kernel_rfl)) rfl) (as_cons (sx_var (i := 7) (m := false) rfl (visL (by kernel_rfl)) rfl) as_nil)))) (op_e (sx_ixP (id_ixD h21) (op_e (sx_var (i := 0) (m := false) rfl (visC (by kernel_rfl)) rfl)) (op_e sx_int) (fun _ _ => rfl))) rfl)) (op_e (sx_cmp (od_eq h64) (op_e (sx_ixP (id_ixD h21) (op_e (sx_var (i := 2) (m := false) rfl (visC (by kernel_rfl)) rfl)) (op_e (sx_var (i := 6) (m := false) rfl (visL (by kernel_rfl)) rfl)) (fun _ _ => rfl))) (op_e sx_int) rfl)) rfl)))))) (fun _ _ _ _ _ => (sx_var (i := 6) (m := false) rfl (visL (by kernel_rfl)) rfl)) (sw_true rfl (by kernel_rfl) rfl (by kernel_rfl)))
    (tss_one (ss_set (i := 3) nd rfl (locL (by kernel_rfl)) (sx_bin od_add (op_e (sx_var (i := 3) (m := false) rfl (visL (by kernel_rfl)) rfl)) (op_e (sx_bin od_mul (op_e (sx_lst (as_cons (sx_var (i := 4) (m := false) rfl (visC (by kernel_rfl)) rfl) as_nil))) (op_e (sx_callT cd_int (glI (by kernel_rfl)) B.int rfl (ops_cons (op_e (sx_cmp (od_eq h64) (op_e (sx_var (i := 5) (m := false) rfl (visL (by kernel_rfl)) rfl)) (op_e (sx_lst as_nil)) rfl)) ops_nil)))))) (nm rfl)))))
    (tss_one (ss_ret (sx_var (i := 3) (m := false) rfl (visL (by kernel_rfl)) rfl)))))
theorem pb__law_missing {f : Addr} (C : Cs P w K mg base F k) (B : Bs mg) (cdv : Value) (A : Around) (outer : List Env) (s : Shared) (H : Hp) (hr : Room k (A.deeper (envOfC "_law_missing" (defScope s__law_missing) s.heap.objs.size f cdv))) (hgd : (A.deeper (envOfC "_law_missing" (defScope s__law_missing) s.heap.objs.size f cdv)).guards = some []) :
    PSs (cxG P w K mg base [("web" : Str), ("k" : Str), ("row" : Str), ("pattern" : Str)] "_law_missing" (defScope s__law_missing) f cdv A outer s H) (defBody s__law_missing) (TSt ⟨K, w, P⟩ F m__law_missing b__law_missing) := by
  have nd := sc__law_missing.nd
  have h70 : (cxG P w K mg base [("web" : Str), ("k" : Str), ("row" : Str), ("pattern" : Str)] "_law_missing" (defScope s__law_missing) f cdv A outer s H).A.units + 70 < cLine := by have := hr.un; show (A.deeper _).units + 70 < cLine; omega
  have h65 : (cxG P w K mg base [("web" : Str), ("k" : Str), ("row" : Str), ("pattern" : Str)] "_law_missing" (defScope s__law_missing) f cdv A outer s H).A.units + 65 < cLine := by omega
  have h64 : (cxG P w K mg base [("web" : Str), ("k" : Str), ("row" : Str), ("pattern" : Str)] "_law_missing" (defScope s__law_missing) f cdv A outer s H).A.units + 64 < cLine := by omega
  have h21 : (cxG P w K mg base [("web" : Str), ("k" : Str), ("row" : Str), ("pattern" : Str)] "_law_missing" (defScope s__law_missing) f cdv A outer s H).A.units + 20 < cLine := by omega
  have h2 : (cxG P w K mg base [("web" : Str), ("k" : Str), ("row" : Str), ("pattern" : Str)] "_law_missing" (defScope s__law_missing) f cdv A outer s H).A.units + 1 < cLine := by omega
  exact (tss_cons (ss_for PassesOwn.never rfl (it_any (op_e (sx_call C._law_wishes hr hgd (glI (by kernel_rfl)) (as_cons (sx_ixP (id_ixD h21) (op_e (sx_var (i := 0) (m := false) rfl (visL (by kernel_rfl)) rfl)) (op_e sx_int) (fun _ _ => rfl)) (as_cons (sx_var (i := 1) (m := false) rfl (visL (by kernel_rfl)) rfl) as_nil)) rfl))) (tg_tup rfl (tg_cons (tg_name (i := 2) nd rfl (locL (by kernel_rfl)) rfl) (tg_cons (tg_name (i := 3) nd rfl (locL (by kernel_rfl)) rfl) tg_nil))) (tss_one (ss_if (tb_cmp (od_eq h64) (op_e (sx_call C._law_meets hr hgd (glI (by kernel_rfl)) (as_cons (sx_var (i := 0) (m := false) rfl (visL (by kernel_rfl)) rfl) (as_cons (sx_var (i := 2) (m := false) rfl (visL (by kernel_rfl)) rfl) (as_cons (sx_var (i := 3) (m := false) rfl (visL (by kernel_rfl)) rfl) as_nil))) rfl)) (op_e (sx_lst as_nil)) rfl) (tss_one (ss_ret (sx_tup (as_cons (sx_var (i := 2) (m := false) rfl (visL (by kernel_rfl)) rfl) (as_cons (sx_var (i := 3) (m := false) rfl (visL (by kernel_rfl)) rfl) as_nil))))) tss_nil)))
    (tss_one (ss_ret sx_non)))
theorem pb__law_paley {f : Addr} (C : Cs P w K mg base F k) (B : Bs mg) (cdv : Value) (A : Around) (outer : List Env) (s : Shared) (H : Hp) (hr : Room k (A.deeper (envOfC "_law_paley" (defScope s__law_paley) s.heap.objs.size f cdv))) (hgd : (A.deeper (envOfC "_law_paley" (defScope s__law_paley) s.heap.objs.size f cdv)).guards = some []) :
    PSs (cxG P w K mg base [("q" : Str), ("squares" : Str), ("ties" : Str), ("a" : Str), ("x" : Str), ("b" : Str)] "_law_paley" (defScope s__law_paley) f cdv A outer s H) (defBody s__law_paley) (TSt ⟨K, w, P⟩ F m__law_paley b__law_paley) := by
  have nd := sc__law_paley.nd
  have h70 : (cxG P w K mg base [("q" : Str), ("squares" : Str), ("ties" : Str), ("a" : Str), ("x" : Str), ("b" : Str)] "_law_paley" (defScope s__law_paley) f cdv A outer s H).A.units + 70 < cLine := by have := hr.un; show (A.deeper _).units + 70 < cLine; omega
  have h65 : (cxG P w K mg base [("q" : Str), ("squares" : Str), ("ties" : Str), ("a" : Str), ("x" : Str), ("b" : Str)] "_law_paley" (defScope s__law_paley) f cdv A outer s H).A.units + 65 < cLine := by omega
  have h64 : (cxG P w K mg base [("q" : Str), ("squares" : Str), ("ties" : Str), ("a" : Str), ("x" : Str), ("b" : Str)] "_law_paley" (defScope s__law_paley) f cdv A outer s H).A.units + 64 < cLine := by omega
  have h21 : (cxG P w K mg base [("q" : Str), ("squares" : Str), ("ties" : Str), ("a" : Str), ("x" : Str), ("b" : Str)] "_law_paley" (defScope s__law_paley) f cdv A outer s H).A.units + 20 < cLine := by omega
  have h2 : (cxG P w K mg base [("q" : Str), ("squares" : Str), ("ties" : Str), ("a" : Str), ("x" : Str), ("b" : Str)] "_law_paley" (defScope s__law_paley) f cdv A outer s H).A.units + 1 < cLine := by omega
  exact (tss_cons (ss_parO (is := [1, 2]) rfl nd (.cons (i := 1) rfl (locC (by kernel_rfl)) (by first | exact .inl rfl | exact .inr rfl) rfl (.cons (i := 2) rfl (locL (by kernel_rfl)) (by first | exact .inl rfl | exact .inr rfl) rfl Nms.nil)) (aps_cons (sx_lcV rfl rfl nd (it_rng2 (glI (by kernel_rfl)) B.range (op_e sx_int) (op_e (sx_var (i := 0) (m := false) rfl (visC (by kernel_rfl)) rfl))) (blkOk_by (own := [((Str.ofString "x"), 4)]) (by kernel_rfl)) (by decide) (by decide) (fun _ _ _ _ _ => (tg_name (i := 4) nd rfl (locL (by kernel_rfl)) rfl)) (fun _ _ _ _ _ => tb_yes) (fun _ _ _ _ _ => (sx_bin od_mod (op_e (sx_callT cd_int (glI (by kernel_rfl)) B.int rfl (ops_cons (op_e (sx_bin od_mul (op_e (sx_var (i := 4) (m := false) rfl (visL (by kernel_rfl)) rfl)) (op_e (sx_var (i := 4) (m := false) rfl (visL (by kernel_rfl)) rfl)))) ops_nil))) (op_e (sx_var (i := 0) (m := false) rfl (visC (by kernel_rfl)) rfl))))) (aps_cons (sx_lst as_nil) aps_nil (nm rfl)) (nm rfl)) (by rw [sizeLine_eq]; decide))
    (tss_cons (ss_for PassesOwn.never rfl (it_rng1 (glI (by kernel_rfl)) B.range (op_e (sx_var (i := 0) (m := false) rfl (visC (by kernel_rfl)) rfl))) (tg_name (i := 3) nd rfl (locC (by kernel_rfl)) rfl) (tss_one (ss_set (i := 2) nd rfl (locL (by kernel_rfl)) (sx_bin od_add (op_e (sx_var (i := 2) (m := false) rfl (visL (by kernel_rfl)) rfl)) (op_e (sx_lcV rfl rfl nd (it_rng2 (glI (by kernel_rfl)) B.range (op_e (sx_bin od_add (op_e (sx_var (i := 3) (m := false) rfl (visC (by kernel_rfl)) rfl)) (op_e sx_int))) (op_e (sx_var (i := 0) (m := false) rfl (visC (by kernel_rfl)) rfl))) (blkOk_by (own := [((Str.ofString "b"), 5)]) (by kernel_rfl)) (by decide) (by decide) (fun _ _ _ _ _ => (tg_name (i := 5) nd rfl (locL (by kernel_rfl)) rfl)) (fun _ _ _ _ _ => (tb_if (tb_cmp (od_inD h65) (op_e (sx_bin od_mod (op_e (sx_callT cd_int (glI (by kernel_rfl)) B.int rfl (ops_cons (op_e (sx_bin od_sub (op_e (sx_var (i := 5) (m := false) rfl (visL (by kernel_rfl)) rfl)) (op_e (sx_var (i := 3) (m := false) rfl (visC (by kernel_rfl)) rfl)))) ops_nil))) (op_e (sx_var (i := 0) (m := false) rfl (visC (by kernel_rfl)) rfl)))) (op_e (sx_var (i := 1) (m := false) rfl (visC (by kernel_rfl)) rfl)) rfl))) (fun _ _ _ _ _ => (sx_tup (as_cons (sx_var (i := 3) (m := false) rfl (visC (by kernel_rfl)) rfl) (as_cons (sx_var (i := 5) (m := false) rfl (visL (by kernel_rfl)) rfl) as_nil))))))) (nm rfl))))
    (tss_one (ss_ret (sx_call C._law_of_ties hr hgd (glI (by kernel_rfl)) (as_cons (sx_var (i := 0) (m := false) rfl (visC (by kernel_rfl)) rfl) (as_cons (sx_var (i := 2) (m := false) rfl (visL (by kernel_rfl)) rfl) as_nil)) rfl)))))
theorem pb__law_square {f : Addr} (C : Cs P w K mg base F k) (B : Bs mg) (cdv : Value) (A : Around) (outer : List Env) (s : Shared) (H : Hp) (hr : Room k (A.deeper (envOfC "_law_square" (defScope s__law_square) s.heap.objs.size f cdv))) (hgd : (A.deeper (envOfC "_law_square" (defScope s__law_square) s.heap.objs.size f cdv)).guards = some []) :
    PSs (cxG P w K mg base [("ties" : Str), ("a" : Str), ("b" : Str)] "_law_square" (defScope s__law_square) f cdv A outer s H) (defBody s__law_square) (TSt ⟨K, w, P⟩ F m__law_square b__law_square) := by
  have nd := sc__law_square.nd
  have h70 : (cxG P w K mg base [("ties" : Str), ("a" : Str), ("b" : Str)] "_law_square" (defScope s__law_square) f cdv A outer s H).A.units + 70 < cLine := by have := hr.un; show (A.deeper _).units + 70 < cLine; omega
  have h65 : (cxG P w K mg base [("ties" : Str), ("a" : Str), ("b" : Str)] "_law_square" (defScope s__law_square) f cdv A outer s H).A.units + 65 < cLine := by omega
  have h64 : (cxG P w K mg base [("ties" : Str), ("a" : Str), ("b" : Str)] "_law_square" (defScope s__law_square) f cdv A outer s H).A.units + 64 < cLine := by omega
  have h21 : (cxG P w K mg base [("ties" : Str), ("a" : Str), ("b" : Str)] "_law_square" (defScope s__law_square) f cdv A outer s H).A.units + 20 < cLine := by omega
  have h2 : (cxG P w K mg base [("ties" : Str), ("a" : Str), ("b" : Str)] "_law_square" (defScope s__law_square) f cdv A outer s H).A.units + 1 < cLine := by omega
  exact (tss_cons (ss_set (i := 0) nd rfl (locL (by kernel_rfl)) (sx_lst as_nil) (nm rfl))
    (tss_cons (ss_for PassesOwn.never rfl (it_rng1 (glI (by kernel_rfl)) B.range (op_e sx_int)) (tg_name (i := 1) nd rfl (locC (by kernel_rfl)) rfl) (tss_one (ss_set (i := 0) nd rfl (locL (by kernel_rfl)) (sx_bin od_add (op_e (sx_var (i := 0) (m := false) rfl (visL (by kernel_rfl)) rfl)) (op_e (sx_lcV rfl rfl nd (it_rng2 (glI (by kernel_rfl)) B.range (op_e (sx_bin od_add (op_e (sx_var (i := 1) (m := false) rfl (visC (by kernel_rfl)) rfl)) (op_e sx_int))) (op_e sx_int)) (blkOk_by (own := [((Str.ofString "b"), 2)]) (by kernel_rfl)) (by decide) (by decide) (fun _ _ _ _ _ => (tg_name (i := 2) nd rfl (locL (by kernel_rfl)) rfl)) (fun _ _ _ _ _ => (tb_if (PW.pt (tb_or (tb_cmp (od_eq h64) (op_e (sx_bin od_div (op_e (sx_var (i := 1) (m := false) rfl (visC (by kernel_rfl)) rfl)) (op_e sx_int))) (op_e (sx_bin od_div (op_e (sx_var (i := 2) (m := false) rfl (visL (by kernel_rfl)) rfl)) (op_e sx_int))) rfl) (tb_or1 (tb_cmp (od_eq h64) (op_e (sx_bin od_mod (op_e (sx_callT cd_int (glI (by kernel_rfl)) B.int rfl (ops_cons (op_e (sx_bin od_sub (op_e (sx_var (i := 2) (m := false) rfl (visL (by kernel_rfl)) rfl)) (op_e (sx_var (i := 1) (m := false) rfl (visC (by kernel_rfl)) rfl)))) ops_nil))) (op_e sx_int))) (op_e sx_int) rfl)))))) (fun _ _ _ _ _ => (sx_tup (as_cons (sx_var (i := 1) (m := false) rfl (visC (by kernel_rfl)) rfl) (as_cons (sx_var (i := 2) (m := false) rfl (visL (by kernel_rfl)) rfl) as_nil))))))) (nm rfl))))
    (tss_one (ss_ret (sx_call C._law_of_ties hr hgd (glI (by kernel_rfl)) (as_cons sx_int (as_cons (sx_var (i := 0) (m := false) rfl (visL (by kernel_rfl)) rfl) as_nil)) rfl)))))
theorem pb__law_all_tie_webs {f : Addr} (C : Cs P w K mg base F k) (B : Bs mg) (cdv : Value) (A : Around) (outer : List Env) (s : Shared) (H : Hp) (hr : Room k (A.deeper (envOfC "_law_all_tie_webs" (defScope s__law_all_tie_webs) s.heap.objs.size f cdv))) (hgd : (A.deeper (envOfC "_law_all_tie_webs" (defScope s__law_all_tie_webs) s.heap.objs.size f cdv)).guards = some []) :
    PSs (cxG P w K mg base [("n" : Str), ("found" : Str), ("a" : Str), ("b" : Str), ("ties" : Str)] "_law_all_tie_webs" (defScope s__law_all_tie_webs) f cdv A outer s H) (defBody s__law_all_tie_webs) (TSt ⟨K, w, P⟩ F m__law_all_tie_webs b__law_all_tie_webs) := by
  have nd := sc__law_all_tie_webs.nd
  have h70 : (cxG P w K mg base [("n" : Str), ("found" : Str), ("a" : Str), ("b" : Str), ("ties" : Str)] "_law_all_tie_webs" (defScope s__law_all_tie_webs) f cdv A outer s H).A.units + 70 < cLine := by have := hr.un; show (A.deeper _).units + 70 < cLine; omega
  have h65 : (cxG P w K mg base [("n" : Str), ("found" : Str), ("a" : Str), ("b" : Str), ("ties" : Str)] "_law_all_tie_webs" (defScope s__law_all_tie_webs) f cdv A outer s H).A.units + 65 < cLine := by omega
  have h64 : (cxG P w K mg base [("n" : Str), ("found" : Str), ("a" : Str), ("b" : Str), ("ties" : Str)] "_law_all_tie_webs" (defScope s__law_all_tie_webs) f cdv A outer s H).A.units + 64 < cLine := by omega
  have h21 : (cxG P w K mg base [("n" : Str), ("found" : Str), ("a" : Str), ("b" : Str), ("ties" : Str)] "_law_all_tie_webs" (defScope s__law_all_tie_webs) f cdv A outer s H).A.units + 20 < cLine := by omega
  have h2 : (cxG P w K mg base [("n" : Str), ("found" : Str), ("a" : Str), ("b" : Str), ("ties" : Str)] "_law_all_tie_webs" (defScope s__law_all_tie_webs) f cdv A outer s H).A.units + 1 < cLine := by omega
  exact (tss_cons (ss_set (i := 1) nd rfl (locL (by kernel_rfl)) (sx_lst (as_cons (sx_lst as_nil) as_nil)) (nm rfl))
    (tss_cons (ss_for PassesOwn.never rfl (it_rng1 (glI (by kernel_rfl)) B.range (op_e (sx_var (i := 0) (m := false) rfl (visC (by kernel_rfl)) rfl))) (tg_name (i := 2) nd rfl (locC (by kernel_rfl)) rfl) (tss_one (ss_for PassesOwn.never rfl (it_rng2 (glI (by kernel_rfl)) B.range (op_e (sx_bin od_add (op_e (sx_var (i := 2) (m := false) rfl (visC (by kernel_rfl)) rfl)) (op_e sx_int))) (op_e (sx_var (i := 0) (m := false) rfl (visC (by kernel_rfl)) rfl))) (tg_name (i := 3) nd rfl (locC (by kernel_rfl)) rfl) (tss_one (ss_set (i := 1) nd rfl (locL (by kernel_rfl)) (sx_bin od_add (op_e (sx_var (i := 1) (m := false) rfl (visL (by kernel_rfl)) rfl)) (op_e (sx_lcV rfl rfl nd (it_any (op_e (sx_var (i := 1) (m := false) rfl (visL (by kernel_rfl)) rfl))) (blkOk_by (own := [((Str.ofString "ties"), 4)]) (by kernel_rfl)) (by decide) (by decide) (fun _ _ _ _ _ => (tg_name (i := 4) nd rfl (locL (by kernel_rfl)) rfl)) (fun _ _ _ _ _ => tb_yes) (fun _ _ _ _ _ => (sx_bin od_add (op_e (sx_var (i := 4) (m := false) rfl (visL (by kernel_rfl)) rfl)) (op_e (sx_lst (as_cons (sx_tup (as_cons (sx_var (i := 2) (m := false) rfl (visC (by kernel_rfl)) rfl) (as_cons (sx_var (i := 3) (m := false) rfl (visC (by kernel_rfl)) rfl) as_nil))) as_nil)))))))) (nm rfl))))))
    (tss_one (ss_ret (sx_lcV rfl rfl nd (it_any (op_e (sx_var (i := 1) (m := false) rfl (visL (by kernel_rfl)) rfl))) (blkOk_by (own := [((Str.ofString "ties"), 4)]) (by kernel_rfl)) (by decide) (by decide) (fun _ _ _ _ _ => (tg_name (i := 4) nd rfl (locL (by kernel_rfl)) rfl)) (fun _ _ _ _ _ => tb_yes) (fun _ _ _ _ _ => (sx_call C._law_of_ties hr hgd (glI (by kernel_rfl)) (as_cons (sx_var (i := 0) (m := false) rfl (visC (by kernel_rfl)) rfl) (as_cons (sx_var (i := 4) (m := false) rfl (visL (by kernel_rfl)) rfl) as_nil)) rfl)))))))
theorem pb__law_part {f : Addr} (C : Cs P w K mg base F k) (B : Bs mg) (cdv : Value) (A : Around) (outer : List Env) (s : Shared) (H : Hp) (hr : Room k (A.deeper (envOfC "_law_part" (defScope s__law_part) s.heap.objs.size f cdv))) (hgd : (A.deeper (envOfC "_law_part" (defScope s__law_part) s.heap.objs.size f cdv)).guards = some []) :
    PSs (cxG P w K mg base [("web" : Str), ("names" : Str), ("order" : Str), ("ties" : Str), ("k" : Str), ("name" : Str), ("a" : Str), ("b" : Str)] "_law_part" (defScope s__law_part) f cdv A outer s H) (defBody s__law_part) (TSt ⟨K, w, P⟩ F m__law_part b__law_part) := by
  have nd := sc__law_part.nd
  have h70 : (cxG P w K mg base [("web" : Str), ("names" : Str), ("order" : Str), ("ties" : Str), ("k" : Str), ("name" : Str), ("a" : Str), ("b" : Str)] "_law_part" (defScope s__law_part) f cdv A outer s H).A.units + 70 < cLine := by have := hr.un; show (A.deeper _).units + 70 < cLine; omega
  have h65 : (cxG P w K mg base [("web" : Str), ("names" : Str), ("order" : Str), ("ties" : Str), ("k" : Str), ("name" : Str), ("a" : Str), ("b" : Str)] "_law_part" (defScope s__law_part) f cdv A outer s H).A.units + 65 < cLine := by omega
  have h64 : (cxG P w K mg base [("web" : Str), ("names" : Str), ("order" : Str), ("ties" : Str), ("k" : Str), ("name" : Str), ("a" : Str), ("b" : Str)] "_law_part" (defScope s__law_part) f cdv A outer s H).A.units + 64 < cLine := by omega
  have h21 : (cxG P w K mg base [("web" : Str), ("names" : Str), ("order" : Str), ("ties" : Str), ("k" : Str), ("name" : Str), ("a" : Str), ("b" : Str)] "_law_part" (defScope s__law_part) f cdv A outer s H).A.units + 20 < cLine := by omega
  have h2 : (cxG P w K mg base [("web" : Str), ("names" : Str), ("order" : Str), ("ties" : Str), ("k" : Str), ("name" : Str), ("a" : Str), ("b" : Str)] "_law_part" (defScope s__law_part) f cdv A outer s H).A.units + 1 < cLine := by omega
  exact (tss_cons (ss_set (i := 2) nd rfl (locC (by kernel_rfl)) (sx_callT (cd_dict rfl h70) (glI (by kernel_rfl)) B.dict rfl (ops_cons (op_e (sx_lcV rfl rfl nd (it_enum (glI (by kernel_rfl)) B.enumerate (op_e (sx_var (i := 1) (m := false) rfl (visL (by kernel_rfl)) rfl))) (blkOk_by (own := [((Str.ofString "k"), 4), ((Str.ofString "name"), 5)]) (by kernel_rfl)) (by decide) (by decide) (fun _ _ _ _ _ => (tg_tup rfl (tg_cons (tg_name (i := 4) nd rfl (locL (by kernel_rfl)) rfl) (tg_cons (tg_name (i := 5) nd rfl (locL (by kernel_rfl)) rfl) tg_nil)))) (fun _ _ _ _ _ => tb_yes) (fun _ _ _ _ _ => (sx_tup (as_cons (sx_var (i := 5) (m := false) rfl (visL (by kernel_rfl)) rfl) (as_cons (sx_var (i := 4) (m := false) rfl (visL (by kernel_rfl)) rfl) as_nil)))))) ops_nil)) (nm rfl))
    (tss_cons (ss_setLcV (i := 3) rfl rfl nd rfl (by kernel_rfl) (it_any (op_e (sx_ixP (id_ixD h21) (op_e (sx_var (i := 0) (m := false) rfl (visL (by kernel_rfl)) rfl)) (op_e sx_int) (fun _ _ => rfl)))) (blkOk_by (own := [((Str.ofString "a"), 6), ((Str.ofString "b"), 7)]) (by kernel_rfl)) (by decide) (by decide) (fun _ _ _ _ _ => (tg_tup rfl (tg_cons (tg_name (i := 6) nd rfl (locL (by kernel_rfl)) rfl) (tg_cons (tg_name (i := 7) nd rfl (locL (by kernel_rfl)) rfl) tg_nil)))) (fun _ _ _ _ _ => (tb_if (PW.pt (tb_and (tb_cmp od_lt (op_e (sx_var (i := 6) (m := false) rfl (visL (by kernel_rfl)) rfl)) (op_e (sx_var (i := 7) (m := false) rfl (visL (by kernel_rfl)) rfl)) rfl) (tb_and (tb_cmp (od_inD h65) (op_e (sx_var (i := 6) (m := false) rfl (visL (by kernel_rfl)) rfl)) (op_e (sx_var (i := 2) (m := false) rfl (visC (by kernel_rfl)) rfl)) rfl) (tb_and1 (tb_cmp (od_inD h65) (op_e (sx_var (i := 7) (m := false) rfl (visL (by kernel_rfl)) rfl)) (op_e (sx_var (i := 2) (m := false) rfl (visC (by kernel_rfl)) rfl)) rfl))))))) (fun _ _ _ _ _ => (sx_tup (as_cons (sx_ixP (id_ixD h21) (op_e (sx_var (i := 2) (m := false) rfl (visC (by kernel_rfl)) rfl)) (op_e (sx_var (i := 6) (m := false) rfl (visL (by kernel_rfl)) rfl)) (fun _ _ => rfl)) (as_cons (sx_ixP (id_ixD h21) (op_e (sx_var (i := 2) (m := false) rfl (visC (by kernel_rfl)) rfl)) (op_e (sx_var (i := 7) (m := false) rfl (visL (by kernel_rfl)) rfl)) (fun _ _ => rfl)) as_nil)))) (sw_true rfl (by kernel_rfl) rfl (by kernel_rfl)))
    (tss_one (ss_ret (sx_call C._law_of_ties hr hgd (glI (by kernel_rfl)) (as_cons (sx_callB cd_lenD (glI (by kernel_rfl)) B.len rfl (ops_cons (op_e (sx_var (i := 1) (m := false) rfl (visL (by kernel_rfl)) rfl)) ops_nil)) (as_cons (sx_var (i := 3) (m := false) rfl (visL (by kernel_rfl)) rfl) as_nil)) rfl)))))
theorem pb_law {f : Addr} (C : Cs P w K mg base F k) (B : Bs mg) (cdv : Value) (A : Around) (outer : List Env) (s : Shared) (H : Hp) (hr : Room k (A.deeper (envOfC "law" (defScope s_law) s.heap.objs.size f cdv))) (hgd : (A.deeper (envOfC "law" (defScope s_law) s.heap.objs.size f cdv)).guards = some []) :
    PSs (cxG P w K mg base [("script" : Str), ("source" : Str), ("k" : Str), ("many" : Str), ("web" : Str), ("n" : Str), ("look" : Str), ("name" : Str), ("tied" : Str), ("some" : Str), ("a" : Str), ("b" : Str), ("one" : Str)] "law" (defScope s_law) f cdv A outer s H) (defBody s_law) (TSt ⟨K, w, P⟩ F m_law b_law) := by
  have nd := sc_law.nd
  have h70 : (cxG P w K mg base [("script" : Str), ("source" : Str), ("k" : Str), ("many" : Str), ("web" : Str), ("n" : Str), ("look" : Str), ("name" : Str), ("tied" : Str), ("some" : Str), ("a" : Str), ("b" : Str), ("one" : Str)] "law" (defScope s_law) f cdv A outer s H).A.units + 70 < cLine := by have := hr.un; show (A.deeper _).units + 70 < cLine; omega
  have h65 : (cxG P w K mg base [("script" : Str), ("source" : Str), ("k" : Str), ("many" : Str), ("web" : Str), ("n" : Str), ("look" : Str), ("name" : Str), ("tied" : Str), ("some" : Str), ("a" : Str), ("b" : Str), ("one" : Str)] "law" (defScope s_law) f cdv A outer s H).A.units + 65 < cLine := by omega
  have h64 : (cxG P w K mg base [("script" : Str), ("source" : Str), ("k" : Str), ("many" : Str), ("web" : Str), ("n" : Str), ("look" : Str), ("name" : Str), ("tied" : Str), ("some" : Str), ("a" : Str), ("b" : Str), ("one" : Str)] "law" (defScope s_law) f cdv A outer s H).A.units + 64 < cLine := by omega
  have h21 : (cxG P w K mg base [("script" : Str), ("source" : Str), ("k" : Str), ("many" : Str), ("web" : Str), ("n" : Str), ("look" : Str), ("name" : Str), ("tied" : Str), ("some" : Str), ("a" : Str), ("b" : Str), ("one" : Str)] "law" (defScope s_law) f cdv A outer s H).A.units + 20 < cLine := by omega
  have h2 : (cxG P w K mg base [("script" : Str), ("source" : Str), ("k" : Str), ("many" : Str), ("web" : Str), ("n" : Str), ("look" : Str), ("name" : Str), ("tied" : Str), ("some" : Str), ("a" : Str), ("b" : Str), ("one" : Str)] "law" (defScope s_law) f cdv A outer s H).A.units + 1 < cLine := by omega
  exact (tss_cons (ss_set (i := 1) nd rfl (locL (by kernel_rfl)) (sx_call C._law_source hr hgd (glI (by kernel_rfl)) (as_cons (sx_var (i := 0) (m := false) rfl (visL (by kernel_rfl)) rfl) as_nil) rfl) (nm rfl))
    (tss_cons (ss_for PassesOwn.never rfl (it_any (op_e (sx_tup (as_cons (sx_tup (as_cons sx_int (as_cons sx_int as_nil))) (as_cons (sx_tup (as_cons sx_int (as_cons sx_int as_nil))) (as_cons (sx_tup (as_cons sx_int (as_cons sx_int as_nil))) as_nil)))))) (tg_tup rfl (tg_cons (tg_name (i := 2) nd rfl (locL (by kernel_rfl)) rfl) (tg_cons (tg_name (i := 3) nd rfl (locL (by kernel_rfl)) rfl) tg_nil))) (tss_cons (ss_set (i := 4) nd rfl (locC (by kernel_rfl)) (sx_call C.wished_web hr hgd (glI (by kernel_rfl)) (as_cons (sx_var (i := 2) (m := false) rfl (visL (by kernel_rfl)) rfl) as_nil) rfl) (nm rfl))
    (tss_cons (ss_if (PW.pt (tb_or (tb_cmp (od_ne h64) (op_e (sx_ixP (id_ixD h21) (op_e (sx_var (i := 4) (m := false) rfl (visC (by kernel_rfl)) rfl)) (op_e sx_int) (fun _ _ => rfl))) (op_e (sx_var (i := 3) (m := false) rfl (visL (by kernel_rfl)) rfl)) rfl) (tb_or1 (tb_cmp (od_ne h64) (op_e (sx_callB (cd_repr h70 hgd) (glI (by kernel_rfl)) B.repr rfl (ops_cons (op_e (sx_var (i := 4) (m := false) rfl (visC (by kernel_rfl)) rfl)) ops_nil))) (op_e (sx_callB (cd_repr h70 hgd) (glI (by kernel_rfl)) B.repr rfl (ops_cons (op_e (sx_call C._law_of_ties hr hgd (glI (by kernel_rfl)) (as_cons (sx_var (i := 3) (m := false) rfl (visL (by kernel_rfl)) rfl) (as_cons (sx_lcV rfl rfl nd (it_any (op_e (sx_ixP (id_ixD h21) (op_e (sx_var (i := 4) (m := false) rfl (visC (by kernel_rfl)) rfl)) (op_e sx_int) (fun _ _ => rfl)))) (blkOk_by (own := [((Str.ofString "a"), 10), ((Str.ofString "b"), 11)]) (by kernel_rfl)) (by decide) (by decide) (fun _ _ _ _ _ => (tg_tup rfl (tg_cons (tg_name (i := 10) nd rfl (locL (by kernel_rfl)) rfl) (tg_cons (tg_name (i := 11) nd rfl (locL (by kernel_rfl)) rfl) tg_nil)))) (fun _ _ _ _ _ => (tb_if (tb_cmp od_lt (op_e (sx_var (i := 10) (m := false) rfl (visL (by kernel_rfl)) rfl)) (op_e (sx_var (i := 11) (m := false) rfl (visL (by kernel_rfl)) rfl)) rfl))) (fun _ _ _ _ _ => (sx_tup (as_cons (sx_var (i := 10) (m := false) rfl (visL (by kernel_rfl)) rfl) (as_cons (sx_var (i := 11) (m := false) rfl (visL (by kernel_rfl)) rfl) as_nil))))) as_nil)) rfl)) ops_nil))) rfl)))) (tss_one (ss_ret sx_bl)) tss_nil)
    (tss_one (ss_if (PW.pt (tb_or (tb_cmp od_isNot (op_e (sx_call C._law_missing hr hgd (glI (by kernel_rfl)) (as_cons (sx_var (i := 4) (m := false) rfl (visC (by kernel_rfl)) rfl) (as_cons (sx_var (i := 2) (m := false) rfl (visL (by kernel_rfl)) rfl) as_nil)) rfl)) (op_e sx_non) rfl) (tb_or1 (tb_cmp od_isNot (op_e (sx_call C.missing_wish hr hgd (glI (by kernel_rfl)) (as_cons (sx_var (i := 4) (m := false) rfl (visC (by kernel_rfl)) rfl) (as_cons (sx_var (i := 2) (m := false) rfl (visL (by kernel_rfl)) rfl) as_nil)) rfl)) (op_e sx_non) rfl)))) (tss_one (ss_ret sx_bl)) tss_nil)))))
    (tss_cons (ss_for PassesOwn.never rfl (it_any (op_e (sx_tup (as_cons sx_int (as_cons sx_int as_nil))))) (tg_name (i := 5) nd rfl (locL (by kernel_rfl)) rfl) (tss_one (ss_for PassesOwn.never rfl (it_any (op_e (sx_call C._law_all_tie_webs hr hgd (glI (by kernel_rfl)) (as_cons (sx_var (i := 5) (m := false) rfl (visL (by kernel_rfl)) rfl) as_nil) rfl))) (tg_name (i := 4) nd rfl (locC (by kernel_rfl)) rfl) (tss_one (ss_if (PW.pt (tb_or (tb_cmp od_is (op_e (sx_call C._law_missing hr hgd (glI (by kernel_rfl)) (as_cons (sx_var (i := 4) (m := false) rfl (visC (by kernel_rfl)) rfl) (as_cons sx_int as_nil)) rfl)) (op_e sx_non) rfl) (tb_or1 (tb_cmp od_is (op_e (sx_call C.missing_wish hr hgd (glI (by kernel_rfl)) (as_cons (sx_var (i := 4) (m := false) rfl (visC (by kernel_rfl)) rfl) (as_cons sx_int as_nil)) rfl)) (op_e sx_non) rfl)))) (tss_one (ss_ret sx_bl)) tss_nil)))))
    (tss_cons (ss_for PassesOwn.never rfl (it_any (op_e (sx_cut (op_e (sx_call C._law_mixed hr hgd (glI (by kernel_rfl)) (as_cons (sx_var (i := 1) (m := false) rfl (visL (by kernel_rfl)) rfl) (as_cons (sx_call C._law_all_tie_webs hr hgd (glI (by kernel_rfl)) (as_cons sx_int as_nil) rfl) as_nil)) rfl)) op_none (op_some (op_e sx_int))))) (tg_name (i := 4) nd rfl (locC (by kernel_rfl)) rfl) (tss_one (ss_if (tb_cmp (od_ne h64) (op_e (sx_callB (cd_repr h70 hgd) (glI (by kernel_rfl)) B.repr rfl (ops_cons (op_e (sx_call C.missing_wish hr hgd (glI (by kernel_rfl)) (as_cons (sx_var (i := 4) (m := false) rfl (visC (by kernel_rfl)) rfl) (as_cons sx_int as_nil)) rfl)) ops_nil))) (op_e (sx_callB (cd_repr h70 hgd) (glI (by kernel_rfl)) B.repr rfl (ops_cons (op_e (sx_call C._law_missing hr hgd (glI (by kernel_rfl)) (as_cons (sx_var (i := 4) (m := false) rfl (visC (by kernel_rfl)) rfl) (as_cons sx_int as_nil)) rfl)) ops_nil))) rfl) (tss_one (ss_ret sx_bl)) tss_nil)))
    (tss_cons (ss_for PassesOwn.never rfl (it_rng1 (glI (by kernel_rfl)) B.range (op_e sx_int)) (tg_name (i := 6) nd rfl (locL (by kernel_rfl)) rfl) (tss_cons (ss_set (i := 4) nd rfl (locC (by kernel_rfl)) (sx_call C._law_tie_web hr hgd (glI (by kernel_rfl)) (as_cons (sx_var (i := 1) (m := false) rfl (visL (by kernel_rfl)) rfl) (as_cons sx_int (as_cons sx_int as_nil))) rfl) (nm rfl))
    (tss_one (ss_if (tb_cmp od_is (op_e (sx_call C.missing_wish hr hgd (glI (by kernel_rfl)) (as_cons (sx_var (i := 4) (m := false) rfl (visC (by kernel_rfl)) rfl) (as_cons sx_int as_nil)) rfl)) (op_e sx_non) rfl) (tss_one (ss_ret sx_bl)) tss_nil))))
    (tss_cons (ss_set (i := 4) nd rfl (locC (by kernel_rfl)) (sx_call C._law_of hr hgd (glI (by kernel_rfl)) (as_cons (sx_var (i := 1) (m := false) rfl (visL (by kernel_rfl)) rfl) (as_cons (sx_lst (as_cons (sx_call0 C._law_square hr hgd (glI (by kernel_rfl)) rfl) (as_cons (sx_call C._law_paley hr hgd (glI (by kernel_rfl)) (as_cons sx_int as_nil) rfl) as_nil))) as_nil)) rfl) (nm rfl))
    (tss_cons (ss_set (i := 7) nd rfl (locC (by kernel_rfl)) (sx_call C._law_pick hr hgd (glI (by kernel_rfl)) (as_cons (sx_var (i := 1) (m := false) rfl (visL (by kernel_rfl)) rfl) (as_cons (sx_ixP (id_ixD h21) (op_e (sx_var (i := 4) (m := false) rfl (visC (by kernel_rfl)) rfl)) (op_e sx_int) (fun _ _ => rfl)) as_nil)) rfl) (nm rfl))
    (tss_cons (ss_for PassesOwn.never rfl (it_any (op_e (sx_tup (as_cons sx_bl (as_cons sx_bl as_nil))))) (tg_name (i := 8) nd rfl (locC (by kernel_rfl)) rfl) (tss_cons (ss_setLcV (i := 9) rfl rfl nd rfl (by kernel_rfl) (it_rng1 (glI (by kernel_rfl)) B.range (op_e (sx_ixP (id_ixD h21) (op_e (sx_var (i := 4) (m := false) rfl (visC (by kernel_rfl)) rfl)) (op_e sx_int) (fun _ _ => rfl)))) (blkOk_by (own := [((Str.ofString "one"), 12)]) (by kernel_rfl)) (by decide) (by decide) (fun _ _ _ _ _ => (tg_name (i := 12) nd rfl (locL (by kernel_rfl)) rfl)) (fun _ _ _ _ _ => (tb_if (PW.pt (tb_and (tb_cmp (od_ne h64) (op_e (sx_var (i := 12) (m := false) rfl (visL (by kernel_rfl)) rfl)) (op_e (sx_var (i := 7) (m := false) rfl (visC (by kernel_rfl)) rfl)) rfl) (tb_and1 (tb_cmp (od_eq h64) (op_e (sx_cmp (od_inD h65) (op_e (sx_tup (as_cons (sx_var (i := 7) (m := false) rfl (visC (by kernel_rfl)) rfl) (as_cons (sx_var (i := 12) (m := false) rfl (visL (by kernel_rfl)) rfl) as_nil)))) (op_e (sx_ixP (id_ixD h21) (op_e (sx_var (i := 4) (m := false) rfl (visC (by kernel_rfl)) rfl)) (op_e sx_int) (fun _ _ => rfl))) rfl)) (op_e (sx_var (i := 8) (m := false) rfl (visC (by kernel_rfl)) rfl)) rfl)))))) (fun _ _ _ _ _ => (sx_var (i := 12) (m := false) rfl (visL (by kernel_rfl)) rfl)) (sw_true rfl (by kernel_rfl) rfl (by kernel_rfl)))
    (tss_one (ss_if (PW.pt (tb_or (tb_cmp od_isNot (op_e (sx_call C.missing_wish hr hgd (glI (by kernel_rfl)) (as_cons (sx_call C._law_part hr hgd (glI (by kernel_rfl)) (as_cons (sx_var (i := 4) (m := false) rfl (visC (by kernel_rfl)) rfl) (as_cons (sx_var (i := 9) (m := false) rfl (visL (by kernel_rfl)) rfl) as_nil)) rfl) (as_cons sx_int as_nil)) rfl)) (op_e sx_non) rfl) (tb_or1 (tb_cmp od_lt (op_e (sx_callB cd_lenD (glI (by kernel_rfl)) B.len rfl (ops_cons (op_e (sx_var (i := 9) (m := false) rfl (visL (by kernel_rfl)) rfl)) ops_nil))) (op_e sx_int) rfl)))) (tss_one (ss_ret sx_bl)) tss_nil))))
    (tss_one (ss_ret sx_bl))))))))))
end
structure Fs (K : PySem.W.Frag) (mg : Str → Option Value) : Prop where
  web_of_ties : Fa K mg "web_of_ties" s_web_of_ties [("n" : Str), ("ties" : Str)]
  wished_web : Fa K mg "wished_web" s_wished_web [("k" : Str)]
  is_met_by : Fa K mg "is_met_by" s_is_met_by [("web" : Str), ("row" : Str), ("pattern" : Str), ("name" : Str)]
  meeting_names : Fa K mg "meeting_names" s_meeting_names [("web" : Str), ("row" : Str), ("pattern" : Str)]
  is_met : Fa K mg "is_met" s_is_met [("web" : Str), ("row" : Str), ("pattern" : Str)]
  rows_of_names : Fa K mg "rows_of_names" s_rows_of_names [("n" : Str), ("many" : Str)]
  all_patterns : Fa K mg "all_patterns" s_all_patterns [("many" : Str)]
  missing_wish : Fa K mg "missing_wish" s_missing_wish [("web" : Str), ("k" : Str)]
  _law_source : Fa K mg "_law_source" s__law_source [("script" : Str)]
  _law_pick : Fa K mg "_law_pick" s__law_pick [("source" : Str), ("many" : Str)]
  _law_of : Fa K mg "_law_of" s__law_of [("source" : Str), ("some" : Str)]
  _law_mixed : Fa K mg "_law_mixed" s__law_mixed [("source" : Str), ("things" : Str)]
  _law_tie_web : Fa K mg "_law_tie_web" s__law_tie_web [("source" : Str), ("least" : Str), ("most" : Str)]
  _law_of_ties : Fa K mg "_law_of_ties" s__law_of_ties [("n" : Str), ("ties" : Str)]
  _law_wishes : Fa K mg "_law_wishes" s__law_wishes [("n" : Str), ("k" : Str)]
  _law_meets : Fa K mg "_law_meets" s__law_meets [("web" : Str), ("row" : Str), ("pattern" : Str)]
  _law_missing : Fa K mg "_law_missing" s__law_missing [("web" : Str), ("k" : Str)]
  _law_paley : Fa K mg "_law_paley" s__law_paley [("q" : Str)]
  _law_square : Fa K mg "_law_square" s__law_square []
  _law_all_tie_webs : Fa K mg "_law_all_tie_webs" s__law_all_tie_webs [("n" : Str)]
  _law_part : Fa K mg "_law_part" s__law_part [("web" : Str), ("names" : Str)]
  law : Fa K mg "law" s_law [("script" : Str)]
theorem cs_all {P : Program} {w : World} {K : PySem.W.Frag} {mg : Str → Option Value} {base : Heap} {fuel : Nat} (A : Fs K mg) (B : Bs mg) : ∀ k, Cs P w K mg base (fnAt T fuel k) k
  | 0 => ⟨A.web_of_ties.zero rfl, A.wished_web.zero rfl, A.is_met_by.zero rfl, A.meeting_names.zero rfl, A.is_met.zero rfl, A.rows_of_names.zero rfl, A.all_patterns.zero rfl, A.missing_wish.zero rfl, A._law_source.zero rfl, A._law_pick.zero rfl, A._law_of.zero rfl, A._law_mixed.zero rfl, A._law_tie_web.zero rfl, A._law_of_ties.zero rfl, A._law_wishes.zero rfl, A._law_meets.zero rfl, A._law_missing.zero rfl, A._law_paley.zero rfl, A._law_square.zero rfl, A._law_all_tie_webs.zero rfl, A._law_part.zero rfl, A.law.zero rfl⟩
  | k + 1 => by
    have C := cs_all (P := P) (w := w) (base := base) (fuel := fuel) A B k
    exact ⟨A.web_of_ties.succ sc_web_of_ties rfl rfl rfl (by decide) (fun f cdv A outer s H hr hgd => pb_web_of_ties C B cdv A outer s H hr hgd) rfl,
      A.wished_web.succ sc_wished_web rfl rfl rfl (by decide) (fun f cdv A outer s H hr hgd => pb_wished_web C B cdv A outer s H hr hgd) rfl,
      A.is_met_by.succ sc_is_met_by rfl rfl rfl (by decide) (fun f cdv A outer s H hr hgd => pb_is_met_by C B cdv A outer s H hr hgd) rfl,
      A.meeting_names.succ sc_meeting_names rfl rfl rfl (by decide) (fun f cdv A outer s H hr hgd => pb_meeting_names C B cdv A outer s H hr hgd) rfl,
      A.is_met.succ sc_is_met rfl rfl rfl (by decide) (fun f cdv A outer s H hr hgd => pb_is_met C B cdv A outer s H hr hgd) rfl,
      A.rows_of_names.succ sc_rows_of_names rfl rfl rfl (by decide) (fun f cdv A outer s H hr hgd => pb_rows_of_names C B cdv A outer s H hr hgd) rfl,
      A.all_patterns.succ sc_all_patterns rfl rfl rfl (by decide) (fun f cdv A outer s H hr hgd => pb_all_patterns C B cdv A outer s H hr hgd) rfl,
      A.missing_wish.succ sc_missing_wish rfl rfl rfl (by decide) (fun f cdv A outer s H hr hgd => pb_missing_wish C B cdv A outer s H hr hgd) rfl,
      A._law_source.succ sc__law_source rfl rfl rfl (by decide) (fun f cdv A outer s H hr hgd => pb__law_source C B cdv A outer s H hr hgd) rfl,
      A._law_pick.succ sc__law_pick rfl rfl rfl (by decide) (fun f cdv A outer s H hr hgd => pb__law_pick C B cdv A outer s H hr hgd) rfl,
      A._law_of.succ sc__law_of rfl rfl rfl (by decide) (fun f cdv A outer s H hr hgd => pb__law_of C B cdv A outer s H hr hgd) rfl,
      A._law_mixed.succ sc__law_mixed rfl rfl rfl (by decide) (fun f cdv A outer s H hr hgd => pb__law_mixed C B cdv A outer s H hr hgd) rfl,
      A._law_tie_web.succ sc__law_tie_web rfl rfl rfl (by decide) (fun f cdv A outer s H hr hgd => pb__law_tie_web C B cdv A outer s H hr hgd) rfl,
      A._law_of_ties.succ sc__law_of_ties rfl rfl rfl (by decide) (fun f cdv A outer s H hr hgd => pb__law_of_ties C B cdv A outer s H hr hgd) rfl,
      A._law_wishes.succ sc__law_wishes rfl rfl rfl (by decide) (fun f cdv A outer s H hr hgd => pb__law_wishes C B cdv A outer s H hr hgd) rfl,
      A._law_meets.succ sc__law_meets rfl rfl rfl (by decide) (fun f cdv A outer s H hr hgd => pb__law_meets C B cdv A outer s H hr hgd) rfl,
      A._law_missing.succ sc__law_missing rfl rfl rfl (by decide) (fun f cdv A outer s H hr hgd => pb__law_missing C B cdv A outer s H hr hgd) rfl,
      A._law_paley.succ sc__law_paley rfl rfl rfl (by decide) (fun f cdv A outer s H hr hgd => pb__law_paley C B cdv A outer s H hr hgd) rfl,
      A._law_square.succ sc__law_square rfl rfl rfl (by decide) (fun f cdv A outer s H hr hgd => pb__law_square C B cdv A outer s H hr hgd) rfl,
      A._law_all_tie_webs.succ sc__law_all_tie_webs rfl rfl rfl (by decide) (fun f cdv A outer s H hr hgd => pb__law_all_tie_webs C B cdv A outer s H hr hgd) rfl,
      A._law_part.succ sc__law_part rfl rfl rfl (by decide) (fun f cdv A outer s H hr hgd => pb__law_part C B cdv A outer s H hr hgd) rfl,
      A.law.succ sc_law rfl rfl rfl (by decide) (fun f cdv A outer s H hr hgd => pb_law C B cdv A outer s H hr hgd) rfl⟩
theorem all_mk {l : PySem.W.OpenLaw} {w : World} {K : PySem.W.Frag} {h : Heap} {mg : Str → Option Value} {fa f0 f1 f2 f3 f4 f5 f6 f7 f8 f9 f10 f11 f12 f13 f14 f15 f16 f17 f18 f19 f20 f21 : Addr} (X : K.In h) (G : h.Ns mainGlobals mg) (hfa : mg "law" = some (.ref fa))
    {od0 an0 od1 an1 od2 an2 od3 an3 od4 an4 od5 an5 od6 an6 od7 an7 od8 an8 od9 an9 od10 an10 od11 an11 od12 an12 od13 an13 od14 an14 od15 an15 od16 an16 od17 an17 od18 an18 od19 an19 od20 an20 od21 an21 : Option Addr} {sl0 sl1 sl2 sl3 sl4 sl5 sl6 sl7 sl8 sl9 sl10 sl11 sl12 sl13 sl14 sl15 sl16 sl17 sl18 sl19 sl20 sl21 : Array (Option Value)} {oc0 kV0 dc0 pm0 cd0 ct0 oc1 kV1 dc1 pm1 cd1 ct1 oc2 kV2 dc2 pm2 cd2 ct2 oc3 kV3 dc3 pm3 cd3 ct3 oc4 kV4 dc4 pm4 cd4 ct4 oc5 kV5 dc5 pm5 cd5 ct5 oc6 kV6 dc6 pm6 cd6 ct6 oc7 kV7 dc7 pm7 cd7 ct7 oc8 kV8 dc8 pm8 cd8 ct8 oc9 kV9 dc9 pm9 cd9 ct9 oc10 kV10 dc10 pm10 cd10 ct10 oc11 kV11 dc11 pm11 cd11 ct11 oc12 kV12 dc12 pm12 cd12 ct12 oc13 kV13 dc13 pm13 cd13 ct13 oc14 kV14 dc14 pm14 cd14 ct14 oc15 kV15 dc15 pm15 cd15 ct15 oc16 kV16 dc16 pm16 cd16 ct16 oc17 kV17 dc17 pm17 cd17 ct17 oc18 kV18 dc18 pm18 cd18 ct18 oc19 kV19 dc19 pm19 cd19 ct19 oc20 kV20 dc20 pm20 cd20 ct20 oc21 kV21 dc21 pm21 cd21 ct21 : Value}
    (a0 : PySem.W.nsIn K mainGlobals "web_of_ties" = some (some (.ref f0))) (l0 : K.lookup f0 = some ⟨oc0, od0, .func (PySem.W.fnOf "web_of_ties" "web_of_ties" (defArgs s_web_of_ties) (defBody s_web_of_ties) (defScope s_web_of_ties) .none kV0 dc0 pm0 an0 cd0 ct0), sl0⟩) (c0 : PySem.W.codeIn K cd0 "web_of_ties" = true) (k0 : PySem.W.keepIn K (.ref f0) = true)
    (a1 : PySem.W.nsIn K mainGlobals "wished_web" = some (some (.ref f1))) (l1 : K.lookup f1 = some ⟨oc1, od1, .func (PySem.W.fnOf "wished_web" "wished_web" (defArgs s_wished_web) (defBody s_wished_web) (defScope s_wished_web) .none kV1 dc1 pm1 an1 cd1 ct1), sl1⟩) (c1 : PySem.W.codeIn K cd1 "wished_web" = true) (k1 : PySem.W.keepIn K (.ref f1) = true)
    (a2 : PySem.W.nsIn K mainGlobals "is_met_by" = some (some (.ref f2))) (l2 : K.lookup f2 = some ⟨oc2, od2, .func (PySem.W.fnOf "is_met_by" "is_met_by" (defArgs s_is_met_by) (defBody s_is_met_by) (defScope s_is_met_by) .none kV2 dc2 pm2 an2 cd2 ct2), sl2⟩) (c2 : PySem.W.codeIn K cd2 "is_met_by" = true) (k2 : PySem.W.keepIn K (.ref f2) = true)
    (a3 : PySem.W.nsIn K mainGlobals "meeting_names" = some (some (.ref f3))) (l3 : K.lookup f3 = some ⟨oc3, od3, .func (PySem.W.fnOf "meeting_names" "meeting_names" (defArgs s_meeting_names) (defBody s_meeting_names) (defScope s_meeting_names) .none kV3 dc3 pm3 an3 cd3 ct3), sl3⟩) (c3 : PySem.W.codeIn K cd3 "meeting_names" = true) (k3 : PySem.W.keepIn K (.ref f3) = true)
    (a4 : PySem.W.nsIn K mainGlobals "is_met" = some (some (.ref f4))) (l4 : K.lookup f4 = some ⟨oc4, od4, .func (PySem.W.fnOf "is_met" "is_met" (defArgs s_is_met) (defBody s_is_met) (defScope s_is_met) .none kV4 dc4 pm4 an4 cd4 ct4), sl4⟩) (c4 : PySem.W.codeIn K cd4 "is_met" = true) (k4 : PySem.W.keepIn K (.ref f4) = true)
    (a5 : PySem.W.nsIn K mainGlobals "rows_of_names" = some (some (.ref f5))) (l5 : K.lookup f5 = some ⟨oc5, od5, .func (PySem.W.fnOf "rows_of_names" "rows_of_names" (defArgs s_rows_of_names) (defBody s_rows_of_names) (defScope s_rows_of_names) .none kV5 dc5 pm5 an5 cd5 ct5), sl5⟩) (c5 : PySem.W.codeIn K cd5 "rows_of_names" = true) (k5 : PySem.W.keepIn K (.ref f5) = true)
    (a6 : PySem.W.nsIn K mainGlobals "all_patterns" = some (some (.ref f6))) (l6 : K.lookup f6 = some ⟨oc6, od6, .func (PySem.W.fnOf "all_patterns" "all_patterns" (defArgs s_all_patterns) (defBody s_all_patterns) (defScope s_all_patterns) .none kV6 dc6 pm6 an6 cd6 ct6), sl6⟩) (c6 : PySem.W.codeIn K cd6 "all_patterns" = true) (k6 : PySem.W.keepIn K (.ref f6) = true)
    (a7 : PySem.W.nsIn K mainGlobals "missing_wish" = some (some (.ref f7))) (l7 : K.lookup f7 = some ⟨oc7, od7, .func (PySem.W.fnOf "missing_wish" "missing_wish" (defArgs s_missing_wish) (defBody s_missing_wish) (defScope s_missing_wish) .none kV7 dc7 pm7 an7 cd7 ct7), sl7⟩) (c7 : PySem.W.codeIn K cd7 "missing_wish" = true) (k7 : PySem.W.keepIn K (.ref f7) = true)
    (a8 : PySem.W.nsIn K mainGlobals "_law_source" = some (some (.ref f8))) (l8 : K.lookup f8 = some ⟨oc8, od8, .func (PySem.W.fnOf "_law_source" "_law_source" (defArgs s__law_source) (defBody s__law_source) (defScope s__law_source) .none kV8 dc8 pm8 an8 cd8 ct8), sl8⟩) (c8 : PySem.W.codeIn K cd8 "_law_source" = true) (k8 : PySem.W.keepIn K (.ref f8) = true)
    (a9 : PySem.W.nsIn K mainGlobals "_law_pick" = some (some (.ref f9))) (l9 : K.lookup f9 = some ⟨oc9, od9, .func (PySem.W.fnOf "_law_pick" "_law_pick" (defArgs s__law_pick) (defBody s__law_pick) (defScope s__law_pick) .none kV9 dc9 pm9 an9 cd9 ct9), sl9⟩) (c9 : PySem.W.codeIn K cd9 "_law_pick" = true) (k9 : PySem.W.keepIn K (.ref f9) = true)
    (a10 : PySem.W.nsIn K mainGlobals "_law_of" = some (some (.ref f10))) (l10 : K.lookup f10 = some ⟨oc10, od10, .func (PySem.W.fnOf "_law_of" "_law_of" (defArgs s__law_of) (defBody s__law_of) (defScope s__law_of) .none kV10 dc10 pm10 an10 cd10 ct10), sl10⟩) (c10 : PySem.W.codeIn K cd10 "_law_of" = true) (k10 : PySem.W.keepIn K (.ref f10) = true)
    (a11 : PySem.W.nsIn K mainGlobals "_law_mixed" = some (some (.ref f11))) (l11 : K.lookup f11 = some ⟨oc11, od11, .func (PySem.W.fnOf "_law_mixed" "_law_mixed" (defArgs s__law_mixed) (defBody s__law_mixed) (defScope s__law_mixed) .none kV11 dc11 pm11 an11 cd11 ct11), sl11⟩) (c11 : PySem.W.codeIn K cd11 "_law_mixed" = true) (k11 : PySem.W.keepIn K (.ref f11) = true)
    (a12 : PySem.W.nsIn K mainGlobals "_law_tie_web" = some (some (.ref f12))) (l12 : K.lookup f12 = some ⟨oc12, od12, .func (PySem.W.fnOf "_law_tie_web" "_law_tie_web" (defArgs s__law_tie_web) (defBody s__law_tie_web) (defScope s__law_tie_web) .none kV12 dc12 pm12 an12 cd12 ct12), sl12⟩) (c12 : PySem.W.codeIn K cd12 "_law_tie_web" = true) (k12 : PySem.W.keepIn K (.ref f12) = true)
    (a13 : PySem.W.nsIn K mainGlobals "_law_of_ties" = some (some (.ref f13))) (l13 : K.lookup f13 = some ⟨oc13, od13, .func (PySem.W.fnOf "_law_of_ties" "_law_of_ties" (defArgs s__law_of_ties) (defBody s__law_of_ties) (defScope s__law_of_ties) .none kV13 dc13 pm13 an13 cd13 ct13), sl13⟩) (c13 : PySem.W.codeIn K cd13 "_law_of_ties" = true) (k13 : PySem.W.keepIn K (.ref f13) = true)
    (a14 : PySem.W.nsIn K mainGlobals "_law_wishes" = some (some (.ref f14))) (l14 : K.lookup f14 = some ⟨oc14, od14, .func (PySem.W.fnOf "_law_wishes" "_law_wishes" (defArgs s__law_wishes) (defBody s__law_wishes) (defScope s__law_wishes) .none kV14 dc14 pm14 an14 cd14 ct14), sl14⟩) (c14 : PySem.W.codeIn K cd14 "_law_wishes" = true) (k14 : PySem.W.keepIn K (.ref f14) = true)
    (a15 : PySem.W.nsIn K mainGlobals "_law_meets" = some (some (.ref f15))) (l15 : K.lookup f15 = some ⟨oc15, od15, .func (PySem.W.fnOf "_law_meets" "_law_meets" (defArgs s__law_meets) (defBody s__law_meets) (defScope s__law_meets) .none kV15 dc15 pm15 an15 cd15 ct15), sl15⟩) (c15 : PySem.W.codeIn K cd15 "_law_meets" = true) (k15 : PySem.W.keepIn K (.ref f15) = true)
    (a16 : PySem.W.nsIn K mainGlobals "_law_missing" = some (some (.ref f16))) (l16 : K.lookup f16 = some ⟨oc16, od16, .func (PySem.W.fnOf "_law_missing" "_law_missing" (defArgs s__law_missing) (defBody s__law_missing) (defScope s__law_missing) .none kV16 dc16 pm16 an16 cd16 ct16), sl16⟩) (c16 : PySem.W.codeIn K cd16 "_law_missing" = true) (k16 : PySem.W.keepIn K (.ref f16) = true)
    (a17 : PySem.W.nsIn K mainGlobals "_law_paley" = some (some (.ref f17))) (l17 : K.lookup f17 = some ⟨oc17, od17, .func (PySem.W.fnOf "_law_paley" "_law_paley" (defArgs s__law_paley) (defBody s__law_paley) (defScope s__law_paley) .none kV17 dc17 pm17 an17 cd17 ct17), sl17⟩) (c17 : PySem.W.codeIn K cd17 "_law_paley" = true) (k17 : PySem.W.keepIn K (.ref f17) = true)
    (a18 : PySem.W.nsIn K mainGlobals "_law_square" = some (some (.ref f18))) (l18 : K.lookup f18 = some ⟨oc18, od18, .func (PySem.W.fnOf "_law_square" "_law_square" (defArgs s__law_square) (defBody s__law_square) (defScope s__law_square) .none kV18 dc18 pm18 an18 cd18 ct18), sl18⟩) (c18 : PySem.W.codeIn K cd18 "_law_square" = true) (k18 : PySem.W.keepIn K (.ref f18) = true)
    (a19 : PySem.W.nsIn K mainGlobals "_law_all_tie_webs" = some (some (.ref f19))) (l19 : K.lookup f19 = some ⟨oc19, od19, .func (PySem.W.fnOf "_law_all_tie_webs" "_law_all_tie_webs" (defArgs s__law_all_tie_webs) (defBody s__law_all_tie_webs) (defScope s__law_all_tie_webs) .none kV19 dc19 pm19 an19 cd19 ct19), sl19⟩) (c19 : PySem.W.codeIn K cd19 "_law_all_tie_webs" = true) (k19 : PySem.W.keepIn K (.ref f19) = true)
    (a20 : PySem.W.nsIn K mainGlobals "_law_part" = some (some (.ref f20))) (l20 : K.lookup f20 = some ⟨oc20, od20, .func (PySem.W.fnOf "_law_part" "_law_part" (defArgs s__law_part) (defBody s__law_part) (defScope s__law_part) .none kV20 dc20 pm20 an20 cd20 ct20), sl20⟩) (c20 : PySem.W.codeIn K cd20 "_law_part" = true) (k20 : PySem.W.keepIn K (.ref f20) = true)
    (a21 : PySem.W.nsIn K mainGlobals "law" = some (some (.ref f21))) (l21 : K.lookup f21 = some ⟨oc21, od21, .func (PySem.W.fnOf "law" "law" (defArgs s_law) (defBody s_law) (defScope s_law) .none kV21 dc21 pm21 an21 cd21 ct21), sl21⟩) (c21 : PySem.W.codeIn K cd21 "law" = true) (k21 : PySem.W.keepIn K (.ref f21) = true)
    (z0 : PySem.W.nsIn K mainGlobals "abs" = some none)
    (z1 : PySem.W.nsIn K mainGlobals "all" = some none)
    (z2 : PySem.W.nsIn K mainGlobals "dict" = some none)
    (z3 : PySem.W.nsIn K mainGlobals "enumerate" = some none)
    (z4 : PySem.W.nsIn K mainGlobals "int" = some none)
    (z5 : PySem.W.nsIn K mainGlobals "len" = some none)
    (z6 : PySem.W.nsIn K mainGlobals "list" = some none)
    (z7 : PySem.W.nsIn K mainGlobals "max" = some none)
    (z8 : PySem.W.nsIn K mainGlobals "range" = some none)
    (z9 : PySem.W.nsIn K mainGlobals "repr" = some none)
    (z10 : PySem.W.nsIn K mainGlobals "sorted" = some none)
    (z11 : PySem.W.nsIn K mainGlobals "tuple" = some none)
    (z12 : PySem.W.nsIn K mainGlobals "zip" = some none)
    {k fuel : Nat} : ∃ fd : FuncData, (∀ (s : Shared) (v : Value), BindsTo s fd ⟨[v], []⟩ [("script", v)]) ∧ ∀ base : Heap, K.In base → base.Ns mainGlobals mg → FnG l.prog w K mg base (k + 1) fa fd ["script"] (SpF ⟨K, w, l.prog⟩ (fnAt T fuel (k + 1)) "law" 1) := by
  have e := hfa.symm.trans (PySem.W.mg_of X G a21)
  cases e
  have F0 := fun_mk (st := s_web_of_ties) l0 c0 k0
  have b0 := F0.binds (ps := [("n" : Str), ("ties" : Str)]) fun _ _ _ _ _ _ us hl => match us, hl with | [_, _], _ => rfl
  have F1 := fun_mk (st := s_wished_web) l1 c1 k1
  have b1 := F1.binds (ps := [("k" : Str)]) fun _ _ _ _ _ _ us hl => match us, hl with | [_], _ => rfl
  have F2 := fun_mk (st := s_is_met_by) l2 c2 k2
  have b2 := F2.binds (ps := [("web" : Str), ("row" : Str), ("pattern" : Str), ("name" : Str)]) fun _ _ _ _ _ _ us hl => match us, hl with | [_, _, _, _], _ => rfl
  have F3 := fun_mk (st := s_meeting_names) l3 c3 k3
  have b3 := F3.binds (ps := [("web" : Str), ("row" : Str), ("pattern" : Str)]) fun _ _ _ _ _ _ us hl => match us, hl with | [_, _, _], _ => rfl
  have F4 := fun_mk (st := s_is_met) l4 c4 k4
  have b4 := F4.binds (ps := [("web" : Str), ("row" : Str), ("pattern" : Str)]) fun _ _ _ _ _ _ us hl => match us, hl with | [_, _, _], _ => rfl
  have F5 := fun_mk (st := s_rows_of_names) l5 c5 k5
  have b5 := F5.binds (ps := [("n" : Str), ("many" : Str)]) fun _ _ _ _ _ _ us hl => match us, hl with | [_, _], _ => rfl
  have F6 := fun_mk (st := s_all_patterns) l6 c6 k6
  have b6 := F6.binds (ps := [("many" : Str)]) fun _ _ _ _ _ _ us hl => match us, hl with | [_], _ => rfl
  have F7 := fun_mk (st := s_missing_wish) l7 c7 k7
  have b7 := F7.binds (ps := [("web" : Str), ("k" : Str)]) fun _ _ _ _ _ _ us hl => match us, hl with | [_, _], _ => rfl
  have F8 := fun_mk (st := s__law_source) l8 c8 k8
  have b8 := F8.binds (ps := [("script" : Str)]) fun _ _ _ _ _ _ us hl => match us, hl with | [_], _ => rfl
  have F9 := fun_mk (st := s__law_pick) l9 c9 k9
  have b9 := F9.binds (ps := [("source" : Str), ("many" : Str)]) fun _ _ _ _ _ _ us hl => match us, hl with | [_, _], _ => rfl
  have F10 := fun_mk (st := s__law_of) l10 c10 k10
  have b10 := F10.binds (ps := [("source" : Str), ("some" : Str)]) fun _ _ _ _ _ _ us hl => match us, hl with | [_, _], _ => rfl
  have F11 := fun_mk (st := s__law_mixed) l11 c11 k11
  have b11 := F11.binds (ps := [("source" : Str), ("things" : Str)]) fun _ _ _ _ _ _ us hl => match us, hl with | [_, _], _ => rfl
  have F12 := fun_mk (st := s__law_tie_web) l12 c12 k12
  have b12 := F12.binds (ps := [("source" : Str), ("least" : Str), ("most" : Str)]) fun _ _ _ _ _ _ us hl => match us, hl with | [_, _, _], _ => rfl
  have F13 := fun_mk (st := s__law_of_ties) l13 c13 k13
  have b13 := F13.binds (ps := [("n" : Str), ("ties" : Str)]) fun _ _ _ _ _ _ us hl => match us, hl with | [_, _], _ => rfl
  have F14 := fun_mk (st := s__law_wishes) l14 c14 k14
  have b14 := F14.binds (ps := [("n" : Str), ("k" : Str)]) fun _ _ _ _ _ _ us hl => match us, hl with | [_, _], _ => rfl
  have F15 := fun_mk (st := s__law_meets) l15 c15 k15
  have b15 := F15.binds (ps := [("web" : Str), ("row" : Str), ("pattern" : Str)]) fun _ _ _ _ _ _ us hl => match us, hl with | [_, _, _], _ => rfl
  have F16 := fun_mk (st := s__law_missing) l16 c16 k16
  have b16 := F16.binds (ps := [("web" : Str), ("k" : Str)]) fun _ _ _ _ _ _ us hl => match us, hl with | [_, _], _ => rfl
  have F17 := fun_mk (st := s__law_paley) l17 c17 k17
  have b17 := F17.binds (ps := [("q" : Str)]) fun _ _ _ _ _ _ us hl => match us, hl with | [_], _ => rfl
  have F18 := fun_mk (st := s__law_square) l18 c18 k18
  have b18 := F18.binds (ps := []) fun _ _ _ _ _ _ us hl => match us, hl with | [], _ => rfl
  have F19 := fun_mk (st := s__law_all_tie_webs) l19 c19 k19
  have b19 := F19.binds (ps := [("n" : Str)]) fun _ _ _ _ _ _ us hl => match us, hl with | [_], _ => rfl
  have F20 := fun_mk (st := s__law_part) l20 c20 k20
  have b20 := F20.binds (ps := [("web" : Str), ("names" : Str)]) fun _ _ _ _ _ _ us hl => match us, hl with | [_, _], _ => rfl
  have F21 := fun_mk (st := s_law) l21 c21 k21
  have b21 := F21.binds (ps := [("script" : Str)]) fun _ _ _ _ _ _ us hl => match us, hl with | [_], _ => rfl
  have A : Fs K mg := ⟨⟨_, _, F0, PySem.W.mg_of X G a0, k0, b0⟩, ⟨_, _, F1, PySem.W.mg_of X G a1, k1, b1⟩, ⟨_, _, F2, PySem.W.mg_of X G a2, k2, b2⟩, ⟨_, _, F3, PySem.W.mg_of X G a3, k3, b3⟩, ⟨_, _, F4, PySem.W.mg_of X G a4, k4, b4⟩, ⟨_, _, F5, PySem.W.mg_of X G a5, k5, b5⟩, ⟨_, _, F6, PySem.W.mg_of X G a6, k6, b6⟩, ⟨_, _, F7, PySem.W.mg_of X G a7, k7, b7⟩, ⟨_, _, F8, PySem.W.mg_of X G a8, k8, b8⟩, ⟨_, _, F9, PySem.W.mg_of X G a9, k9, b9⟩, ⟨_, _, F10, PySem.W.mg_of X G a10, k10, b10⟩, ⟨_, _, F11, PySem.W.mg_of X G a11, k11, b11⟩, ⟨_, _, F12, PySem.W.mg_of X G a12, k12, b12⟩, ⟨_, _, F13, PySem.W.mg_of X G a13, k13, b13⟩, ⟨_, _, F14, PySem.W.mg_of X G a14, k14, b14⟩, ⟨_, _, F15, PySem.W.mg_of X G a15, k15, b15⟩, ⟨_, _, F16, PySem.W.mg_of X G a16, k16, b16⟩, ⟨_, _, F17, PySem.W.mg_of X G a17, k17, b17⟩, ⟨_, _, F18, PySem.W.mg_of X G a18, k18, b18⟩, ⟨_, _, F19, PySem.W.mg_of X G a19, k19, b19⟩, ⟨_, _, F20, PySem.W.mg_of X G a20, k20, b20⟩, ⟨_, _, F21, PySem.W.mg_of X G a21, k21, b21⟩⟩
  have B : Bs mg := ⟨PySem.W.mg_none_of X G z0, PySem.W.mg_none_of X G z1, PySem.W.mg_none_of X G z2, PySem.W.mg_none_of X G z3, PySem.W.mg_none_of X G z4, PySem.W.mg_none_of X G z5, PySem.W.mg_none_of X G z6, PySem.W.mg_none_of X G z7, PySem.W.mg_none_of X G z8, PySem.W.mg_none_of X G z9, PySem.W.mg_none_of X G z10, PySem.W.mg_none_of X G z11, PySem.W.mg_none_of X G z12⟩
  exact ⟨_, fun s v => .of_eq rfl, fun base _ _ => defG (M := m_law) (d := ⟨1, 13, b_law⟩) F21 sc_law rfl rfl rfl (by decide) (fun cdv A1 outer s H hr hgd => pb_law (cs_all A B k) B cdv A1 outer s H hr hgd)⟩
end L56
namespace L56
open PySem PySem.Spec L2 Ev PyProof.Rows
theorem run_env {n nn : Nat} {body : CS} {F : Fn} {xs : List Vx} {src : Option Src} {x : Vx} {s' : S} {e : List (Option Vx)} (hn : xs.length = n) (he : xs.map some ++ List.replicate (nn - xs.length) none = e) (h : body F ⟨e, src⟩ = some (.rt x, s')) : runDef ⟨n, nn, body⟩ F xs src = some (x, s'.src) := by
  subst he
  exact run_ret hn h
def met (P : Nat → Nat → Bool) (row pat : List Nat) (name : Nat) : Bool := !(row.contains name) && (row.zip pat).all fun p => P name p.1 == (p.2 == 1)
theorem zipD_map : ∀ (row pat : List Nat), zipD (row.map Nm) (pat.map Nm) = (row.zip pat).map fun p => .tuple [Nm p.1, Nm p.2]
  | [], _ => by simp [zipD]
  | _ :: _, [] => by simp [zipD]
  | x :: xs, y :: ys => by rw [List.map_cons, List.map_cons, List.zip_cons_cons, List.map_cons, ← zipD_map xs ys]; rfl
def gz (P : Nat → Nat → Bool) (name : Nat) : PyData → PyData
  | .tuple [.int o, .int t] => .bool (P name o.toNat == (t.toNat == 1))
  | _ => .none
theorem boolsOf_map {α : Type} (f : α → Bool) : ∀ l : List α, boolsOf (l.map fun x => .bool (f x)) = some (l.map f)
  | [] => rfl
  | x :: l => by
    show (boolsOf (l.map fun x => .bool (f x))).map (f x :: ·) = _
    rw [boolsOf_map f l]; rfl
variable {n : Nat} {P : Nat → Nat → Bool}
theorem is_met_by_ok (k : Nat) (hn : n ≤ 100) {row pat : List Nat} {name : Nat} (hr : ∀ o ∈ row, o < n) (hx : name < n) (hl : row.length ≤ 100) (src : Option Src) :
    (fnAt T 200 (k + 1)).call "is_met_by" [.d (tw n P), .d (Rw row), .d (Rw pat), .d (Nm name)] src = some (.d (.bool (met P row pat name)), src) := by
  rw [fnAt_call (d := ⟨4, 6, b_is_met_by⟩) rfl]
  refine run_env (n := 4) (nn := 6) (s' := ⟨[some (.d (tw n P)), some (.d (Rw row)), some (.d (Rw pat)), some (.d (Nm name)), none, none], src⟩) rfl rfl ?_
  show b_is_met_by (fnAt T 200 k) ⟨[some (.d (tw n P)), some (.d (Rw row)), some (.d (Rw pat)), some (.d (Nm name)), none, none], src⟩ = _
  unfold b_is_met_by
  have h1 : bOf (cBin (fInD false) (.e (cVar false 3)) (.e (cVar false 1))) (fnAt T 200 k) ⟨[some (.d (tw n P)), some (.d (Rw row)), some (.d (Rw pat)), some (.d (Nm name)), none, none], src⟩ = some (row.contains name, ⟨[some (.d (tw n P)), some (.d (Rw row)), some (.d (Rw pat)), some (.d (Nm name)), none, none], src⟩) := bof' (cbin rfl rfl inD_row)
  cases hc : row.contains name with
  | true =>
    rw [hc] at h1
    have : met P row pat name = false := by unfold met; rw [hc]; rfl
    rw [this]
    exact e_ret (e_ifT h1 (sret rfl))
  | false =>
    rw [hc] at h1
    refine e_seq (e_ifF h1 rfl) (sret ?_)
    have hm := clc_map (own := [4, 5]) (as := aTup 2 (aCons (aName 4) (aCons (aName 5) aNil))) (ic := icZip (.e (cVar false 1)) (.e (cVar false 2))) (c := (cBin fEq (.e (cBin (fInD false) (.e (cDisp true [(cVar false 3), (cVar false 4)])) (.e (cBin fIxD (.e (cVar false 0)) (.e (cC (.int 2))))))) (.e (cBin fEq (.e (cVar false 5)) (.e (cC (.int 1))))))) (F := fnAt T 200 k)
      (ds := (row.zip pat).map fun p => .tuple [Nm p.1, Nm p.2]) (E1 := [some (.d (tw n P)), some (.d (Rw row)), some (.d (Rw pat)), some (.d (Nm name)), none, none]) (src := src) (s := ⟨[some (.d (tw n P)), some (.d (Rw row)), some (.d (Rw pat)), some (.d (Nm name)), none, none], src⟩) (by rw [← zipD_map]; rfl) (by rw [List.length_map, List.length_zip, sizeLine_eq]; omega) (gz P name) (by
        intro d hd
        obtain ⟨⟨o, t⟩, hp, rfl⟩ := List.mem_map.mp hd
        have ho : o < n := hr o (List.of_mem_zip hp).1
        refine ⟨⟨[some (.d (tw n P)), some (.d (Rw row)), some (.d (Rw pat)), some (.d (Nm name)), some (.d (Nm o)), some (.d (Nm t))], src⟩, [some (.d (tw n P)), some (.d (Rw row)), some (.d (Rw pat)), some (.d (Nm name)), some (.d (Nm o)), some (.d (Nm t))], rfl, ?_, rfl⟩
        have hg : gz P name (.tuple [Nm o, Nm t]) = .bool (P name o == (t == 1)) := by
          show PyData.bool (P name (o : Int).toNat == ((t : Int).toNat == 1)) = _
          rw [Int.toNat_natCast, Int.toNat_natCast]
        show _ = some (Vx.d (gz P name (.tuple [Nm o, Nm t])), _)
        rw [hg]
        have e5 : cBin fEq (.e (cVar false 5)) (.e (cC (.int 1))) (fnAt T 200 k) ⟨[some (.d (tw n P)), some (.d (Rw row)), some (.d (Rw pat)), some (.d (Nm name)), some (.d (Nm o)), some (.d (Nm t))], src⟩ = some (.d (.bool (t == 1)), ⟨[some (.d (tw n P)), some (.d (Rw row)), some (.d (Rw pat)), some (.d (Nm name)), some (.d (Nm o)), some (.d (Nm t))], src⟩) := by
          refine cbin (x := .int (t : Int)) (y := .int 1) rfl rfl ?_
          rw [feq_int]
          have : ((t : Int) == 1) = (t == 1) := by rw [Bool.eq_iff_iff, beq_iff_eq, beq_iff_eq]; omega
          rw [this]
        have e4 : cBin (fInD false) (.e (cDisp true [(cVar false 3), (cVar false 4)])) (.e (cBin fIxD (.e (cVar false 0)) (.e (cC (.int 2))))) (fnAt T 200 k) ⟨[some (.d (tw n P)), some (.d (Rw row)), some (.d (Rw pat)), some (.d (Nm name)), some (.d (Nm o)), some (.d (Nm t))], src⟩ = some (.d (.bool (P name o)), ⟨[some (.d (tw n P)), some (.d (Rw row)), some (.d (Rw pat)), some (.d (Nm name)), some (.d (Nm o)), some (.d (Nm t))], src⟩) :=
          cbin (x := pr (name, o)) (y := .tuple ((canon n P).map pr)) (cdisp (b := true) (xs := [.d (Nm name), .d (Nm o)]) rfl rfl (by rw [sizeLine_eq]; simp)) rfl (inD_tw hx ho)
        exact cbin e4 e5 (feq_bool _ _))
    refine cnat1 hm ?_
    have hmap : (((row.zip pat).map fun p => PyData.tuple [Nm p.1, Nm p.2]).map (gz P name)) = (row.zip pat).map fun p => .bool (P name p.1 == (p.2 == 1)) := by
      rw [List.map_map]
      refine List.map_congr_left fun p _ => ?_
      show PyData.bool (P name (p.1 : Int).toNat == ((p.2 : Int).toNat == 1)) = _
      rw [Int.toNat_natCast, Int.toNat_natCast]
    rw [hmap]
    show (boolsOf ((row.zip pat).map fun p => PyData.bool (P name p.1 == (p.2 == 1)))).map (fun bs => PyData.bool (bs.all id)) = _
    rw [boolsOf_map (fun p : Nat × Nat => P name p.1 == (p.2 == 1))]
    show some (PyData.bool (((row.zip pat).map fun p => P name p.1 == (p.2 == 1)).all id)) = _
    rw [List.all_map]
    have : met P row pat name = (row.zip pat).all fun p => P name p.1 == (p.2 == 1) := by unfold met; rw [hc]; rfl
    rw [this]
    rfl
def meeting (n : Nat) (P : Nat → Nat → Bool) (row pat : List Nat) : List Nat := (List.range n).filter (met P row pat)
def gm (P : Nat → Nat → Bool) (row pat : List Nat) : PyData → Bool
  | .int i => met P row pat i.toNat
  | _ => false
theorem meeting_names_ok (k : Nat) (hn : n ≤ 100) {row pat : List Nat} (hr : ∀ o ∈ row, o < n) (hl : row.length ≤ 100) (src : Option Src) :
    (fnAt T 200 (k + 2)).call "meeting_names" [.d (tw n P), .d (Rw row), .d (Rw pat)] src = some (.d (.list ((meeting n P row pat).map Nm)), src) := by
  rw [fnAt_call (d := ⟨3, 4, b_meeting_names⟩) rfl]
  refine run_env (n := 3) (nn := 4) (s' := ⟨[some (.d (tw n P)), some (.d (Rw row)), some (.d (Rw pat)), none], src⟩) rfl rfl ?_
  show b_meeting_names (fnAt T 200 (k + 1)) ⟨[some (.d (tw n P)), some (.d (Rw row)), some (.d (Rw pat)), none], src⟩ = _
  unfold b_meeting_names
  have hm := clc_filt (own := [3]) (as := aName 3) (ic := icRng1 (.e (cBin fIxD (.e (cVar false 0)) (.e (cC (.int 0)))))) (t := bTru (.e (cCall "is_met_by" [(cVar false 0), (cVar false 1), (cVar false 2), (cVar false 3)]))) (c := cVar false 3) (F := fnAt T 200 (k + 1))
    (ds := (List.range n).map Nm) (E1 := [some (.d (tw n P)), some (.d (Rw row)), some (.d (Rw pat)), none]) (src := src) (s := ⟨[some (.d (tw n P)), some (.d (Rw row)), some (.d (Rw pat)), none], src⟩) (ic_rng1 rfl (by omega)) (by rw [List.length_map, List.length_range, sizeLine_eq]; omega) (gm P row pat) (fun d => d) (by
      intro d hd
      obtain ⟨x, hx, rfl⟩ := List.mem_map.mp hd
      rw [List.mem_range] at hx
      have hg : gm P row pat (Nm x) = met P row pat x := by
        show met P row pat (x : Int).toNat = _
        rw [Int.toNat_natCast]
      refine ⟨⟨[some (.d (tw n P)), some (.d (Rw row)), some (.d (Rw pat)), some (.d (Nm x))], src⟩, ⟨[some (.d (tw n P)), some (.d (Rw row)), some (.d (Rw pat)), some (.d (Nm x))], src⟩, rfl, ?_, fun _ => ⟨rfl, rfl⟩, fun _ => ⟨[some (.d (tw n P)), some (.d (Rw row)), some (.d (Rw pat)), some (.d (Nm x))], rfl, rfl⟩⟩
      rw [hg]
      exact btru (pcall (s := ⟨[some (.d (tw n P)), some (.d (Rw row)), some (.d (Rw pat)), some (.d (Nm x))], src⟩) (xs := [.d (tw n P), .d (Rw row), .d (Rw pat), .d (Nm x)]) rfl (is_met_by_ok k hn hr hx hl src)))
  have e : (((List.range n).map Nm).filter (gm P row pat)).map (fun d => d) = (meeting n P row pat).map Nm := by
    rw [List.map_id', List.filter_map]
    unfold meeting
    congr 1
  rw [e] at hm
  exact sret hm
theorem is_met_ok (k : Nat) (hn : n ≤ 100) {row pat : List Nat} (hr : ∀ o ∈ row, o < n) (hl : row.length ≤ 100) (src : Option Src) :
    (fnAt T 200 (k + 3)).call "is_met" [.d (tw n P), .d (Rw row), .d (Rw pat)] src = some (.d (.bool (!(meeting n P row pat).isEmpty)), src) := by
  rw [fnAt_call (d := ⟨3, 3, b_is_met⟩) rfl]
  refine run_env (n := 3) (nn := 3) (s' := ⟨[some (.d (tw n P)), some (.d (Rw row)), some (.d (Rw pat))], src⟩) rfl rfl ?_
  show b_is_met (fnAt T 200 (k + 2)) ⟨[some (.d (tw n P)), some (.d (Rw row)), some (.d (Rw pat))], src⟩ = _
  unfold b_is_met
  exact sret (cbin (pcall (s := ⟨[some (.d (tw n P)), some (.d (Rw row)), some (.d (Rw pat))], src⟩) (xs := [.d (tw n P), .d (Rw row), .d (Rw pat)]) rfl (meeting_names_ok k hn hr hl src)) (cdisp (b := false) (xs := []) (ds := []) rfl rfl (by rw [sizeLine_eq]; simp)) (fne_nil _))
end L56
namespace L56
open PySem PySem.Spec L2 Ev PyProof.Rows
def stepR (n : Nat) (row : List Nat) : List (List Nat) := ((List.range n).filter fun x => !row.contains x).map fun x => row ++ [x]
def rowsP (n : Nat) : Nat → List (List Nat)
  | 0 => [[]]
  | m + 1 => (rowsP n m).flatMap (stepR n)
theorem rows_len (n : Nat) : ∀ m, ∀ row ∈ rowsP n m, row.length = m ∧ ∀ o ∈ row, o < n
  | 0, row, h => by
    rw [List.mem_singleton.mp h]
    exact ⟨rfl, fun o ho => nomatch ho⟩
  | m + 1, row, h => by
    obtain ⟨r, hr, h2⟩ := List.mem_flatMap.mp h
    obtain ⟨x, hx, rfl⟩ := List.mem_map.mp h2
    obtain ⟨h3, h4⟩ := rows_len n m r hr
    refine ⟨by rw [List.length_append, h3]; rfl, fun o ho => ?_⟩
    rcases List.mem_append.mp ho with h | h
    · exact h4 o h
    · rw [List.mem_singleton.mp h]
      exact List.mem_range.mp (List.mem_filter.mp hx).1
theorem flat_take {α β : Type} (f : α → List β) (l : List α) (j : Nat) : ((l.take j).flatMap f).length ≤ (l.flatMap f).length := by
  have : l.flatMap f = (l.take j).flatMap f ++ (l.drop j).flatMap f := by rw [← List.flatMap_append, List.take_append_drop]
  rw [this, List.length_append]
  omega
theorem flat_succ {α β : Type} (f : α → List β) {l : List α} {j : Nat} {x : α} (h : l[j]? = some x) : (l.take (j + 1)).flatMap f = (l.take j).flatMap f ++ f x := by
  rw [List.take_add_one, h, List.flatMap_append]
  simp
def gr (row : List Nat) : PyData → Bool
  | .int i => !row.contains i.toNat
  | _ => false
def ga (row : List Nat) : PyData → PyData
  | d => .tuple (row.map Nm ++ [d])
theorem row_step (F : Fn) {n : Nat} (hn : n ≤ 100) {row : List Nat} (hl : row.length ≤ 100) (c1 c2 c3 c4 c6 : Option Vx) (src : Option Src) :
    (cLc [6] (aName 6) (icRng1 (.e (cVar false 0))) (bOf (cBin (fInD true) (.e (cVar false 6)) (.e (cVar false 5)))) (cStar true [(true, (.e (cVar false 5))), (false, .e (cVar false 6))])) F ⟨[some (.d (Nm n)), c1, c2, c3, c4, some (.d (Rw row)), c6], src⟩ = some (.d (.list ((stepR n row).map Rw)), ⟨[some (.d (Nm n)), c1, c2, c3, c4, some (.d (Rw row)), c6], src⟩) := by
  have hm := clc_filt (own := [6]) (as := aName 6) (ic := icRng1 (.e (cVar false 0))) (t := (bOf (cBin (fInD true) (.e (cVar false 6)) (.e (cVar false 5))))) (c := (cStar true [(true, (.e (cVar false 5))), (false, .e (cVar false 6))])) (F := F)
    (ds := (List.range n).map Nm) (E1 := [some (.d (Nm n)), c1, c2, c3, c4, some (.d (Rw row)), c6]) (src := src) (s := ⟨[some (.d (Nm n)), c1, c2, c3, c4, some (.d (Rw row)), c6], src⟩) (ic_rng1 rfl (by omega)) (by rw [List.length_map, List.length_range, sizeLine_eq]; omega) (gr row) (ga row) (by
      intro d hd
      obtain ⟨x, hx, rfl⟩ := List.mem_map.mp hd
      have hg : gr row (Nm x) = !row.contains x := by
        show (!row.contains (x : Int).toNat) = _
        rw [Int.toNat_natCast]
      refine ⟨⟨[some (.d (Nm n)), c1, c2, c3, c4, some (.d (Rw row)), some (.d (Nm x))], src⟩, ⟨[some (.d (Nm n)), c1, c2, c3, c4, some (.d (Rw row)), some (.d (Nm x))], src⟩, rfl, ?_, fun _ => ⟨rfl, rfl⟩, fun _ => ⟨[some (.d (Nm n)), c1, c2, c3, c4, some (.d (Rw row)), some (.d (Nm x))], ?_, rfl⟩⟩
      · rw [hg]
        exact bof' (cbin rfl rfl notInD_row)
      · show (if ((row.map Nm ++ [Nm x]).length ≤ sizeLine) then _ else _) = _
        rw [if_pos (by rw [List.length_append, List.length_map, sizeLine_eq]; simp; omega)]
        rfl)
  have e : (((List.range n).map Nm).filter (gr row)).map (ga row) = (stepR n row).map Rw := by
    unfold stepR
    rw [List.filter_map, List.map_map, List.map_map]
    have : (gr row ∘ Nm) = fun x => !row.contains x := funext fun x => by
      show (!row.contains (x : Int).toNat) = _
      rw [Int.toNat_natCast]
    rw [this]
    refine List.map_congr_left fun x _ => ?_
    show PyData.tuple (row.map Nm ++ [Nm x]) = .tuple ((row ++ [x]).map Nm)
    rw [List.map_append]
    rfl
  rw [e] at hm
  exact hm
theorem rows_ok (k : Nat) {n many : Nat} (hn : n ≤ 100) (hm : many ≤ 90) (hB : ∀ j, j ≤ many → (rowsP n j).length ≤ 100000) (src : Option Src) :
    (fnAt T 200 (k + 1)).call "rows_of_names" [.d (Nm n), .d (Nm many)] src = some (.d (.list ((rowsP n many).map Rw)), src) := by
  rw [fnAt_call (d := ⟨2, 7, b_rows_of_names⟩) rfl]
  obtain ⟨s', hfor, e3, e4, e5, rfl⟩ := sfor_ind (as := aName 3) (ic := icRng1 (.e (cVar false 1))) (F := fnAt T 200 k) (b := (sSeq (sPar [4] [(cDisp false [])])
    (sSeq (sFor (aName 5) (icAny (.e (cVar false 2))) (sPar [4] [(cBin fAdd (.e (cVar false 4)) (.e (cLc [6] (aName 6) (icRng1 (.e (cVar false 0))) (bOf (cBin (fInD true) (.e (cVar false 6)) (.e (cVar false 5)))) (cStar true [(true, (.e (cVar false 5))), (false, .e (cVar false 6))]))))]))
    (sPar [2] [(cVar false 4)])))) (s := ⟨[some (.d (Nm n)), some (.d (Nm many)), some (.d (.list [.tuple []])), none, none, none, none], src⟩) (ds := (List.range many).map Nm) (s0 := ⟨[some (.d (Nm n)), some (.d (Nm many)), some (.d (.list [.tuple []])), none, none, none, none], src⟩) (ic_rng1 rfl (by omega))
    (fun j s => ∃ e3 e4 e5, s = ⟨[some (.d (Nm n)), some (.d (Nm many)), some (.d (.list ((rowsP n j).map Rw))), e3, e4, e5, none], src⟩) ⟨none, none, none, rfl⟩ (by
      rintro j d s hj ⟨e3, e4, e5, rfl⟩
      have hjm : j < many := by
        have := (List.getElem?_eq_some_iff.mp hj).1
        rwa [List.length_map, List.length_range] at this
      have hB1 := hB (j + 1) (by omega)
      obtain ⟨s2, hin, f5, rfl⟩ := sfor_ind (as := aName 5) (ic := icAny (.e (cVar false 2))) (F := fnAt T 200 k) (b := (sPar [4] [(cBin fAdd (.e (cVar false 4)) (.e (cLc [6] (aName 6) (icRng1 (.e (cVar false 0))) (bOf (cBin (fInD true) (.e (cVar false 6)) (.e (cVar false 5)))) (cStar true [(true, (.e (cVar false 5))), (false, .e (cVar false 6))]))))])) (s := ⟨[some (.d (Nm n)), some (.d (Nm many)), some (.d (.list ((rowsP n j).map Rw))), some (.d d), some (.d (.list [])), e5, none], src⟩) (ds := (rowsP n j).map Rw) (s0 := ⟨[some (.d (Nm n)), some (.d (Nm many)), some (.d (.list ((rowsP n j).map Rw))), some (.d d), some (.d (.list [])), e5, none], src⟩) (ic_any rfl)
        (fun i s => ∃ f5, s = ⟨[some (.d (Nm n)), some (.d (Nm many)), some (.d (.list ((rowsP n j).map Rw))), some (.d d), some (.d (.list ((((rowsP n j).take i).flatMap (stepR n)).map Rw))), f5, none], src⟩) ⟨e5, rfl⟩ (by
          rintro i d' s hi ⟨f5, rfl⟩
          rw [List.getElem?_map, Option.map_eq_some_iff] at hi
          obtain ⟨row, hrow, rfl⟩ := hi
          have hl := rows_len n j row (List.mem_of_getElem? hrow)
          have h1 := flat_take (stepR n) (rowsP n j) (i + 1)
          have e1 := flat_succ (stepR n) hrow
          refine ⟨⟨[some (.d (Nm n)), some (.d (Nm many)), some (.d (.list ((rowsP n j).map Rw))), some (.d d), some (.d (.list ((((rowsP n j).take i).flatMap (stepR n)).map Rw))), some (.d (Rw row)), none], src⟩, _, rfl, spar1 (x := .d (.list ((((rowsP n j).take (i + 1)).flatMap (stepR n)).map Rw))) (s1 := ⟨[some (.d (Nm n)), some (.d (Nm many)), some (.d (.list ((rowsP n j).map Rw))), some (.d d), some (.d (.list ((((rowsP n j).take i).flatMap (stepR n)).map Rw))), some (.d (Rw row)), none], src⟩) ?_, some (.d (Rw row)), rfl⟩
          rw [e1, List.map_append]
          refine cbin rfl (row_step _ hn (by omega) _ _ _ _ _ _) (fadd_list ?_)
          rw [e1, List.length_append] at h1
          rw [List.length_map, List.length_map]
          show _ ≤ 16777216
          have : ((rowsP n j).flatMap (stepR n)).length ≤ 100000 := hB1
          omega)
      have ht : (rowsP n j).take ((rowsP n j).map Rw).length = rowsP n j := by rw [List.length_map, List.take_length]
      rw [ht] at hin
      refine ⟨⟨[some (.d (Nm n)), some (.d (Nm many)), some (.d (.list ((rowsP n j).map Rw))), some (.d d), e4, e5, none], src⟩, _, rfl, e_seq (spar1 (x := .d (.list [])) (cdisp (b := false) (xs := []) (ds := []) rfl rfl (by rw [sizeLine_eq]; simp))) (e_seq hin (spar1 (x := .d (.list ((rowsP n (j + 1)).map Rw))) rfl)), some (.d d), some (.d (.list ((rowsP n (j + 1)).map Rw))), f5, rfl⟩)
  rw [List.length_map, List.length_range] at hfor
  refine run_env (n := 2) (nn := 7) (s' := ⟨[some (.d (Nm n)), some (.d (Nm many)), some (.d (.list ((rowsP n many).map Rw))), e3, e4, e5, none], src⟩) rfl rfl ?_
  show b_rows_of_names (fnAt T 200 k) ⟨[some (.d (Nm n)), some (.d (Nm many)), none, none, none, none, none], src⟩ = _
  unfold b_rows_of_names
  exact e_seq (spar1 (x := .d (.list [.tuple []])) (s1 := ⟨[some (.d (Nm n)), some (.d (Nm many)), none, none, none, none, none], src⟩) (cdisp (b := false) (xs := [.d (.tuple [])]) (ds := [.tuple []]) (eargs (cdisp (b := true) (xs := []) (ds := []) rfl rfl (by rw [sizeLine_eq]; simp)) rfl) rfl (by rw [sizeLine_eq]; simp))) (e_seq hfor (sret rfl))
end L56
namespace L56
open PySem PySem.Spec L2 Ev PyProof.Rows
def patsP : Nat → List (List Nat)
  | 0 => [[]]
  | m + 1 => (patsP m).flatMap fun p => [p ++ [0], p ++ [1]]
theorem pats_len : ∀ m, (patsP m).length = 2 ^ m ∧ ∀ p ∈ patsP m, p.length = m
  | 0 => ⟨rfl, fun p h => by rw [List.mem_singleton.mp h]; rfl⟩
  | m + 1 => by
    obtain ⟨h1, h2⟩ := pats_len m
    constructor
    · show ((patsP m).flatMap fun p => [p ++ [0], p ++ [1]]).length = _
      have : ∀ l : List (List Nat), (l.flatMap fun p => [p ++ [0], p ++ [1]]).length = 2 * l.length := by
        intro l
        induction l with
        | nil => rfl
        | cons x l ih => rw [List.flatMap_cons, List.length_append, ih, List.length_cons]; simp; omega
      rw [this, h1, Nat.pow_succ]; omega
    · intro p h
      obtain ⟨r, hr, h3⟩ := List.mem_flatMap.mp h
      have := h2 r hr
      simp only [List.mem_cons, List.not_mem_nil, or_false] at h3
      rcases h3 with rfl | rfl <;> rw [List.length_append, this] <;> rfl
theorem star_one (F : Fn) {p : List Nat} (hp : p.length ≤ 100) (b : Nat) (c0 c1 c2 c3 : Option Vx) (src : Option Src) :
    (cStar true [(true, (.e (cVar false 4))), (false, .e (cC (.int (b : Int))))]) F ⟨[c0, c1, c2, c3, some (.d (Rw p))], src⟩ = some (.d (Rw (p ++ [b])), ⟨[c0, c1, c2, c3, some (.d (Rw p))], src⟩) := by
  show (if ((p.map Nm ++ [Nm b]).length ≤ sizeLine) then some (Vx.d (.tuple (p.map Nm ++ [Nm b])), _) else none) = _
  rw [if_pos (by rw [List.length_append, List.length_map, sizeLine_eq]; simp; omega)]
  show _ = some (Vx.d (.tuple ((p ++ [b]).map Nm)), _)
  rw [List.map_append]
  rfl
theorem pats_ok (k : Nat) {many : Nat} (hm : many ≤ 10) (src : Option Src) :
    (fnAt T 200 (k + 1)).call "all_patterns" [.d (Nm many)] src = some (.d (.list ((patsP many).map Rw)), src) := by
  rw [fnAt_call (d := ⟨1, 5, b_all_patterns⟩) rfl]
  obtain ⟨s', hfor, e2, e3, e4, rfl⟩ := sfor_ind (as := aName 2) (ic := icRng1 (.e (cVar false 0))) (F := fnAt T 200 k) (b := (sSeq (sPar [3] [(cDisp false [])])
    (sSeq (sFor (aName 4) (icAny (.e (cVar false 1))) (sPar [3] [(cBin fAdd (.e (cVar false 3)) (.e (cDisp false [(cStar true [(true, (.e (cVar false 4))), (false, .e (cC (.int 0)))]), (cStar true [(true, (.e (cVar false 4))), (false, .e (cC (.int 1)))])])))]))
    (sPar [1] [(cVar false 3)])))) (s := ⟨[some (.d (Nm many)), some (.d (.list [.tuple []])), none, none, none], src⟩) (ds := (List.range many).map Nm) (s0 := ⟨[some (.d (Nm many)), some (.d (.list [.tuple []])), none, none, none], src⟩) (ic_rng1 rfl (by omega))
    (fun j s => ∃ e2 e3 e4, s = ⟨[some (.d (Nm many)), some (.d (.list ((patsP j).map Rw))), e2, e3, e4], src⟩) ⟨none, none, none, rfl⟩ (by
      rintro j d s hj ⟨e2, e3, e4, rfl⟩
      have hjm : j < many := by
        have := (List.getElem?_eq_some_iff.mp hj).1
        rwa [List.length_map, List.length_range] at this
      have hB1 : (patsP (j + 1)).length ≤ 2000 := by
        rw [(pats_len (j + 1)).1]
        exact Nat.le_trans (Nat.pow_le_pow_right (by decide) (show j + 1 ≤ 10 by omega)) (by decide)
      obtain ⟨s2, hin, f4, rfl⟩ := sfor_ind (as := aName 4) (ic := icAny (.e (cVar false 1))) (F := fnAt T 200 k) (b := (sPar [3] [(cBin fAdd (.e (cVar false 3)) (.e (cDisp false [(cStar true [(true, (.e (cVar false 4))), (false, .e (cC (.int 0)))]), (cStar true [(true, (.e (cVar false 4))), (false, .e (cC (.int 1)))])])))])) (s := ⟨[some (.d (Nm many)), some (.d (.list ((patsP j).map Rw))), some (.d d), some (.d (.list [])), e4], src⟩) (ds := (patsP j).map Rw) (s0 := ⟨[some (.d (Nm many)), some (.d (.list ((patsP j).map Rw))), some (.d d), some (.d (.list [])), e4], src⟩) (ic_any rfl)
        (fun i s => ∃ f4, s = ⟨[some (.d (Nm many)), some (.d (.list ((patsP j).map Rw))), some (.d d), some (.d (.list ((((patsP j).take i).flatMap fun p => [p ++ [0], p ++ [1]]).map Rw))), f4], src⟩) ⟨e4, rfl⟩ (by
          rintro i d' s hi ⟨f4, rfl⟩
          rw [List.getElem?_map, Option.map_eq_some_iff] at hi
          obtain ⟨row, hrow, rfl⟩ := hi
          have hl := (pats_len j).2 row (List.mem_of_getElem? hrow)
          have h1 := flat_take (fun p : List Nat => [p ++ [0], p ++ [1]]) (patsP j) (i + 1)
          have e1 := flat_succ (fun p : List Nat => [p ++ [0], p ++ [1]]) hrow
          refine ⟨⟨[some (.d (Nm many)), some (.d (.list ((patsP j).map Rw))), some (.d d), some (.d (.list ((((patsP j).take i).flatMap fun p => [p ++ [0], p ++ [1]]).map Rw))), some (.d (Rw row))], src⟩, _, rfl, spar1 (x := .d (.list ((((patsP j).take (i + 1)).flatMap fun p => [p ++ [0], p ++ [1]]).map Rw))) (s1 := ⟨[some (.d (Nm many)), some (.d (.list ((patsP j).map Rw))), some (.d d), some (.d (.list ((((patsP j).take i).flatMap fun p => [p ++ [0], p ++ [1]]).map Rw))), some (.d (Rw row))], src⟩) ?_, some (.d (Rw row)), rfl⟩
          rw [e1, List.map_append]
          refine cbin rfl (cdisp (b := false) (eargs (star_one _ (by omega) 0 _ _ _ _ _) (eargs (star_one _ (by omega) 1 _ _ _ _ _) rfl)) rfl (by rw [sizeLine_eq]; simp)) (fadd_list ?_)
          rw [e1, List.length_append] at h1
          rw [List.length_map]
          have : ((patsP j).flatMap fun p : List Nat => [p ++ [0], p ++ [1]]).length ≤ 2000 := hB1
          simp only [List.length_cons, List.length_nil] at h1 ⊢
          omega)
      have ht : (patsP j).take ((patsP j).map Rw).length = patsP j := by rw [List.length_map, List.take_length]
      rw [ht] at hin
      refine ⟨⟨[some (.d (Nm many)), some (.d (.list ((patsP j).map Rw))), some (.d d), e3, e4], src⟩, _, rfl, e_seq (spar1 (x := .d (.list [])) (cdisp (b := false) (xs := []) (ds := []) rfl rfl (by rw [sizeLine_eq]; simp))) (e_seq hin (spar1 (x := .d (.list ((patsP (j + 1)).map Rw))) rfl)), some (.d d), some (.d (.list ((patsP (j + 1)).map Rw))), f4, rfl⟩)
  rw [List.length_map, List.length_range] at hfor
  refine run_env (n := 1) (nn := 5) (s' := ⟨[some (.d (Nm many)), some (.d (.list ((patsP many).map Rw))), e2, e3, e4], src⟩) rfl rfl ?_
  show b_all_patterns (fnAt T 200 k) ⟨[some (.d (Nm many)), none, none, none, none], src⟩ = _
  unfold b_all_patterns
  exact e_seq (spar1 (x := .d (.list [.tuple []])) (s1 := ⟨[some (.d (Nm many)), none, none, none, none], src⟩) (cdisp (b := false) (xs := [.d (.tuple [])]) (ds := [.tuple []]) (eargs (cdisp (b := true) (xs := []) (ds := []) rfl rfl (by rw [sizeLine_eq]; simp)) rfl) rfl (by rw [sizeLine_eq]; simp))) (e_seq hfor (sret rfl))
/-- the first wish that isn't met -/
def misW (n : Nat) (P : Nat → Nat → Bool) (row pat : List Nat) : Option (List Nat × List Nat) := if (meeting n P row pat).isEmpty then some (row, pat) else none
def misP (n : Nat) (P : Nat → Nat → Bool) (k : Nat) : Option (List Nat × List Nat) := (List.range k).findSome? fun m => (rowsP n m).findSome? fun row => (patsP m).findSome? fun pat => misW n P row pat
def vP (p : List Nat × List Nat) : Vx := .d (.tuple [Rw p.1, Rw p.2])
def dP : Option (List Nat × List Nat) → PyData
  | some p => .tuple [Rw p.1, Rw p.2]
  | none => .none
def rowOf : PyData → List Nat
  | .tuple ds => ds.map fun d => match d with
    | .int i => i.toNat
    | _ => 0
  | _ => []
theorem rowOf_Rw (r : List Nat) : rowOf (Rw r) = r := by
  show (r.map Nm).map _ = r
  rw [List.map_map]
  refine (List.map_congr_left fun x _ => ?_).trans (List.map_id _)
  show (x : Int).toNat = x
  exact Int.toNat_natCast x
theorem find_map {α β γ : Type} (g : α → β) (f : β → Option γ) (l : List α) : (l.map g).findSome? f = l.findSome? (f ∘ g) := List.findSome?_map ..
theorem find_vP {α β γ : Type} (v : β → γ) (f : α → Option β) : ∀ l : List α, (l.findSome? fun x => (f x).map v) = (l.findSome? f).map v
  | [] => rfl
  | x :: l => by
    rw [List.findSome?_cons, List.findSome?_cons]
    cases f x with
    | some y => rfl
    | none => exact find_vP v f l
variable {n : Nat} {P : Nat → Nat → Bool}
theorem missing_ok (k : Nat) (hn : n ≤ 100) {kk : Nat} (hk : kk ≤ 10) (hB : ∀ j, j < kk → (rowsP n j).length ≤ 100000) (src : Option Src) :
    (fnAt T 200 (k + 4)).call "missing_wish" [.d (tw n P), .d (Nm kk)] src = some (.d (dP (misP n P kk)), src) := by
  rw [fnAt_call (d := ⟨2, 5, b_missing_wish⟩) rfl]
  obtain ⟨s', hfor, e2, e3, e4, rfl⟩ := sfor_find (as := aName 2) (ic := icRng1 (.e (cVar false 1))) (F := fnAt T 200 (k + 3)) (b := (sFor (aName 3) (icAny (.e (cCall "rows_of_names" [(cBin fIxD (.e (cVar false 0)) (.e (cC (.int 0)))), (cVar false 2)]))) (sFor (aName 4) (icAny (.e (cCall "all_patterns" [(cVar false 2)]))) (sIf (bNot (bTru (.e (cCall "is_met" [(cVar false 0), (cVar false 3), (cVar false 4)])))) (sRet (cDisp true [(cVar false 3), (cVar false 4)])) sPass)))) (s := ⟨[some (.d (tw n P)), some (.d (Nm kk)), none, none, none], src⟩) (ds := (List.range kk).map Nm) (s0 := ⟨[some (.d (tw n P)), some (.d (Nm kk)), none, none, none], src⟩) (ic_rng1 rfl (by omega))
    (fun s => ∃ e2 e3 e4, s = ⟨[some (.d (tw n P)), some (.d (Nm kk)), e2, e3, e4], src⟩) ⟨none, none, none, rfl⟩
    (fun d => match d with
      | .int m => (((rowsP n m.toNat).findSome? fun row => (patsP m.toNat).findSome? fun pat => misW n P row pat).map vP)
      | _ => none) (by
      rintro d hd s ⟨e2, e3, e4, rfl⟩
      obtain ⟨m, hm, rfl⟩ := List.mem_map.mp hd
      rw [List.mem_range] at hm
      obtain ⟨s2, h2, f3, f4, rfl⟩ := sfor_find (as := aName 3) (ic := icAny (.e (cCall "rows_of_names" [(cBin fIxD (.e (cVar false 0)) (.e (cC (.int 0)))), (cVar false 2)]))) (F := fnAt T 200 (k + 3)) (b := (sFor (aName 4) (icAny (.e (cCall "all_patterns" [(cVar false 2)]))) (sIf (bNot (bTru (.e (cCall "is_met" [(cVar false 0), (cVar false 3), (cVar false 4)])))) (sRet (cDisp true [(cVar false 3), (cVar false 4)])) sPass))) (s := ⟨[some (.d (tw n P)), some (.d (Nm kk)), some (.d (Nm m)), e3, e4], src⟩) (ds := (rowsP n m).map Rw) (s0 := ⟨[some (.d (tw n P)), some (.d (Nm kk)), some (.d (Nm m)), e3, e4], src⟩)
        (ic_any (pcall (s := ⟨[some (.d (tw n P)), some (.d (Nm kk)), some (.d (Nm m)), e3, e4], src⟩) (xs := [.d (Nm n), .d (Nm m)]) rfl (rows_ok (k + 2) hn (by omega) (fun j hj => hB j (by omega)) src)))
        (fun s => ∃ e3 e4, s = ⟨[some (.d (tw n P)), some (.d (Nm kk)), some (.d (Nm m)), e3, e4], src⟩) ⟨e3, e4, rfl⟩
        (fun d => ((patsP m).findSome? fun pat => misW n P (rowOf d) pat).map vP) (by
          rintro d hd s ⟨f3, f4, rfl⟩
          obtain ⟨row, hrow, rfl⟩ := List.mem_map.mp hd
          obtain ⟨hrl, hro⟩ := rows_len n m row hrow
          obtain ⟨s3, h3, g4, rfl⟩ := sfor_find (as := aName 4) (ic := icAny (.e (cCall "all_patterns" [(cVar false 2)]))) (F := fnAt T 200 (k + 3)) (b := (sIf (bNot (bTru (.e (cCall "is_met" [(cVar false 0), (cVar false 3), (cVar false 4)])))) (sRet (cDisp true [(cVar false 3), (cVar false 4)])) sPass)) (s := ⟨[some (.d (tw n P)), some (.d (Nm kk)), some (.d (Nm m)), some (.d (Rw row)), f4], src⟩) (ds := (patsP m).map Rw) (s0 := ⟨[some (.d (tw n P)), some (.d (Nm kk)), some (.d (Nm m)), some (.d (Rw row)), f4], src⟩)
            (ic_any (pcall (s := ⟨[some (.d (tw n P)), some (.d (Nm kk)), some (.d (Nm m)), some (.d (Rw row)), f4], src⟩) (xs := [.d (Nm m)]) rfl (pats_ok (k + 2) (by omega) src)))
            (fun s => ∃ e4, s = ⟨[some (.d (tw n P)), some (.d (Nm kk)), some (.d (Nm m)), some (.d (Rw row)), e4], src⟩) ⟨f4, rfl⟩
            (fun d => (misW n P row (rowOf d)).map vP) (by
              rintro d hd s ⟨g4, rfl⟩
              obtain ⟨pat, hpat, rfl⟩ := List.mem_map.mp hd
              show ∃ s1 s2, _ ∧ _ = some (flOf ((misW n P row (rowOf (Rw pat))).map vP), s2) ∧ _
              rw [rowOf_Rw]
              have ht := bnot (btru (pcall (s := ⟨[some (.d (tw n P)), some (.d (Nm kk)), some (.d (Nm m)), some (.d (Rw row)), some (.d (Rw pat))], src⟩) (cs := [(cVar false 0), (cVar false 3), (cVar false 4)]) (xs := [.d (tw n P), .d (Rw row), .d (Rw pat)]) rfl (is_met_ok k hn hro (by omega) src)))
              refine ⟨⟨[some (.d (tw n P)), some (.d (Nm kk)), some (.d (Nm m)), some (.d (Rw row)), some (.d (Rw pat))], src⟩, ⟨[some (.d (tw n P)), some (.d (Nm kk)), some (.d (Nm m)), some (.d (Rw row)), some (.d (Rw pat))], src⟩, rfl, ?_, some (.d (Rw pat)), rfl⟩
              unfold misW
              cases hc : (meeting n P row pat).isEmpty with
              | true =>
                rw [hc] at ht
                rw [if_pos rfl]
                exact e_ifT ht (sret (x := .d (.tuple [Rw row, Rw pat])) (cdisp (b := true) (xs := [.d (Rw row), .d (Rw pat)]) rfl rfl (by rw [sizeLine_eq]; simp)))
              | false =>
                rw [hc] at ht
                rw [if_neg (by simp)]
                exact e_ifF ht rfl)
          refine ⟨⟨[some (.d (tw n P)), some (.d (Nm kk)), some (.d (Nm m)), some (.d (Rw row)), f4], src⟩, ⟨[some (.d (tw n P)), some (.d (Nm kk)), some (.d (Nm m)), some (.d (Rw row)), g4], src⟩, rfl, ?_, some (.d (Rw row)), g4, rfl⟩
          rw [h3, rowOf_Rw, find_map]
          have : ((fun d => (misW n P row (rowOf d)).map vP) ∘ Rw) = fun pat => (misW n P row pat).map vP := funext fun pat => by
            show (misW n P row (rowOf (Rw pat))).map vP = _
            rw [rowOf_Rw]
          rw [this, find_vP])
      refine ⟨⟨[some (.d (tw n P)), some (.d (Nm kk)), some (.d (Nm m)), e3, e4], src⟩, ⟨[some (.d (tw n P)), some (.d (Nm kk)), some (.d (Nm m)), f3, f4], src⟩, rfl, ?_, some (.d (Nm m)), f3, f4, rfl⟩
      rw [h2, find_map]
      have : ((fun d => ((patsP m).findSome? fun pat => misW n P (rowOf d) pat).map vP) ∘ Rw) = fun row => ((patsP m).findSome? fun pat => misW n P row pat).map vP := funext fun row => by
        show ((patsP m).findSome? fun pat => misW n P (rowOf (Rw row)) pat).map vP = _
        rw [rowOf_Rw]
      rw [this, find_vP]
      show _ = some (flOf (((rowsP n (m : Int).toNat).findSome? fun row => (patsP (m : Int).toNat).findSome? fun pat => misW n P row pat).map vP), _)
      rw [Int.toNat_natCast])
  rw [find_map] at hfor
  have hf : ((fun d => match d with
      | .int m => (((rowsP n m.toNat).findSome? fun row => (patsP m.toNat).findSome? fun pat => misW n P row pat).map vP)
      | _ => none) ∘ Nm) = fun m => (((rowsP n m).findSome? fun row => (patsP m).findSome? fun pat => misW n P row pat).map vP) := funext fun m => by
    show (((rowsP n (m : Int).toNat).findSome? fun row => (patsP (m : Int).toNat).findSome? fun pat => misW n P row pat).map vP) = _
    rw [Int.toNat_natCast]
  rw [hf, find_vP] at hfor
  refine run_env (n := 2) (nn := 5) (s' := ⟨[some (.d (tw n P)), some (.d (Nm kk)), e2, e3, e4], src⟩) rfl rfl ?_
  show b_missing_wish (fnAt T 200 (k + 3)) ⟨[some (.d (tw n P)), some (.d (Nm kk)), none, none, none], src⟩ = _
  unfold b_missing_wish
  refine e_fl hfor (fun h => ?_) (fun x h => ?_)
  · have : misP n P kk = none := by
      unfold misP
      rwa [Option.map_eq_none_iff] at h
    rw [this]
    rfl
  · unfold misP
    rw [Option.map_eq_some_iff] at h
    obtain ⟨p, h1, rfl⟩ := h
    rw [h1]
    rfl
end L56
namespace L56
open PySem PySem.Spec L2 Ev PyProof.Rows
theorem pick_ok (k : Nat) (s : Src) (hs : s.cells.length ≤ 63) (many : Int) (hm : many < 1073741824) : ∃ r s', (fnAt T 200 (k + 1)).call "_law_pick" [.src, .d (.int many)] (some s) = some (.d (.int r), some s') ∧ s'.cells.length ≤ 63 ∧ 0 ≤ r ∧ r < max 1 many := by
  have hf : ∀ k, (fnAt T 200 k).fuel = 200 := fun k => by cases k <;> rfl
  obtain ⟨r, s', e, h1, h2, h3⟩ := pick_run (fnAt T 200 k) (by rw [hf]; decide) s hs many hm
  refine ⟨r, s', ?_, h1, h2, h3⟩
  rw [fnAt_call (d := ⟨2, 4, b__law_pick⟩) rfl]
  exact e
theorem src_ok (k : Nat) (ns : List Int) (h : ns.length ≤ 63) : ∃ s', (fnAt T 200 (k + 1)).call "_law_source" [.d (.list (ns.map PyData.int))] none = some (.src, some s') ∧ s'.cells.length ≤ 63 := by
  obtain ⟨s', e, hs⟩ := src_run (fnAt T 200 k) ns h
  refine ⟨s', ?_, hs⟩
  rw [fnAt_call (d := ⟨1, 3, b__law_source⟩) rfl]
  exact e
theorem dup_zero (n : Nat) (h : n ≤ 1000) : fMul (.tuple [.int 0]) (Nm n) = some (.tuple (List.replicate n (.int 0))) := by
  show (if decide (-(2 ^ 63) ≤ (n : Int)) && decide ((n : Int) ≤ 1000) && decide (([PyData.int 0]).length ≤ 1000) then some (PyData.tuple (List.replicate (n : Int).toNat [PyData.int 0]).flatten) else none) = _
  rw [if_pos (by simp only [Bool.and_eq_true, decide_eq_true_eq]; exact ⟨⟨by omega, by omega⟩, by simp⟩), Int.toNat_natCast]
  congr 2
  induction n with
  | zero => rfl
  | succ n ih => rw [List.replicate_succ, List.flatten_cons, ih (by omega), List.replicate_succ]; rfl
variable {n : Nat} {P : Nat → Nat → Bool}
theorem web_of_ties_ok (k : Nat) (hn : n ≤ 1000) {ties : List (Nat × Nat)} (h : TieOk n P ties) (hl : ties.length ≤ 1000) (src : Option Src) :
    (fnAt T 200 (k + 1)).call "web_of_ties" [.d (Nm n), .d (.list (ties.map pr))] src = some (.d (tw n P), src) := by
  rw [fnAt_call (d := ⟨2, 5, b_web_of_ties⟩) rfl]
  obtain ⟨s', hfor, e3, e4, rfl⟩ := sfor_ind (as := (aTup 2 (aCons (aName 3) (aCons (aName 4) aNil)))) (ic := icAny (.e (cVar false 1))) (F := fnAt T 200 k) (b := (sPar [2] [(cBin fAdd (.e (cVar false 2)) (.e (cDisp false [(cDisp true [(cVar false 3), (cVar false 4)]), (cDisp true [(cVar false 4), (cVar false 3)])])))])) (s := ⟨[some (.d (Nm n)), some (.d (.list (ties.map pr))), some (.d (.list [])), none, none], src⟩) (ds := ties.map pr) (s0 := ⟨[some (.d (Nm n)), some (.d (.list (ties.map pr))), some (.d (.list [])), none, none], src⟩) (ic_any rfl)
    (fun j s => ∃ e3 e4, s = ⟨[some (.d (Nm n)), some (.d (.list (ties.map pr))), some (.d (.list (((ties.take j).flatMap fun p => [p, sw p]).map pr))), e3, e4], src⟩) ⟨none, none, rfl⟩ (by
      rintro j d s hj ⟨e3, e4, rfl⟩
      rw [List.getElem?_map, Option.map_eq_some_iff] at hj
      obtain ⟨⟨a, b⟩, hp, rfl⟩ := hj
      have e1 := flat_succ (fun p : Nat × Nat => [p, sw p]) hp
      have h1 : ((ties.take j).flatMap fun p : Nat × Nat => [p, sw p]).length ≤ 2000 := by
        rw [(both_perm _).length_eq, List.length_append, List.length_map, List.length_take]; omega
      refine ⟨⟨[some (.d (Nm n)), some (.d (.list (ties.map pr))), some (.d (.list (((ties.take j).flatMap fun p => [p, sw p]).map pr))), some (.d (Nm a)), some (.d (Nm b))], src⟩, _, rfl, spar1 (x := .d (.list (((ties.take (j + 1)).flatMap fun p => [p, sw p]).map pr))) (s1 := ⟨[some (.d (Nm n)), some (.d (.list (ties.map pr))), some (.d (.list (((ties.take j).flatMap fun p => [p, sw p]).map pr))), some (.d (Nm a)), some (.d (Nm b))], src⟩) ?_, some (.d (Nm a)), some (.d (Nm b)), rfl⟩
      rw [e1, List.map_append]
      refine cbin rfl (cdisp (b := false) (xs := [.d (pr (a, b)), .d (pr (b, a))]) (eargs (cdisp (b := true) (xs := [.d (Nm a), .d (Nm b)]) rfl rfl (by rw [sizeLine_eq]; simp)) (eargs (cdisp (b := true) (xs := [.d (Nm b), .d (Nm a)]) rfl rfl (by rw [sizeLine_eq]; simp)) rfl)) rfl (by rw [sizeLine_eq]; simp)) (fadd_list ?_)
      rw [List.length_map]
      simp only [List.length_cons, List.length_nil]
      omega)
  have ht : ties.take (ties.map pr).length = ties := by rw [List.length_map, List.take_length]
  rw [ht] at hfor
  have hl2 : (ties.flatMap fun p : Nat × Nat => [p, sw p]).length ≤ 5000 := by
    rw [(both_perm _).length_eq, List.length_append, List.length_map]; omega
  refine run_env (n := 2) (nn := 5) (s' := ⟨[some (.d (Nm n)), some (.d (.list (ties.map pr))), some (.d (.list ((ties.flatMap fun p => [p, sw p]).map pr))), e3, e4], src⟩) rfl rfl ?_
  show b_web_of_ties (fnAt T 200 k) ⟨[some (.d (Nm n)), some (.d (.list (ties.map pr))), none, none, none], src⟩ = _
  unfold b_web_of_ties
  refine e_seq (spar1 (x := .d (.list [])) (cdisp (b := false) (xs := []) (ds := []) rfl rfl (by rw [sizeLine_eq]; simp))) (e_seq hfor (sret (cdisp (b := true) (eargs (x := .d (Nm n)) rfl (eargs (cbin (cdisp (b := true) (xs := [.d (.int 0)]) rfl rfl (by rw [sizeLine_eq]; simp)) rfl (dup_zero n hn)) (eargs (cnat1 (x := .list ((canon n P).map pr)) (cnat1 (x := .list ((ties.flatMap fun p => [p, sw p]).map pr)) rfl ?_) rfl) rfl))) rfl (by rw [sizeLine_eq]; simp))))
  show (if sortOk ((ties.flatMap fun p => [p, sw p]).map pr) then some (PyData.list (sortD ((ties.flatMap fun p => [p, sw p]).map pr))) else none) = _
  rw [if_pos (sortOk_prs hl2), h.both]
theorem law_of_ties_ok (k : Nat) (hn : n ≤ 1000) {ties : List (Nat × Nat)} (h : TieOk n P ties) (hl : ties.length ≤ 1000) (src : Option Src) :
    (fnAt T 200 (k + 1)).call "_law_of_ties" [.d (Nm n), .d (.list (ties.map pr))] src = some (.d (tw n P), src) := by
  rw [fnAt_call (d := ⟨2, 5, b__law_of_ties⟩) rfl]
  have hm := clc_map (own := [3, 4]) (as := (aTup 2 (aCons (aName 3) (aCons (aName 4) aNil)))) (ic := icAny (.e (cVar false 1))) (c := (cDisp true [(cVar false 4), (cVar false 3)])) (F := fnAt T 200 k) (ds := ties.map pr) (E1 := [some (.d (Nm n)), some (.d (.list (ties.map pr))), none, none, none]) (src := src) (s := ⟨[some (.d (Nm n)), some (.d (.list (ties.map pr))), none, none, none], src⟩) (ic_any rfl) (by rw [List.length_map, sizeLine_eq]; omega)
    (fun d => match d with
      | .tuple [x, y] => .tuple [y, x]
      | _ => .none) (by
      intro d hd
      obtain ⟨⟨a, b⟩, _, rfl⟩ := List.mem_map.mp hd
      exact ⟨⟨[some (.d (Nm n)), some (.d (.list (ties.map pr))), none, some (.d (Nm a)), some (.d (Nm b))], src⟩, [some (.d (Nm n)), some (.d (.list (ties.map pr))), none, some (.d (Nm a)), some (.d (Nm b))], rfl, cdisp (b := true) (xs := [.d (Nm b), .d (Nm a)]) rfl rfl (by rw [sizeLine_eq]; simp), rfl⟩)
  have e : (ties.map pr).map (fun d => match d with
      | .tuple [x, y] => .tuple [y, x]
      | _ => .none) = (ties.map sw).map pr := by
    rw [List.map_map, List.map_map]
    rfl
  rw [e] at hm
  refine run_env (n := 2) (nn := 5) (s' := ⟨[some (.d (Nm n)), some (.d (.list (ties.map pr))), some (.d (.list ((ties ++ ties.map sw).map pr))), none, none], src⟩) rfl rfl ?_
  show b__law_of_ties (fnAt T 200 k) ⟨[some (.d (Nm n)), some (.d (.list (ties.map pr))), none, none, none], src⟩ = _
  unfold b__law_of_ties
  refine e_seq (spar1 (x := .d (.list ((ties ++ ties.map sw).map pr))) (s1 := ⟨[some (.d (Nm n)), some (.d (.list (ties.map pr))), none, none, none], src⟩) ?_) (sret (cdisp (b := true) (eargs (x := .d (Nm n)) rfl (eargs (cbin (cdisp (b := true) (xs := [.d (.int 0)]) rfl rfl (by rw [sizeLine_eq]; simp)) rfl (dup_zero n hn)) (eargs (cnat1 (x := .list ((canon n P).map pr)) (cnat1 (x := .list ((ties ++ ties.map sw).map pr)) rfl ?_) rfl) rfl))) rfl (by rw [sizeLine_eq]; simp)))
  · rw [List.map_append]
    exact cbin (x := .list (ties.map pr)) (cnat1 (x := .list (ties.map pr)) rfl rfl) hm (fadd_list (by rw [List.length_map, List.length_map, List.length_map]; omega))
  · show (if sortOk ((ties ++ ties.map sw).map pr) then some (PyData.list (sortD ((ties ++ ties.map sw).map pr))) else none) = _
    rw [if_pos (sortOk_prs (by rw [List.length_append, List.length_map]; omega)), h.two]
theorem law_of_ok (k : Nat) (x : Src) (hx : x.cells.length ≤ 63) {ds : List PyData} (h0 : ds ≠ []) (hl : ds.length ≤ 1000000) : ∃ d x', d ∈ ds ∧ (fnAt T 200 (k + 2)).call "_law_of" [.src, .d (.list ds)] (some x) = some (.d d, some x') ∧ x'.cells.length ≤ 63 := by
  obtain ⟨r, x', e, hx', r0, r1⟩ := pick_ok k x hx (ds.length : Int) (by omega)
  have hpos := List.length_pos_iff.mpr h0
  have hr : r.toNat < ds.length := by omega
  refine ⟨ds[r.toNat], x', List.getElem_mem hr, ?_, hx'⟩
  rw [fnAt_call (d := ⟨2, 2, b__law_of⟩) rfl]
  refine run_env (n := 2) (nn := 2) (s' := ⟨[some .src, some (.d (.list ds))], some x'⟩) rfl rfl ?_
  show b__law_of (fnAt T 200 (k + 1)) ⟨[some .src, some (.d (.list ds))], some x⟩ = _
  unfold b__law_of
  have e1 : (cCall "_law_pick" [(cVar false 0), (cNat fLenD [(.e (cVar false 1))])]) (fnAt T 200 (k + 1)) ⟨[some .src, some (.d (.list ds))], some x⟩ = some (.d (.int r), ⟨[some .src, some (.d (.list ds))], some x'⟩) :=
    ccall (s1 := ⟨[some .src, some (.d (.list ds))], some x⟩) (xs := [.src, .d (.int (ds.length : Int))]) (eargs (x := .src) rfl (eargs (x := .d (.int (ds.length : Int))) (cnat1 (x := .list ds) rfl rfl) rfl)) e
  refine sret (cbin (x := .list ds) (y := .int r) rfl e1 ?_)
  have h := Ev.atI_nat (List.getElem?_eq_getElem hr)
  rw [Int.toNat_of_nonneg r0] at h
  exact h
theorem erase_perm {α : Type} : ∀ (l : List α) (i : Nat) (h : i < l.length), (l[i] :: l.eraseIdx i).Perm l
  | x :: l, 0, _ => .refl _
  | x :: l, i + 1, h => by
    have h' : i < l.length := by simpa using h
    show (l[i] :: x :: l.eraseIdx i).Perm (x :: l)
    exact ((List.Perm.swap x l[i] (l.eraseIdx i))).trans ((erase_perm l i h').cons x)
theorem mixL (k : Nat) (t : Option Vx) : ∀ (ds rest : List PyData) (e : Option Vx) (x : Src), x.cells.length ≤ 63 → rest.length = ds.length → rest.length ≤ 1000000 →
    ∃ ys e' x', lcL (aName 3) [3] bYes (cPopAt 2 (cCall "_law_pick" [(cVar false 0), (cNat fLenD [(.pk 2)])])) (fnAt T 200 (k + 1)) ds ⟨[some .src, t, some (.d (.list rest)), e], some x⟩ = some (ys, ⟨[some .src, t, some (.d (.list [])), e'], some x'⟩) ∧ ys.Perm rest ∧ x'.cells.length ≤ 63
  | [], rest, e, x, hx, hl, _ => by
    have : rest = [] := List.length_eq_zero_iff.mp hl
    subst this
    exact ⟨[], e, x, rfl, .refl _, hx⟩
  | d :: ds, rest, e, x, hx, hl, hz => by
    rw [List.length_cons] at hl
    obtain ⟨r, x', e1, hx', r0, r1⟩ := pick_ok k x hx (rest.length : Int) (by omega)
    have hr : r.toNat < rest.length := by omega
    have hc : (cCall "_law_pick" [(cVar false 0), (cNat fLenD [(.pk 2)])]) (fnAt T 200 (k + 1)) ⟨[some .src, t, some (.d (.list rest)), some (.d d)], some x⟩ = some (.d (.int r), ⟨[some .src, t, some (.d (.list rest)), some (.d d)], some x'⟩) :=
      ccall (s1 := ⟨[some .src, t, some (.d (.list rest)), some (.d d)], some x⟩) (xs := [.src, .d (.int (rest.length : Int))]) rfl e1
    have hp : cPopAt 2 (cCall "_law_pick" [(cVar false 0), (cNat fLenD [(.pk 2)])]) (fnAt T 200 (k + 1)) ⟨[some .src, t, some (.d (.list rest)), some (.d d)], some x⟩ = some (.d rest[r.toNat], ⟨[some .src, t, some (.d (.list (rest.eraseIdx r.toNat))), some (.d d)], some x'⟩) := by
      unfold cPopAt
      show (match cCall _ _ _ _ with | some (.d (.int k), s1) => _ | _ => none) = _
      rw [hc]
      show (if small63 r then _ else none) = _
      rw [if_pos (by unfold small63; simp only [Bool.and_eq_true, decide_eq_true_eq]; omega)]
      have hs : seqIndex? r rest.length = some r.toNat := by
        unfold seqIndex?
        simp only [show ¬ r < 0 by omega, if_false]
        rw [if_pos (by simp only [Bool.and_eq_true, decide_eq_true_eq]; omega)]
      rw [hs]
      show (match rest[r.toNat]? with | some y => _ | none => none) = _
      rw [List.getElem?_eq_getElem hr]
      rfl
    obtain ⟨ys, e', x2, g1, g2, g3⟩ := mixL k t ds (rest.eraseIdx r.toNat) (some (.d d)) x' hx' (by rw [List.length_eraseIdx_of_lt hr]; omega) (by rw [List.length_eraseIdx_of_lt hr]; omega)
    refine ⟨rest[r.toNat] :: ys, e', x2, ?_, (g2.cons _).trans (erase_perm rest _ hr), g3⟩
    exact lcL_cons (s1 := ⟨[some .src, t, some (.d (.list rest)), some (.d d)], some x⟩) rfl rfl hp g1
theorem mixed_ok (k : Nat) (x : Src) (hx : x.cells.length ≤ 63) {ds : List PyData} {c : PyData} (hc : c = .list ds ∨ c = .tuple ds) (hl : ds.length ≤ 1000000) : ∃ ys x', (fnAt T 200 (k + 2)).call "_law_mixed" [.src, .d c] (some x) = some (.d (.list ys), some x') ∧ ys.Perm ds ∧ x'.cells.length ≤ 63 := by
  obtain ⟨ys, e', x', g1, g2, g3⟩ := mixL k (some (.d c)) ((List.range ds.length).map Nm) ds none x hx (by rw [List.length_map, List.length_range]) hl
  refine ⟨ys, x', ?_, g2, g3⟩
  rw [fnAt_call (d := ⟨2, 4, b__law_mixed⟩) rfl]
  refine run_env (n := 2) (nn := 4) (s' := ⟨[some .src, some (.d c), some (.d (.list [])), none], some x'⟩) rfl rfl ?_
  show b__law_mixed (fnAt T 200 (k + 1)) ⟨[some .src, some (.d c), none, none], some x⟩ = _
  unfold b__law_mixed
  refine e_seq (spar1 (x := .d (.list ds)) (s1 := ⟨[some .src, some (.d c), none, none], some x⟩) (by rcases hc with rfl | rfl <;> rfl)) (sret (x := .d (.list ys)) ?_)
  show cLc [3] (aName 3) (icRng1 (.e (cNat fLenD [(.pk 2)]))) bYes (cPopAt 2 (cCall "_law_pick" [(cVar false 0), (cNat fLenD [(.pk 2)])])) (fnAt T 200 (k + 1)) ⟨[some .src, some (.d c), some (.d (.list ds)), none], some x⟩ = _
  have hic : icRng1 (.e (cNat fLenD [(.pk 2)])) (fnAt T 200 (k + 1)) ⟨[some .src, some (.d c), some (.d (.list ds)), none], some x⟩ = some ((List.range ds.length).map Nm, ⟨[some .src, some (.d c), some (.d (.list ds)), none], some x⟩, []) := ic_rng1 rfl hl
  exact clc_of hic (by rw [List.length_map, List.length_range, sizeLine_eq]; omega) g1
end L56
namespace L56
open PySem PySem.Spec L2 Ev PyProof.Rows
def sqL (q : Nat) : List Nat := (List.range (q - 1)).map fun x => (1 + x) * (1 + x) % q
def tsL (q a : Nat) : List (Nat × Nat) := ((List.range (q - (a + 1))).filter fun k => (sqL q).contains ((k + 1) % q)).map fun k => (a, a + 1 + k)
def tiesP (q : Nat) : List (Nat × Nat) := (List.range q).flatMap (tsL q)
def pal (q a b : Nat) : Bool := if a < b then (sqL q).contains ((b - a) % q) else if b < a then (sqL q).contains ((a - b) % q) else false
theorem ties_mem {q a b : Nat} : (a, b) ∈ tiesP q ↔ a < b ∧ b < q ∧ (sqL q).contains ((b - a) % q) = true := by
  unfold tiesP tsL
  rw [List.mem_flatMap]
  constructor
  · rintro ⟨a', ha, h⟩
    obtain ⟨k, hk, e⟩ := List.mem_map.mp h
    obtain ⟨hk1, hk2⟩ := List.mem_filter.mp hk
    rw [List.mem_range] at ha hk1
    injection e with e1 e2
    subst e1
    subst e2
    exact ⟨by omega, by omega, by rw [show a' + 1 + k - a' = k + 1 by omega]; exact hk2⟩
  · rintro ⟨h1, h2, h3⟩
    refine ⟨a, List.mem_range.mpr (by omega), List.mem_map.mpr ⟨b - (a + 1), List.mem_filter.mpr ⟨List.mem_range.mpr (by omega), ?_⟩, ?_⟩⟩
    · rw [show b - (a + 1) + 1 = b - a by omega]; exact h3
    · rw [show a + 1 + (b - (a + 1)) = b by omega]
theorem ties_lx (q : Nat) : (tiesP q).Pairwise lx := by
  unfold tiesP tsL
  rw [List.pairwise_flatMap]
  refine ⟨fun a _ => ?_, ?_⟩
  · rw [List.pairwise_map]
    exact (List.pairwise_lt_range.filter _).imp fun h => .inr ⟨rfl, by show _ < _; omega⟩
  · refine List.pairwise_lt_range.imp fun h x hx y hy => ?_
    obtain ⟨_, _, rfl⟩ := List.mem_map.mp hx
    obtain ⟨_, _, rfl⟩ := List.mem_map.mp hy
    exact .inl h
theorem ties_ok (q : Nat) : TieOk q (pal q) (tiesP q) where
  nd := (ties_lx q).imp fun {x y} h e => by
    subst e
    rcases h with h | ⟨_, h⟩ <;> omega
  lt := fun p hp => by
    have := ties_mem.mp (show (p.1, p.2) ∈ tiesP q from hp)
    exact ⟨this.1, this.2.1⟩
  iff := fun a b ha hb => by
    rw [ties_mem, ties_mem]
    unfold pal
    by_cases h1 : a < b
    · rw [if_pos h1]
      constructor
      · exact fun h => .inl ⟨h1, hb, h⟩
      · rintro (h | h)
        · exact h.2.2
        · omega
    · rw [if_neg h1]
      by_cases h2 : b < a
      · rw [if_pos h2]
        constructor
        · exact fun h => .inr ⟨h2, ha, h⟩
        · rintro (h | h)
          · omega
          · exact h.2.2
      · rw [if_neg h2]
        constructor
        · intro h; cases h
        · rintro (h | h) <;> omega
theorem ties_len {q : Nat} (hq : q ≤ 30) : ∀ j, ((((List.range q).take j).flatMap (tsL q))).length ≤ 900 := fun j => by
  refine Nat.le_trans (flat_take _ _ j) ?_
  have : ∀ l : List Nat, (l.flatMap (tsL q)).length ≤ l.length * 30 := by
    intro l
    induction l with
    | nil => exact Nat.le_refl _
    | cons a l ih =>
      rw [List.flatMap_cons, List.length_append, List.length_cons, Nat.succ_mul]
      have : (tsL q a).length ≤ 30 := by
        unfold tsL
        rw [List.length_map]
        refine Nat.le_trans (List.length_filter_le _ _) ?_
        rw [List.length_range]; omega
      omega
  have h := this (List.range q)
  rw [List.length_range] at h
  have : q * 30 ≤ 900 := by omega
  omega
def gp (q a : Nat) : PyData → Bool
  | .int i => (sqL q).contains ((i.toNat - a) % q)
  | _ => false
theorem pal_row {F : Fn} {q a : Nat} (hq : q ≤ 30) (ha : a < q) {t : CB} {c1 c2 c4 c5 : Option Vx} {src : Option Src} (ht : ∀ b, a < b → b < q → t F ⟨[some (.d (Nm q)), c1, c2, some (.d (Nm a)), c4, some (.d (Nm b))], src⟩ = some ((sqL q).contains ((b - a) % q), ⟨[some (.d (Nm q)), c1, c2, some (.d (Nm a)), c4, some (.d (Nm b))], src⟩)) :
    (cLc [5] (aName 5) (icRng2 (.e (cBin fAdd (.e (cVar false 3)) (.e (cC (.int 1))))) (.e (cVar false 0))) t (cDisp true [(cVar false 3), (cVar false 5)])) F ⟨[some (.d (Nm q)), c1, c2, some (.d (Nm a)), c4, c5], src⟩ = some (.d (.list ((tsL q a).map pr)), ⟨[some (.d (Nm q)), c1, c2, some (.d (Nm a)), c4, c5], src⟩) := by
  have hm := clc_filt (own := [5]) (as := aName 5) (ic := (icRng2 (.e (cBin fAdd (.e (cVar false 3)) (.e (cC (.int 1))))) (.e (cVar false 0)))) (t := t) (c := (cDisp true [(cVar false 3), (cVar false 5)])) (F := F)
    (ds := (List.range (q - (a + 1))).map fun k => Nm (a + 1 + k)) (E1 := [some (.d (Nm q)), c1, c2, some (.d (Nm a)), c4, c5]) (src := src) (s := ⟨[some (.d (Nm q)), c1, c2, some (.d (Nm a)), c4, c5], src⟩) (ic_rng2 (m := a + 1) rfl rfl (by omega) (by omega)) (by rw [List.length_map, List.length_range, sizeLine_eq]; omega) (gp q a) (fun d => .tuple [Nm a, d]) (by
      intro d hd
      obtain ⟨x, hx, rfl⟩ := List.mem_map.mp hd
      rw [List.mem_range] at hx
      have hg : gp q a (Nm (a + 1 + x)) = (sqL q).contains ((a + 1 + x - a) % q) := by
        show (sqL q).contains ((((a + 1 + x : Nat) : Int).toNat - a) % q) = _
        rw [Int.toNat_natCast]
      rw [hg]
      exact ⟨⟨[some (.d (Nm q)), c1, c2, some (.d (Nm a)), c4, some (.d (Nm (a + 1 + x)))], src⟩, ⟨[some (.d (Nm q)), c1, c2, some (.d (Nm a)), c4, some (.d (Nm (a + 1 + x)))], src⟩, rfl, ht _ (by omega) (by omega), fun _ => ⟨rfl, rfl⟩, fun _ => ⟨[some (.d (Nm q)), c1, c2, some (.d (Nm a)), c4, some (.d (Nm (a + 1 + x)))], cdisp (b := true) (xs := [.d (Nm a), .d (Nm (a + 1 + x))]) rfl rfl (by rw [sizeLine_eq]; simp), rfl⟩⟩)
  have e : (((List.range (q - (a + 1))).map fun k => Nm (a + 1 + k)).filter (gp q a)).map (fun d => PyData.tuple [Nm a, d]) = (tsL q a).map pr := by
    unfold tsL
    rw [List.filter_map, List.map_map, List.map_map]
    have : (gp q a ∘ fun k => Nm (a + 1 + k)) = fun k => (sqL q).contains ((k + 1) % q) := funext fun k => by
      show (sqL q).contains ((((a + 1 + k : Nat) : Int).toNat - a) % q) = _
      rw [Int.toNat_natCast, show a + 1 + k - a = k + 1 by omega]
    rw [this]
    rfl
  rw [e] at hm
  exact hm
theorem pal_for {F : Fn} {q : Nat} (hq : q ≤ 30) {t : CB} {c1 c4 c5 : Option Vx} {src : Option Src} (ht : ∀ a b c2, a < b → b < q → t F ⟨[some (.d (Nm q)), c1, c2, some (.d (Nm a)), c4, some (.d (Nm b))], src⟩ = some ((sqL q).contains ((b - a) % q), ⟨[some (.d (Nm q)), c1, c2, some (.d (Nm a)), c4, some (.d (Nm b))], src⟩)) :
    ∃ c3, sFor (aName 3) (icRng1 (.e (cVar false 0))) (sPar [2] [(cBin fAdd (.e (cVar false 2)) (.e (cLc [5] (aName 5) (icRng2 (.e (cBin fAdd (.e (cVar false 3)) (.e (cC (.int 1))))) (.e (cVar false 0))) t (cDisp true [(cVar false 3), (cVar false 5)]))))]) F ⟨[some (.d (Nm q)), c1, some (.d (.list [])), none, c4, c5], src⟩ = some (.nx, ⟨[some (.d (Nm q)), c1, some (.d (.list ((tiesP q).map pr))), c3, c4, c5], src⟩) := by
  obtain ⟨s', hfor, c3, rfl⟩ := sfor_ind (as := aName 3) (ic := icRng1 (.e (cVar false 0))) (F := F) (b := (sPar [2] [(cBin fAdd (.e (cVar false 2)) (.e (cLc [5] (aName 5) (icRng2 (.e (cBin fAdd (.e (cVar false 3)) (.e (cC (.int 1))))) (.e (cVar false 0))) t (cDisp true [(cVar false 3), (cVar false 5)]))))])) (s := ⟨[some (.d (Nm q)), c1, some (.d (.list [])), none, c4, c5], src⟩) (ds := (List.range q).map Nm) (s0 := ⟨[some (.d (Nm q)), c1, some (.d (.list [])), none, c4, c5], src⟩) (ic_rng1 rfl (by omega))
    (fun j s => ∃ c3, s = ⟨[some (.d (Nm q)), c1, some (.d (.list ((((List.range q).take j).flatMap (tsL q)).map pr))), c3, c4, c5], src⟩) ⟨none, rfl⟩ (by
      rintro j d s hj ⟨c3, rfl⟩
      rw [List.getElem?_map, Option.map_eq_some_iff] at hj
      obtain ⟨a, ha, rfl⟩ := hj
      have haq := List.mem_range.mp (List.mem_of_getElem? ha)
      have e1 := flat_succ (tsL q) ha
      have h1 := ties_len hq (j + 1)
      refine ⟨⟨[some (.d (Nm q)), c1, some (.d (.list ((((List.range q).take j).flatMap (tsL q)).map pr))), some (.d (Nm a)), c4, c5], src⟩, _, rfl, spar1 (x := .d (.list ((((List.range q).take (j + 1)).flatMap (tsL q)).map pr))) (s1 := ⟨[some (.d (Nm q)), c1, some (.d (.list ((((List.range q).take j).flatMap (tsL q)).map pr))), some (.d (Nm a)), c4, c5], src⟩) ?_, some (.d (Nm a)), rfl⟩
      rw [e1, List.map_append]
      refine cbin rfl (pal_row hq haq fun b hab hbq => ht a b _ hab hbq) (fadd_list ?_)
      rw [e1, List.length_append] at h1
      rw [List.length_map, List.length_map]
      omega)
  have ht' : (List.range q).take ((List.range q).map Nm).length = List.range q := by rw [List.length_map, List.take_length]
  rw [ht'] at hfor
  exact ⟨c3, hfor⟩
theorem nat_mod (a b q : Nat) (hab : a ≤ b) : (((b : Int) - (a : Int)) % (q : Int)) = (((b - a) % q : Nat) : Int) := by
  rw [Int.natCast_emod, Int.ofNat_sub hab]
theorem cmod {F : Fn} {s s1 s2 : S} {a b : CE} {i j : Int} (h1 : a F s = some (.d (.int i), s1)) (h2 : b F s1 = some (.d (.int j), s2)) (h : 0 < j) : cBin fMod (.e a) (.e b) F s = some (.d (.int (i % j)), s2) := cbin h1 h2 (mod_ok i j h)
theorem cmul {F : Fn} {s s1 s2 : S} {a b : CE} {i j : Int} (h1 : a F s = some (.d (.int i), s1)) (h2 : b F s1 = some (.d (.int j), s2)) (h : Ev.small64 j = true) : cBin fMul (.e a) (.e b) F s = some (.d (.int (i * j)), s2) := cbin h1 h2 (mul_sm i j h)
theorem small_nat {x : Nat} (h : x ≤ 1000000) : Ev.small64 (x : Int) = true := by
  unfold Ev.small64
  simp only [Bool.and_eq_true, decide_eq_true_eq]
  omega
theorem spar2 {F : Fn} {s s1 s2 : S} {i j : Nat} {c d : CE} {x y : Vx} (h : c F s = some (x, s1)) (h2 : d F s1 = some (y, s2)) : sPar [i, j] [c, d] F s = some (.nx, { s2 with env := (s2.env.set i (some x)).set j (some y) }) := by
  unfold sPar
  rw [eargs h (eargs h2 rfl)]
  rfl
theorem sq_list {F : Fn} {q i : Nat} (hq : q ≤ 30) (h1 : 1 ≤ q) {E : List (Option Vx)} {src : Option Src} {own : Nat} (c : CE)
    (hic : icRng2 (.e (cC (.int 1))) (.e (cVar false i)) F ⟨E, src⟩ = some ((List.range (q - 1)).map (fun x => Nm (1 + x)), ⟨E, src⟩, []))
    (hc : ∀ x, x < q - 1 → ∃ s1 E', aName own (Nm (1 + x)) ⟨wipeE E [own], src⟩ = some s1 ∧ c F s1 = some (.d (Nm ((1 + x) * (1 + x) % q)), ⟨E', src⟩) ∧ wipeE E' [own] = wipeE E [own]) :
    cLc [own] (aName own) (icRng2 (.e (cC (.int 1))) (.e (cVar false i))) bYes c F ⟨E, src⟩ = some (.d (.list ((sqL q).map Nm)), ⟨E, src⟩) := by
  have hm := clc_map (own := [own]) (as := aName own) (ic := icRng2 (.e (cC (.int 1))) (.e (cVar false i))) (c := c) (F := F) (ds := (List.range (q - 1)).map fun x => Nm (1 + x)) (E1 := E) (src := src) (s := ⟨E, src⟩) hic (by rw [List.length_map, List.length_range, sizeLine_eq]; omega)
    (fun d => match d with
      | .int i => Nm (i.toNat * i.toNat % q)
      | _ => .none) (by
      intro d hd
      obtain ⟨x, hx, rfl⟩ := List.mem_map.mp hd
      rw [List.mem_range] at hx
      obtain ⟨s1, E', h1, h2, h3⟩ := hc x hx
      refine ⟨s1, E', h1, ?_, h3⟩
      show _ = some (Vx.d (Nm (((1 + x : Nat) : Int).toNat * ((1 + x : Nat) : Int).toNat % q)), _)
      rw [Int.toNat_natCast]
      exact h2)
  have e : ((List.range (q - 1)).map fun x => Nm (1 + x)).map (fun d : PyData => match d with
      | .int i => Nm (i.toNat * i.toNat % q)
      | _ => .none) = (sqL q).map Nm := by
    unfold sqL
    rw [List.map_map, List.map_map]
    refine List.map_congr_left fun x _ => ?_
    show Nm (((1 + x : Nat) : Int).toNat * ((1 + x : Nat) : Int).toNat % q) = _
    rw [Int.toNat_natCast]
    rfl
  rw [e] at hm
  exact hm
theorem inL_nat {b : Bool} {x : Nat} {l : List Nat} : fInD b (Nm x) (.list (l.map Nm)) = some (.bool (xor b (l.contains x))) := by
  refine (show fInD b (Nm x) (.list (l.map Nm)) = fIn b (Nm x) (.list (l.map Nm)) from rfl).trans (fIn_itr rfl rfl (by simp [PyData.depth]) (fun d hd => ?_) ?_)
  · obtain ⟨p, _, rfl⟩ := List.mem_map.mp hd
    rfl
  · rw [List.mem_map, List.contains_iff_mem]
    exact ⟨fun ⟨p, hp, e⟩ => (Nm_inj e) ▸ hp, fun h => ⟨x, h, rfl⟩⟩
theorem fint (i : Int) : fInt [.int i] = some (.int i) := rfl
theorem law_paley_ok (k : Nat) {q : Nat} (h1 : 1 ≤ q) (hq : q ≤ 30) (src : Option Src) : (fnAt T 200 (k + 2)).call "_law_paley" [.d (Nm q)] src = some (.d (tw q (pal q)), src) := by
  rw [fnAt_call (d := ⟨1, 6, b__law_paley⟩) rfl]
  have hsq := sq_list (F := fnAt T 200 (k + 1)) (q := q) (i := 0) hq h1 (E := [some (.d (Nm q)), none, none, none, none, none]) (src := src) (own := 4) (cBin fMod (.e (cNat fInt [(.e (cBin fMul (.e (cVar false 4)) (.e (cVar false 4))))])) (.e (cVar false 0))) (ic_rng2 (m := 1) rfl rfl (by omega) (by omega)) (fun x hx => by
    refine ⟨⟨[some (.d (Nm q)), none, none, none, some (.d (Nm (1 + x))), none], src⟩, [some (.d (Nm q)), none, none, none, some (.d (Nm (1 + x))), none], rfl, ?_, rfl⟩
    have := cmod (F := fnAt T 200 (k + 1)) (s := ⟨[some (.d (Nm q)), none, none, none, some (.d (Nm (1 + x))), none], src⟩) (cnat1 (cmul (vat (i := 4) rfl) (vat (i := 4) rfl) (small_nat (x := 1 + x) (by omega))) (fint _)) (vat (i := 0) (x := Nm q) rfl) (by omega)
    rw [this]
    have e : ((1 + x : Nat) : Int) * ((1 + x : Nat) : Int) % (q : Int) = (((1 + x) * (1 + x) % q : Nat) : Int) := by rw [Int.natCast_emod, Int.natCast_mul]
    rw [e])
  obtain ⟨c3, hfor⟩ := pal_for (F := fnAt T 200 (k + 1)) (t := (bOf (cBin (fInD false) (.e (cBin fMod (.e (cNat fInt [(.e (cBin fSub (.e (cVar false 5)) (.e (cVar false 3))))])) (.e (cVar false 0)))) (.e (cVar false 1))))) (c1 := some (.d (.list ((sqL q).map Nm)))) (c4 := none) (c5 := none) (src := src) hq (fun a b c2 hab hbq => by
    refine bof' (cbin (x := Nm ((b - a) % q)) (y := .list ((sqL q).map Nm)) (s1 := ⟨[some (.d (Nm q)), some (.d (.list ((sqL q).map Nm))), c2, some (.d (Nm a)), none, some (.d (Nm b))], src⟩) ?_ rfl ?_)
    · have := cmod (F := fnAt T 200 (k + 1)) (s := ⟨[some (.d (Nm q)), some (.d (.list ((sqL q).map Nm))), c2, some (.d (Nm a)), none, some (.d (Nm b))], src⟩) (a := (cNat fInt [(.e (cBin fSub (.e (cVar false 5)) (.e (cVar false 3))))])) (i := (b : Int) - (a : Int)) rfl (vat (i := 0) (x := Nm q) rfl) (by omega)
      rw [this, nat_mod a b q (by omega)]
      rfl
    · have := inL_nat (b := false) (x := (b - a) % q) (l := sqL q)
      rwa [Bool.false_xor] at this)
  refine run_env (n := 1) (nn := 6) (s' := ⟨[some (.d (Nm q)), some (.d (.list ((sqL q).map Nm))), some (.d (.list ((tiesP q).map pr))), c3, none, none], src⟩) rfl rfl ?_
  show b__law_paley (fnAt T 200 (k + 1)) ⟨[some (.d (Nm q)), none, none, none, none, none], src⟩ = _
  unfold b__law_paley
  have hl := ties_len hq q
  rw [show (List.range q).take q = List.range q by rw [List.take_of_length_le (by rw [List.length_range]; exact Nat.le_refl _)]] at hl
  exact e_seq (spar2 hsq (y := .d (.list [])) (cdisp (b := false) (xs := []) (ds := []) rfl rfl (by rw [sizeLine_eq]; simp))) (e_seq hfor (sret (pcall (s := ⟨[some (.d (Nm q)), some (.d (.list ((sqL q).map Nm))), some (.d (.list ((tiesP q).map pr))), c3, none, none], src⟩) (xs := [.d (Nm q), .d (.list ((tiesP q).map pr))]) rfl (law_of_ties_ok k (by omega) (ties_ok q) (Nat.le_trans hl (by omega)) src))))
end L56
namespace L56
open PySem PySem.Spec L2 Ev PyProof.Rows
theorem its_show : ∀ (d : PyData), its d = true → d.showable = true := by
  exact aux
where
  aux : ∀ (d : PyData), its d = true → d.showable = true
    | .int i, h => by
      unfold its at h
      simp only [Bool.and_eq_true, decide_eq_true_eq] at h
      simp only [PyData.showable, decide_eq_true_eq]
      have h2 : i.natAbs < 100 := by omega
      have h3 : i.natAbs.log2 ≤ 7 := by
        by_cases h0 : i.natAbs = 0
        · rw [h0]; decide
        · have := (Nat.log2_lt h0 (k := 7)).mpr (by omega)
          omega
      omega
    | .tuple ds, h => by
      unfold its at h
      simp only [PyData.showable]
      exact auxA ds h
    | .none, h => by cases h
    | .bool _, h => by cases h
    | .str _, h => by cases h
    | .list _, h => by cases h
    | .dict _, h => by cases h
  auxA : ∀ (ds : List PyData), itsA ds = true → PyData.showableAll ds = true
    | [], _ => by simp [PyData.showableAll]
    | d :: ds, h => by
      unfold itsA at h
      rw [Bool.and_eq_true] at h
      simp only [PyData.showableAll, Bool.and_eq_true]
      exact ⟨aux d h.1, auxA ds h.2⟩
theorem frepr {d : PyData} (h : its d = true) (hl : (sh d).length ≤ sizeLine) (hd : d.depth ≤ 64) : fRepr [d] = some (.str d.shown) := by
  show (if PyData.canLay0 d && d.showable && decide (d.shown.length ≤ sizeLine) && decide (d.depth ≤ 64) then some (PyData.str d.shown) else none) = _
  rw [itr_lay d (its_itr d h), its_show d h, shown_len, decide_eq_true hl, decide_eq_true hd]
  rfl
theorem shI_c : ∀ i : Fin 100, ∀ c ∈ shI (i.val : Int), c < 128 := by decide +kernel
theorem shI_c' {i : Int} (h : 0 ≤ i ∧ i < 100) : ∀ c ∈ shI i, c < 128 := by
  have := shI_c ⟨i.toNat, by omega⟩
  rw [show ((⟨i.toNat, by omega⟩ : Fin 100).val : Int) = i from Int.toNat_of_nonneg h.1] at this
  exact this
theorem rest_c : ∀ (ds : List PyData), (∀ d ∈ ds, ∀ c ∈ sh d, c < 128) → ∀ c ∈ restT ds, c < 128
  | [], _, c, hc => by simp [restT] at hc
  | [x], h, c, hc => by
    simp only [restT, List.mem_append, List.mem_singleton] at hc
    rcases hc with hc | hc
    · exact h x List.mem_cons_self c hc
    · omega
  | x :: y :: r, h, c, hc => by
    have e : restT (x :: y :: r) = sh x ++ 44 :: 32 :: restT (y :: r) := rfl
    rw [e, List.mem_append, List.mem_cons, List.mem_cons] at hc
    rcases hc with hc | hc | hc | hc
    · exact h x List.mem_cons_self c hc
    · omega
    · omega
    · exact rest_c (y :: r) (fun d hd => h d (List.mem_cons_of_mem _ hd)) c hc
theorem body_c (ds : List PyData) (h : ∀ d ∈ ds, ∀ c ∈ sh d, c < 128) : ∀ c ∈ bodyT ds, c < 128 := by
  match ds, h with
  | [], _ => intro c hc; simp [bodyT] at hc; omega
  | [x], h =>
    intro c hc
    simp only [bodyT, List.mem_append, List.mem_cons, List.not_mem_nil, or_false] at hc
    rcases hc with hc | hc | hc
    · exact h x List.mem_cons_self c hc
    · omega
    · omega
  | x :: y :: r, h => exact rest_c (x :: y :: r) h
mutual
theorem sh_c : ∀ (d : PyData), its d = true → ∀ c ∈ sh d, c < 128
  | .int i, h => by
    unfold its at h
    simp only [Bool.and_eq_true, decide_eq_true_eq] at h
    rw [sh_int]; exact shI_c' h
  | .tuple ds, h => by
    unfold its at h
    rw [sh_tup]
    intro c hc
    rcases List.mem_cons.mp hc with hc | hc
    · omega
    · exact body_c ds (shA_c ds h) c hc
  | .none, h => by cases h
  | .bool _, h => by cases h
  | .str _, h => by cases h
  | .list _, h => by cases h
  | .dict _, h => by cases h
theorem shA_c : ∀ (ds : List PyData), itsA ds = true → ∀ d ∈ ds, ∀ c ∈ sh d, c < 128
  | [], _, d, hd => nomatch hd
  | x :: ds, h, d, hd => by
    unfold itsA at h
    rw [Bool.and_eq_true] at h
    rcases List.mem_cons.mp hd with e | hd
    · rw [e]; exact sh_c x h.1
    · exact shA_c ds h.2 d hd
end
theorem fne_same {a : Str} (hl : a.length ≤ sizeLine) (hc : ∀ c ∈ a.cps.toList, c < 128) : fNe (.str a) (.str a) = some (.bool false) := by
  have hk : PyData.strOk a = true := by
    unfold PyData.strOk
    rw [Array.all_eq_true']
    intro x hx
    have := hc x (by simpa using hx)
    simpa using (by omega : x < 1114112)
  unfold fNe
  have h1 : shp (.str a) = true := by simp [shp, SeqAt.shaped, PyData.canLay0, PyData.depth, hk, hl]
  rw [h1, Bool.and_self, if_pos rfl]
  simp [PyData.eqv]
theorem fne_shown {d : PyData} (hd : its d = true) (h : fRepr [d] = some (.str d.shown)) : fNe (.str d.shown) (.str d.shown) = some (.bool false) := by
  refine fne_same ?_ (sh_c d hd)
  unfold fRepr at h
  simp only at h
  split at h
  · rename_i hz
    simp only [Bool.and_eq_true, decide_eq_true_eq] at hz
    exact hz.1.2
  · cases h

theorem canon_len (n : Nat) (P : Nat → Nat → Bool) : (canon n P).length ≤ n * n := by
  have : ∀ l : List Nat, (l.flatMap fun a => ((List.range n).filter (P a)).map fun b => (a, b)).length ≤ l.length * n := by
    intro l
    induction l with
    | nil => simp
    | cons a l ih =>
      rw [List.flatMap_cons, List.length_append, List.length_cons, Nat.succ_mul, List.length_map]
      have := List.length_filter_le (P a) (List.range n)
      rw [List.length_range] at this
      omega
  have h := this (List.range n)
  rw [List.length_range] at h
  exact h
theorem canon_900 {n : Nat} {P : Nat → Nat → Bool} (hn : n ≤ 30) : (canon n P).length ≤ 900 := Nat.le_trans (canon_len n P) (Nat.le_trans (Nat.mul_le_mul hn hn) (by decide))
theorem its_nm {x : Nat} (h : x < 100) : its (Nm x) = true := by
  simp only [its, Bool.and_eq_true, decide_eq_true_eq]; omega
theorem its_pr {p : Nat × Nat} (h1 : p.1 < 100) (h2 : p.2 < 100) : its (pr p) = true := by
  show itsA [Nm p.1, Nm p.2] = true
  simp only [itsA, its_nm h1, its_nm h2, Bool.and_self]
theorem tw_its {n : Nat} {P : Nat → Nat → Bool} (hn : n ≤ 30) : its (tw n P) = true := by
  show itsA [Nm n, .tuple (List.replicate n (.int 0)), .tuple ((canon n P).map pr)] = true
  rw [itsA_iff]
  intro d hd
  simp only [List.mem_cons, List.not_mem_nil, or_false] at hd
  rcases hd with rfl | rfl | rfl
  · exact its_nm (by omega)
  · show itsA _ = true
    rw [itsA_iff]
    intro d hd
    rw [List.eq_of_mem_replicate hd]
    rfl
  · show itsA _ = true
    rw [itsA_iff]
    intro d hd
    obtain ⟨p, hp, rfl⟩ := List.mem_map.mp hd
    have := canon_mem.mp hp
    exact its_pr (by omega) (by omega)
theorem nm_len {x : Nat} (h : x < 100) : (sh (Nm x)).length ≤ 2 := by
  rw [sh_int]
  exact shI_len' (by omega)
theorem tw_len {n : Nat} {P : Nat → Nat → Bool} (hn : n ≤ 30) : (sh (tw n P)).length ≤ 1000000 := by
  have h1 : (sh (.tuple (List.replicate n (.int 0)))).length ≤ 20000 := by
    have := tup_len (n := 2) (List.replicate n (.int 0)) fun d hd => by
      rw [List.eq_of_mem_replicate hd]
      exact nm_len (x := 0) (by decide)
    rw [List.length_replicate] at this
    omega
  have h2 : (sh (.tuple ((canon n P).map pr))).length ≤ 20000 := by
    have := tup_len (n := 10) ((canon n P).map pr) fun d hd => by
      obtain ⟨p, hp, rfl⟩ := List.mem_map.mp hd
      have hc := canon_mem.mp hp
      refine Nat.le_trans (tup_len (n := 2) [Nm p.1, Nm p.2] fun d hd => ?_) (by simp)
      simp only [List.mem_cons, List.not_mem_nil, or_false] at hd
      rcases hd with rfl | rfl
      · exact nm_len (by omega)
      · exact nm_len (by omega)
    rw [List.length_map] at this
    have h9 := canon_900 (P := P) hn
    omega
  have := tup_len (n := 20000) [Nm n, .tuple (List.replicate n (.int 0)), .tuple ((canon n P).map pr)] fun d hd => by
    simp only [List.mem_cons, List.not_mem_nil, or_false] at hd
    rcases hd with rfl | rfl | rfl
    · exact Nat.le_trans (nm_len (by omega)) (by decide)
    · exact h1
    · exact h2
  exact Nat.le_trans this (by simp)
theorem tw_dep {n : Nat} {P : Nat → Nat → Bool} : (tw n P).depth ≤ 64 := by
  have h1 : PyData.depthAll (List.replicate n (PyData.int 0)) ≤ 10 := depthAll_le fun d hd => by rw [List.eq_of_mem_replicate hd]; simp [PyData.depth]
  have h2 : PyData.depthAll ((canon n P).map pr) ≤ 10 := depthAll_le fun d hd => by
    obtain ⟨p, _, rfl⟩ := List.mem_map.mp hd
    have := pr_depth p
    omega
  simp only [PyData.depth, PyData.depthAll]
  omega
theorem tw_repr {n : Nat} {P : Nat → Nat → Bool} (hn : n ≤ 30) : fRepr [tw n P] = some (.str (tw n P).shown) := frepr (tw_its hn) (by have := tw_len (P := P) hn; rw [sizeLine_eq]; omega) tw_dep
end L56
namespace L56
open PySem PySem.Spec L2 Ev PyProof.Rows
def wp (p : List Nat × List Nat) : PyData := .tuple [Rw p.1, Rw p.2]
def wishR (j : Nat) (row : List Nat) : List (List Nat × List Nat) := (patsP j).map fun pat => (row, pat)
def wishL (n k : Nat) : List (List Nat × List Nat) := (List.range k).flatMap fun j => (rowsP n j).flatMap (wishR j)
theorem wishL_succ (n j : Nat) : wishL n (j + 1) = wishL n j ++ (rowsP n j).flatMap (wishR j) := by
  unfold wishL
  rw [List.range_succ, List.flatMap_append]
  simp
theorem fadd_tup {xs ys : List PyData} (h : xs.length + ys.length ≤ 16777216) : fAdd (.tuple xs) (.tuple ys) = some (.tuple (xs ++ ys)) := by
  show (if _ then _ else _) = _
  rw [if_pos (by rw [sizeLine_eq]; exact h)]
theorem add_one {F : Fn} {s : S} {i : Nat} {c : CE} {row : List Nat} {x : Nat} (hl : row.length ≤ 100) (hi : s.env[i]? = some (some (.d (Rw row)))) (hc : c F s = some (.d (Nm x), s)) :
    cBin fAdd (.e (cVar false i)) (.e (cDisp true [c])) F s = some (.d (Rw (row ++ [x])), s) := by
  refine cbin (x := Rw row) (y := .tuple [Nm x]) (vat hi) (cdisp (b := true) (eargs hc rfl) rfl (by rw [sizeLine_eq]; simp)) ?_
  rw [fadd_tup (by rw [List.length_map]; simp; omega)]
  show some (PyData.tuple (row.map Nm ++ [Nm x])) = some (.tuple ((row ++ [x]).map Nm))
  rw [List.map_append]
  rfl
theorem spar3 {F : Fn} {s s1 s2 s3 : S} {i j l : Nat} {c d e : CE} {x y z : Vx} (h : c F s = some (x, s1)) (h2 : d F s1 = some (y, s2)) (h3 : e F s2 = some (z, s3)) : sPar [i, j, l] [c, d, e] F s = some (.nx, { s3 with env := ((s3.env.set i (some x)).set j (some y)).set l (some z) }) := by
  unfold sPar
  rw [eargs h (eargs h2 (eargs h3 rfl))]
  rfl
theorem wishes_ok (k : Nat) {n kk : Nat} (hn : n ≤ 100) (hm : kk ≤ 4) (hB : ∀ j, j ≤ kk → (rowsP n j).length ≤ 10000) (src : Option Src) :
    (fnAt T 200 (k + 1)).call "_law_wishes" [.d (Nm n), .d (Nm kk)] src = some (.d (.list ((wishL n kk).map wp)), src) := by
  rw [fnAt_call (d := ⟨2, 11, b__law_wishes⟩) rfl]
  have pl : ∀ j, j ≤ 8 → (patsP j).length ≤ 256 := fun j hj => by
    rw [(pats_len j).1]
    exact Nat.le_trans (Nat.pow_le_pow_right (by decide) hj) (by decide)
  have wl : ∀ j, j ≤ kk → (wishL n j).length ≤ j * 2560000 := by
    intro j
    induction j with
    | zero => intro _; exact Nat.le_refl _
    | succ j ih =>
      intro hj
      have h1 := ih (by omega)
      have h2 : ∀ l : List (List Nat), (l.flatMap (wishR j)).length ≤ l.length * 256 := by
        intro l
        induction l with
        | nil => exact Nat.le_refl _
        | cons a l ih =>
          rw [List.flatMap_cons, List.length_append, List.length_cons, Nat.succ_mul]
          have : (wishR j a).length ≤ 256 := by unfold wishR; rw [List.length_map]; exact pl j (by omega)
          omega
      have h3 := h2 (rowsP n j)
      have h4 := hB j (by omega)
      rw [wishL_succ, List.length_append]
      omega
  obtain ⟨s', hfor, e5, e6, e7, e8, e9, e10, rfl⟩ := sfor_ind (as := aName 5) (ic := icRng1 (.e (cVar false 1))) (F := fnAt T 200 k) (b := (sSeq (sFor (aName 6) (icAny (.e (cVar false 3))) (sPar [2] [(cBin fAdd (.e (cVar false 2)) (.e (cLc [9] (aName 9) (icAny (.e (cVar false 4))) bYes (cDisp true [(cVar false 6), (cVar false 9)]))))]))
    (sSeq (sPar [7] [(cDisp false [])])
    (sSeq (sFor (aName 6) (icAny (.e (cVar false 3))) (sPar [7] [(cBin fAdd (.e (cVar false 7)) (.e (cLc [10] (aName 10) (icRng1 (.e (cVar false 0))) (bOf (cBin (fInD true) (.e (cVar false 10)) (.e (cVar false 6)))) (cBin fAdd (.e (cVar false 6)) (.e (cDisp true [(cVar false 10)]))))))]))
    (sSeq (sPar [8] [(cDisp false [])])
    (sSeq (sFor (aName 9) (icAny (.e (cVar false 4))) (sPar [8] [(cBin fAdd (.e (cVar false 8)) (.e (cDisp false [(cBin fAdd (.e (cVar false 9)) (.e (cDisp true [(cC (.int 0))]))), (cBin fAdd (.e (cVar false 9)) (.e (cDisp true [(cC (.int 1))])))])))]))
    (sPar [3, 4] [(cVar false 7), (cVar false 8)]))))))) (s := ⟨[some (.d (Nm n)), some (.d (Nm kk)), some (.d (.list ([]))), some (.d (.list ([.tuple []]))), some (.d (.list ([.tuple []]))), none, none, none, none, none, none], src⟩) (ds := (List.range kk).map Nm) (s0 := ⟨[some (.d (Nm n)), some (.d (Nm kk)), some (.d (.list ([]))), some (.d (.list ([.tuple []]))), some (.d (.list ([.tuple []]))), none, none, none, none, none, none], src⟩) (ic_rng1 rfl (by omega))
    (fun j s => ∃ e5 e6 e7 e8 e9 e10, s = ⟨[some (.d (Nm n)), some (.d (Nm kk)), some (.d (.list ((wishL n j).map wp))), some (.d (.list ((rowsP n j).map Rw))), some (.d (.list ((patsP j).map Rw))), e5, e6, e7, e8, e9, e10], src⟩) ⟨none, none, none, none, none, none, rfl⟩ (by
      rintro j d s hj ⟨e5, e6, e7, e8, e9, e10, rfl⟩
      have hjm : j < kk := by
        have := (List.getElem?_eq_some_iff.mp hj).1
        rwa [List.length_map, List.length_range] at this
      have hB1 := hB (j + 1) (by omega)
      have hW1 := wl (j + 1) (by omega)
      have hP1 := pl (j + 1) (by omega)
      -- the wishes of this length
      obtain ⟨s2, h1, e6', rfl⟩ := sfor_ind (as := aName 6) (ic := icAny (.e (cVar false 3))) (F := fnAt T 200 k) (b := (sPar [2] [(cBin fAdd (.e (cVar false 2)) (.e (cLc [9] (aName 9) (icAny (.e (cVar false 4))) bYes (cDisp true [(cVar false 6), (cVar false 9)]))))])) (s := ⟨[some (.d (Nm n)), some (.d (Nm kk)), some (.d (.list ((wishL n j).map wp))), some (.d (.list ((rowsP n j).map Rw))), some (.d (.list ((patsP j).map Rw))), some (.d d), e6, e7, e8, e9, e10], src⟩) (ds := (rowsP n j).map Rw) (s0 := ⟨[some (.d (Nm n)), some (.d (Nm kk)), some (.d (.list ((wishL n j).map wp))), some (.d (.list ((rowsP n j).map Rw))), some (.d (.list ((patsP j).map Rw))), some (.d d), e6, e7, e8, e9, e10], src⟩) (ic_any rfl)
        (fun i s => ∃ e6, s = ⟨[some (.d (Nm n)), some (.d (Nm kk)), some (.d (.list ((wishL n j ++ ((rowsP n j).take i).flatMap (wishR j)).map wp))), some (.d (.list ((rowsP n j).map Rw))), some (.d (.list ((patsP j).map Rw))), some (.d d), e6, e7, e8, e9, e10], src⟩) ⟨e6, by rw [List.take_zero, List.flatMap_nil, List.append_nil]⟩ (by
          rintro i d' s hi ⟨e6, rfl⟩
          rw [List.getElem?_map, Option.map_eq_some_iff] at hi
          obtain ⟨row, hrow, rfl⟩ := hi
          have e1 := flat_succ (wishR j) hrow
          have hm := clc_map (own := [9]) (as := aName 9) (ic := icAny (.e (cVar false 4))) (c := (cDisp true [(cVar false 6), (cVar false 9)])) (F := fnAt T 200 k) (ds := (patsP j).map Rw) (E1 := [some (.d (Nm n)), some (.d (Nm kk)), some (.d (.list ((wishL n j ++ ((rowsP n j).take i).flatMap (wishR j)).map wp))), some (.d (.list ((rowsP n j).map Rw))), some (.d (.list ((patsP j).map Rw))), some (.d d), some (.d (Rw row)), e7, e8, e9, e10]) (src := src) (s := ⟨[some (.d (Nm n)), some (.d (Nm kk)), some (.d (.list ((wishL n j ++ ((rowsP n j).take i).flatMap (wishR j)).map wp))), some (.d (.list ((rowsP n j).map Rw))), some (.d (.list ((patsP j).map Rw))), some (.d d), some (.d (Rw row)), e7, e8, e9, e10], src⟩) (ic_any rfl) (by rw [List.length_map, sizeLine_eq]; have := pl j (by omega); omega) (fun d => .tuple [Rw row, d]) (by
            intro d' hd'
            exact ⟨⟨[some (.d (Nm n)), some (.d (Nm kk)), some (.d (.list ((wishL n j ++ ((rowsP n j).take i).flatMap (wishR j)).map wp))), some (.d (.list ((rowsP n j).map Rw))), some (.d (.list ((patsP j).map Rw))), some (.d d), some (.d (Rw row)), e7, e8, some (.d d'), e10], src⟩, [some (.d (Nm n)), some (.d (Nm kk)), some (.d (.list ((wishL n j ++ ((rowsP n j).take i).flatMap (wishR j)).map wp))), some (.d (.list ((rowsP n j).map Rw))), some (.d (.list ((patsP j).map Rw))), some (.d d), some (.d (Rw row)), e7, e8, some (.d d'), e10], rfl, cdisp (b := true) (xs := [.d (Rw row), .d d']) rfl rfl (by rw [sizeLine_eq]; simp), rfl⟩)
          have ee : ((patsP j).map Rw).map (fun d => PyData.tuple [Rw row, d]) = (wishR j row).map wp := by
            unfold wishR
            rw [List.map_map, List.map_map]
            rfl
          rw [ee] at hm
          have hlen : (wishL n j ++ ((rowsP n j).take (i + 1)).flatMap (wishR j)).length ≤ (wishL n (j + 1)).length := by
            rw [wishL_succ, List.length_append, List.length_append]
            have := flat_take (wishR j) (rowsP n j) (i + 1)
            omega
          refine ⟨⟨[some (.d (Nm n)), some (.d (Nm kk)), some (.d (.list ((wishL n j ++ ((rowsP n j).take i).flatMap (wishR j)).map wp))), some (.d (.list ((rowsP n j).map Rw))), some (.d (.list ((patsP j).map Rw))), some (.d d), some (.d (Rw row)), e7, e8, e9, e10], src⟩, _, rfl, spar1 (x := .d (.list ((wishL n j ++ ((rowsP n j).take (i + 1)).flatMap (wishR j)).map wp))) (s1 := ⟨[some (.d (Nm n)), some (.d (Nm kk)), some (.d (.list ((wishL n j ++ ((rowsP n j).take i).flatMap (wishR j)).map wp))), some (.d (.list ((rowsP n j).map Rw))), some (.d (.list ((patsP j).map Rw))), some (.d d), some (.d (Rw row)), e7, e8, e9, e10], src⟩) ?_, some (.d (Rw row)), rfl⟩
          rw [e1, ← List.append_assoc, List.length_append] at hlen
          rw [e1, ← List.append_assoc]
          generalize wishL n j ++ ((rowsP n j).take i).flatMap (wishR j) = A at hm hlen ⊢
          rw [List.map_append]
          refine cbin rfl hm (fadd_list ?_)
          rw [List.length_map, List.length_map]
          omega)
      rw [show (rowsP n j).take ((rowsP n j).map Rw).length = rowsP n j by rw [List.length_map, List.take_length], ← wishL_succ] at h1
      -- longer rows
      obtain ⟨s3, h2, e6'', rfl⟩ := sfor_ind (as := aName 6) (ic := icAny (.e (cVar false 3))) (F := fnAt T 200 k) (b := (sPar [7] [(cBin fAdd (.e (cVar false 7)) (.e (cLc [10] (aName 10) (icRng1 (.e (cVar false 0))) (bOf (cBin (fInD true) (.e (cVar false 10)) (.e (cVar false 6)))) (cBin fAdd (.e (cVar false 6)) (.e (cDisp true [(cVar false 10)]))))))])) (s := ⟨[some (.d (Nm n)), some (.d (Nm kk)), some (.d (.list ((wishL n (j + 1)).map wp))), some (.d (.list ((rowsP n j).map Rw))), some (.d (.list ((patsP j).map Rw))), some (.d d), e6', some (.d (.list ([]))), e8, e9, e10], src⟩) (ds := (rowsP n j).map Rw) (s0 := ⟨[some (.d (Nm n)), some (.d (Nm kk)), some (.d (.list ((wishL n (j + 1)).map wp))), some (.d (.list ((rowsP n j).map Rw))), some (.d (.list ((patsP j).map Rw))), some (.d d), e6', some (.d (.list ([]))), e8, e9, e10], src⟩) (ic_any rfl)
        (fun i s => ∃ e6, s = ⟨[some (.d (Nm n)), some (.d (Nm kk)), some (.d (.list ((wishL n (j + 1)).map wp))), some (.d (.list ((rowsP n j).map Rw))), some (.d (.list ((patsP j).map Rw))), some (.d d), e6, some (.d (.list ((((rowsP n j).take i).flatMap (stepR n)).map Rw))), e8, e9, e10], src⟩) ⟨e6', rfl⟩ (by
          rintro i d' s hi ⟨e6, rfl⟩
          rw [List.getElem?_map, Option.map_eq_some_iff] at hi
          obtain ⟨row, hrow, rfl⟩ := hi
          have hl := rows_len n j row (List.mem_of_getElem? hrow)
          have e1 := flat_succ (stepR n) hrow
          have h1 := flat_take (stepR n) (rowsP n j) (i + 1)
          have hm := clc_filt (own := [10]) (as := aName 10) (ic := icRng1 (.e (cVar false 0))) (t := (bOf (cBin (fInD true) (.e (cVar false 10)) (.e (cVar false 6))))) (c := (cBin fAdd (.e (cVar false 6)) (.e (cDisp true [(cVar false 10)])))) (F := fnAt T 200 k)
            (ds := (List.range n).map Nm) (E1 := [some (.d (Nm n)), some (.d (Nm kk)), some (.d (.list ((wishL n (j + 1)).map wp))), some (.d (.list ((rowsP n j).map Rw))), some (.d (.list ((patsP j).map Rw))), some (.d d), some (.d (Rw row)), some (.d (.list ((((rowsP n j).take i).flatMap (stepR n)).map Rw))), e8, e9, e10]) (src := src) (s := ⟨[some (.d (Nm n)), some (.d (Nm kk)), some (.d (.list ((wishL n (j + 1)).map wp))), some (.d (.list ((rowsP n j).map Rw))), some (.d (.list ((patsP j).map Rw))), some (.d d), some (.d (Rw row)), some (.d (.list ((((rowsP n j).take i).flatMap (stepR n)).map Rw))), e8, e9, e10], src⟩) (ic_rng1 rfl (by omega)) (by rw [List.length_map, List.length_range, sizeLine_eq]; omega) (gr row) (ga row) (by
              intro d' hd'
              obtain ⟨y, hy, rfl⟩ := List.mem_map.mp hd'
              have hg : gr row (Nm y) = !row.contains y := by
                show (!row.contains (y : Int).toNat) = _
                rw [Int.toNat_natCast]
              refine ⟨⟨[some (.d (Nm n)), some (.d (Nm kk)), some (.d (.list ((wishL n (j + 1)).map wp))), some (.d (.list ((rowsP n j).map Rw))), some (.d (.list ((patsP j).map Rw))), some (.d d), some (.d (Rw row)), some (.d (.list ((((rowsP n j).take i).flatMap (stepR n)).map Rw))), e8, e9, some (.d (Nm y))], src⟩, ⟨[some (.d (Nm n)), some (.d (Nm kk)), some (.d (.list ((wishL n (j + 1)).map wp))), some (.d (.list ((rowsP n j).map Rw))), some (.d (.list ((patsP j).map Rw))), some (.d d), some (.d (Rw row)), some (.d (.list ((((rowsP n j).take i).flatMap (stepR n)).map Rw))), e8, e9, some (.d (Nm y))], src⟩, rfl, ?_, fun _ => ⟨rfl, rfl⟩, fun _ => ⟨[some (.d (Nm n)), some (.d (Nm kk)), some (.d (.list ((wishL n (j + 1)).map wp))), some (.d (.list ((rowsP n j).map Rw))), some (.d (.list ((patsP j).map Rw))), some (.d d), some (.d (Rw row)), some (.d (.list ((((rowsP n j).take i).flatMap (stepR n)).map Rw))), e8, e9, some (.d (Nm y))], ?_, rfl⟩⟩
              · rw [hg]
                exact bof' (cbin rfl rfl notInD_row)
              · have := add_one (F := fnAt T 200 k) (s := ⟨[some (.d (Nm n)), some (.d (Nm kk)), some (.d (.list ((wishL n (j + 1)).map wp))), some (.d (.list ((rowsP n j).map Rw))), some (.d (.list ((patsP j).map Rw))), some (.d d), some (.d (Rw row)), some (.d (.list ((((rowsP n j).take i).flatMap (stepR n)).map Rw))), e8, e9, some (.d (Nm y))], src⟩) (i := 6) (c := cVar false 10) (row := row) (x := y) (by omega) rfl rfl
                rw [this]
                show some (Vx.d (.tuple ((row ++ [y]).map Nm)), _) = some (Vx.d (.tuple (row.map Nm ++ [Nm y])), _)
                rw [List.map_append]
                rfl)
          have ee : (((List.range n).map Nm).filter (gr row)).map (ga row) = (stepR n row).map Rw := by
            unfold stepR
            rw [List.filter_map, List.map_map, List.map_map]
            have : (gr row ∘ Nm) = fun x => !row.contains x := funext fun x => by
              show (!row.contains (x : Int).toNat) = _
              rw [Int.toNat_natCast]
            rw [this]
            refine List.map_congr_left fun x _ => ?_
            show PyData.tuple (row.map Nm ++ [Nm x]) = .tuple ((row ++ [x]).map Nm)
            rw [List.map_append]
            rfl
          rw [ee] at hm
          refine ⟨⟨[some (.d (Nm n)), some (.d (Nm kk)), some (.d (.list ((wishL n (j + 1)).map wp))), some (.d (.list ((rowsP n j).map Rw))), some (.d (.list ((patsP j).map Rw))), some (.d d), some (.d (Rw row)), some (.d (.list ((((rowsP n j).take i).flatMap (stepR n)).map Rw))), e8, e9, e10], src⟩, _, rfl, spar1 (x := .d (.list ((((rowsP n j).take (i + 1)).flatMap (stepR n)).map Rw))) (s1 := ⟨[some (.d (Nm n)), some (.d (Nm kk)), some (.d (.list ((wishL n (j + 1)).map wp))), some (.d (.list ((rowsP n j).map Rw))), some (.d (.list ((patsP j).map Rw))), some (.d d), some (.d (Rw row)), some (.d (.list ((((rowsP n j).take i).flatMap (stepR n)).map Rw))), e8, e9, e10], src⟩) ?_, some (.d (Rw row)), rfl⟩
          rw [e1, List.map_append]
          refine cbin rfl hm (fadd_list ?_)
          rw [e1, List.length_append] at h1
          rw [List.length_map, List.length_map]
          have : ((rowsP n j).flatMap (stepR n)).length ≤ 10000 := hB1
          omega)
      rw [show (rowsP n j).take ((rowsP n j).map Rw).length = rowsP n j by rw [List.length_map, List.take_length]] at h2
      have h2 : _ = some (Fl.nx, (⟨[some (.d (Nm n)), some (.d (Nm kk)), some (.d (.list ((wishL n (j + 1)).map wp))), some (.d (.list ((rowsP n j).map Rw))), some (.d (.list ((patsP j).map Rw))), some (.d d), e6'', some (.d (.list ((rowsP n (j + 1)).map Rw))), e8, e9, e10], src⟩ : S)) := h2
      -- longer patterns
      obtain ⟨s4, h3, e9', rfl⟩ := sfor_ind (as := aName 9) (ic := icAny (.e (cVar false 4))) (F := fnAt T 200 k) (b := (sPar [8] [(cBin fAdd (.e (cVar false 8)) (.e (cDisp false [(cBin fAdd (.e (cVar false 9)) (.e (cDisp true [(cC (.int 0))]))), (cBin fAdd (.e (cVar false 9)) (.e (cDisp true [(cC (.int 1))])))])))])) (s := ⟨[some (.d (Nm n)), some (.d (Nm kk)), some (.d (.list ((wishL n (j + 1)).map wp))), some (.d (.list ((rowsP n j).map Rw))), some (.d (.list ((patsP j).map Rw))), some (.d d), e6'', some (.d (.list ((rowsP n (j + 1)).map Rw))), some (.d (.list ([]))), e9, e10], src⟩) (ds := (patsP j).map Rw) (s0 := ⟨[some (.d (Nm n)), some (.d (Nm kk)), some (.d (.list ((wishL n (j + 1)).map wp))), some (.d (.list ((rowsP n j).map Rw))), some (.d (.list ((patsP j).map Rw))), some (.d d), e6'', some (.d (.list ((rowsP n (j + 1)).map Rw))), some (.d (.list ([]))), e9, e10], src⟩) (ic_any rfl)
        (fun i s => ∃ e9, s = ⟨[some (.d (Nm n)), some (.d (Nm kk)), some (.d (.list ((wishL n (j + 1)).map wp))), some (.d (.list ((rowsP n j).map Rw))), some (.d (.list ((patsP j).map Rw))), some (.d d), e6'', some (.d (.list ((rowsP n (j + 1)).map Rw))), some (.d (.list ((((patsP j).take i).flatMap fun p => [p ++ [0], p ++ [1]]).map Rw))), e9, e10], src⟩) ⟨e9, rfl⟩ (by
          rintro i d' s hi ⟨e9, rfl⟩
          rw [List.getElem?_map, Option.map_eq_some_iff] at hi
          obtain ⟨p, hp, rfl⟩ := hi
          have hl := (pats_len j).2 p (List.mem_of_getElem? hp)
          have e1 := flat_succ (fun p : List Nat => [p ++ [0], p ++ [1]]) hp
          have h1 := flat_take (fun p : List Nat => [p ++ [0], p ++ [1]]) (patsP j) (i + 1)
          refine ⟨⟨[some (.d (Nm n)), some (.d (Nm kk)), some (.d (.list ((wishL n (j + 1)).map wp))), some (.d (.list ((rowsP n j).map Rw))), some (.d (.list ((patsP j).map Rw))), some (.d d), e6'', some (.d (.list ((rowsP n (j + 1)).map Rw))), some (.d (.list ((((patsP j).take i).flatMap fun p => [p ++ [0], p ++ [1]]).map Rw))), some (.d (Rw p)), e10], src⟩, _, rfl, spar1 (x := .d (.list ((((patsP j).take (i + 1)).flatMap fun p => [p ++ [0], p ++ [1]]).map Rw))) (s1 := ⟨[some (.d (Nm n)), some (.d (Nm kk)), some (.d (.list ((wishL n (j + 1)).map wp))), some (.d (.list ((rowsP n j).map Rw))), some (.d (.list ((patsP j).map Rw))), some (.d d), e6'', some (.d (.list ((rowsP n (j + 1)).map Rw))), some (.d (.list ((((patsP j).take i).flatMap fun p => [p ++ [0], p ++ [1]]).map Rw))), some (.d (Rw p)), e10], src⟩) ?_, some (.d (Rw p)), rfl⟩
          rw [e1, List.map_append]
          refine cbin rfl (cdisp (b := false) (eargs (add_one (F := fnAt T 200 k) (s := ⟨[some (.d (Nm n)), some (.d (Nm kk)), some (.d (.list ((wishL n (j + 1)).map wp))), some (.d (.list ((rowsP n j).map Rw))), some (.d (.list ((patsP j).map Rw))), some (.d d), e6'', some (.d (.list ((rowsP n (j + 1)).map Rw))), some (.d (.list ((((patsP j).take i).flatMap fun p => [p ++ [0], p ++ [1]]).map Rw))), some (.d (Rw p)), e10], src⟩) (i := 9) (c := cC (.int 0)) (row := p) (x := 0) (by omega) rfl rfl) (eargs (add_one (F := fnAt T 200 k) (s := ⟨[some (.d (Nm n)), some (.d (Nm kk)), some (.d (.list ((wishL n (j + 1)).map wp))), some (.d (.list ((rowsP n j).map Rw))), some (.d (.list ((patsP j).map Rw))), some (.d d), e6'', some (.d (.list ((rowsP n (j + 1)).map Rw))), some (.d (.list ((((patsP j).take i).flatMap fun p => [p ++ [0], p ++ [1]]).map Rw))), some (.d (Rw p)), e10], src⟩) (i := 9) (c := cC (.int 1)) (row := p) (x := 1) (by omega) rfl rfl) rfl)) rfl (by rw [sizeLine_eq]; simp)) (fadd_list ?_)
          rw [e1, List.length_append] at h1
          rw [List.length_map]
          have : ((patsP j).flatMap fun p : List Nat => [p ++ [0], p ++ [1]]).length ≤ 256 := hP1
          simp only [List.length_cons, List.length_nil] at h1 ⊢
          omega)
      rw [show (patsP j).take ((patsP j).map Rw).length = patsP j by rw [List.length_map, List.take_length]] at h3
      have h3 : _ = some (Fl.nx, (⟨[some (.d (Nm n)), some (.d (Nm kk)), some (.d (.list ((wishL n (j + 1)).map wp))), some (.d (.list ((rowsP n j).map Rw))), some (.d (.list ((patsP j).map Rw))), some (.d d), e6'', some (.d (.list ((rowsP n (j + 1)).map Rw))), some (.d (.list ((patsP (j + 1)).map Rw))), e9', e10], src⟩ : S)) := h3
      refine ⟨⟨[some (.d (Nm n)), some (.d (Nm kk)), some (.d (.list ((wishL n j).map wp))), some (.d (.list ((rowsP n j).map Rw))), some (.d (.list ((patsP j).map Rw))), some (.d d), e6, e7, e8, e9, e10], src⟩, _, rfl, e_seq h1 (e_seq (spar1 (x := .d (.list [])) (cdisp (b := false) (xs := []) (ds := []) rfl rfl (by rw [sizeLine_eq]; simp))) (e_seq h2 (e_seq (spar1 (x := .d (.list [])) (cdisp (b := false) (xs := []) (ds := []) rfl rfl (by rw [sizeLine_eq]; simp))) (e_seq h3 (spar2 (s1 := ⟨[some (.d (Nm n)), some (.d (Nm kk)), some (.d (.list ((wishL n (j + 1)).map wp))), some (.d (.list ((rowsP n j).map Rw))), some (.d (.list ((patsP j).map Rw))), some (.d d), e6'', some (.d (.list ((rowsP n (j + 1)).map Rw))), some (.d (.list ((patsP (j + 1)).map Rw))), e9', e10], src⟩) (s2 := ⟨[some (.d (Nm n)), some (.d (Nm kk)), some (.d (.list ((wishL n (j + 1)).map wp))), some (.d (.list ((rowsP n j).map Rw))), some (.d (.list ((patsP j).map Rw))), some (.d d), e6'', some (.d (.list ((rowsP n (j + 1)).map Rw))), some (.d (.list ((patsP (j + 1)).map Rw))), e9', e10], src⟩) (x := .d (.list ((rowsP n (j + 1)).map Rw))) (y := .d (.list ((patsP (j + 1)).map Rw))) rfl rfl))))), some (.d d), e6'', some (.d (.list ((rowsP n (j + 1)).map Rw))), some (.d (.list ((patsP (j + 1)).map Rw))), e9', e10, rfl⟩)
  rw [List.length_map, List.length_range] at hfor
  refine run_env (n := 2) (nn := 11) (s' := ⟨[some (.d (Nm n)), some (.d (Nm kk)), some (.d (.list ((wishL n kk).map wp))), some (.d (.list ((rowsP n kk).map Rw))), some (.d (.list ((patsP kk).map Rw))), e5, e6, e7, e8, e9, e10], src⟩) rfl rfl ?_
  show b__law_wishes (fnAt T 200 k) ⟨[some (.d (Nm n)), some (.d (Nm kk)), none, none, none, none, none, none, none, none, none], src⟩ = _
  unfold b__law_wishes
  exact e_seq (spar3 (s1 := ⟨[some (.d (Nm n)), some (.d (Nm kk)), none, none, none, none, none, none, none, none, none], src⟩) (s2 := ⟨[some (.d (Nm n)), some (.d (Nm kk)), none, none, none, none, none, none, none, none, none], src⟩) (s3 := ⟨[some (.d (Nm n)), some (.d (Nm kk)), none, none, none, none, none, none, none, none, none], src⟩) (x := .d (.list [])) (y := .d (.list [.tuple []])) (z := .d (.list [.tuple []])) (cdisp (b := false) (xs := []) (ds := []) rfl rfl (by rw [sizeLine_eq]; simp)) (cdisp (b := false) (xs := [.d (.tuple [])]) (ds := [.tuple []]) (eargs (cdisp (b := true) (xs := []) (ds := []) rfl rfl (by rw [sizeLine_eq]; simp)) rfl) rfl (by rw [sizeLine_eq]; simp)) (cdisp (b := false) (xs := [.d (.tuple [])]) (ds := [.tuple []]) (eargs (cdisp (b := true) (xs := []) (ds := []) rfl rfl (by rw [sizeLine_eq]; simp)) rfl) rfl (by rw [sizeLine_eq]; simp))) (e_seq hfor (sret rfl))
end L56
namespace L56
open PySem PySem.Spec L2 Ev PyProof.Rows
theorem pair_map : ∀ (row : List Nat) (s : Nat), pairUp s (row.map Nm) = (List.range row.length).map fun i => .tuple [.int ((s + i : Nat) : Int), Nm (row.getD i 0)]
  | [], s => rfl
  | x :: row, s => by
    rw [List.map_cons, List.length_cons, List.range_succ_eq_map, List.map_cons, List.map_map]
    show PyData.tuple [.int (s : Int), Nm x] :: pairUp (s + 1) (row.map Nm) = _
    rw [pair_map row (s + 1)]
    congr 1
    refine List.map_congr_left fun i _ => ?_
    show PyData.tuple [.int ((s + 1 + i : Nat) : Int), Nm (row.getD i 0)] = .tuple [.int ((s + (i + 1) : Nat) : Int), Nm ((x :: row).getD (i + 1) 0)]
    rw [show s + (i + 1) = s + 1 + i by omega]
    rfl
def wr (P : Nat → Nat → Bool) (row pat : List Nat) (name i : Nat) : Bool := (name == row.getD i 0) || !(P name (row.getD i 0) == (pat.getD i 0 == 1))
theorem wr_met {P : Nat → Nat → Bool} {row pat : List Nat} {name : Nat} (hl : pat.length = row.length) : ((List.range row.length).filter (wr P row pat name)).isEmpty = met P row pat name := by
  rw [Bool.eq_iff_iff, List.isEmpty_iff, List.filter_eq_nil_iff]
  unfold met
  rw [Bool.and_eq_true, Bool.not_eq_true', List.all_eq_true]
  constructor
  · intro h
    constructor
    · rw [Bool.eq_false_iff]
      intro hc
      obtain ⟨i, hi⟩ := List.mem_iff_getElem?.mp (List.contains_iff_mem.mp hc)
      have hil := (List.getElem?_eq_some_iff.mp hi).1
      refine h i (List.mem_range.mpr hil) ?_
      unfold wr
      rw [List.getD_eq_getElem?_getD, hi]
      simp
    · intro p hp
      obtain ⟨i, hi⟩ := List.mem_iff_getElem?.mp hp
      obtain ⟨h1, h2⟩ := List.getElem?_zip_eq_some.mp hi
      have hil := (List.getElem?_eq_some_iff.mp h1).1
      have := h i (List.mem_range.mpr hil)
      unfold wr at this
      rw [List.getD_eq_getElem?_getD, List.getD_eq_getElem?_getD, h1, h2] at this
      simp at this
      simpa using this.2
  · rintro ⟨h1, h2⟩ i hi hw
    rw [List.mem_range] at hi
    have hip : i < pat.length := by omega
    have e1 : row[i]? = some row[i] := List.getElem?_eq_getElem hi
    have e2 : pat[i]? = some pat[i] := List.getElem?_eq_getElem hip
    unfold wr at hw
    rw [List.getD_eq_getElem?_getD, List.getD_eq_getElem?_getD, e1, e2, Bool.or_eq_true] at hw
    rcases hw with hw | hw
    · rw [Bool.eq_false_iff] at h1
      refine h1 (List.contains_iff_mem.mpr ?_)
      rw [beq_iff_eq.mp hw]
      exact List.getElem_mem hi
    · have := h2 (row[i], pat[i]) (List.mem_iff_getElem?.mpr ⟨i, List.getElem?_zip_eq_some.mpr ⟨e1, e2⟩⟩)
      have this : (P name row[i] == (pat[i] == 1)) = true := this
      have hw : (!(P name row[i] == (pat[i] == 1))) = true := hw
      rw [this] at hw
      cases hw
def gwr (P : Nat → Nat → Bool) (row pat : List Nat) (name : Nat) : PyData → Bool
  | .tuple [.int i, _] => wr P row pat name i.toNat
  | _ => false
def fst1 : PyData → PyData
  | .tuple [x, _] => x
  | _ => .none
theorem int_eq (a b : Nat) : ((a : Int) == (b : Int)) = (a == b) := by rw [Bool.eq_iff_iff, beq_iff_eq, beq_iff_eq]; omega
variable {n : Nat} {P : Nat → Nat → Bool}
theorem wrong_ok {F : Fn} (hn : n ≤ 100) {row pat : List Nat} {name : Nat} (hr : ∀ o ∈ row, o < n) (hx : name < n) (hl : row.length ≤ 100) (hp : pat.length = row.length) (c3 c5 c6 c7 : Option Vx) (src : Option Src) :
    (cLc [6, 7] (aTup 2 (aCons (aName 6) (aCons (aName 7) aNil))) (icEnum (.e (cVar false 1))) (bOr (bOf (cBin fEq (.e (cVar false 4)) (.e (cVar false 7)))) (bOf (cBin fNe (.e (cBin (fInD false) (.e (cDisp true [(cVar false 4), (cVar false 7)])) (.e (cBin fIxD (.e (cVar false 0)) (.e (cC (.int 2))))))) (.e (cBin fEq (.e (cBin fIxD (.e (cVar false 2)) (.e (cVar false 6)))) (.e (cC (.int 1)))))))) (cVar false 6)) F
      ⟨[some (.d (tw n P)), some (.d (Rw row)), some (.d (Rw pat)), c3, some (.d (Nm name)), c5, c6, c7], src⟩ = some (.d (.list (((List.range row.length).filter (wr P row pat name)).map Nm)), ⟨[some (.d (tw n P)), some (.d (Rw row)), some (.d (Rw pat)), c3, some (.d (Nm name)), c5, c6, c7], src⟩) := by
  have hm := clc_filt (own := [6, 7]) (as := (aTup 2 (aCons (aName 6) (aCons (aName 7) aNil)))) (ic := icEnum (.e (cVar false 1))) (t := (bOr (bOf (cBin fEq (.e (cVar false 4)) (.e (cVar false 7)))) (bOf (cBin fNe (.e (cBin (fInD false) (.e (cDisp true [(cVar false 4), (cVar false 7)])) (.e (cBin fIxD (.e (cVar false 0)) (.e (cC (.int 2))))))) (.e (cBin fEq (.e (cBin fIxD (.e (cVar false 2)) (.e (cVar false 6)))) (.e (cC (.int 1))))))))) (c := cVar false 6) (F := F)
    (ds := pairUp 0 (row.map Nm)) (E1 := [some (.d (tw n P)), some (.d (Rw row)), some (.d (Rw pat)), c3, some (.d (Nm name)), c5, c6, c7]) (src := src) (s := ⟨[some (.d (tw n P)), some (.d (Rw row)), some (.d (Rw pat)), c3, some (.d (Nm name)), c5, c6, c7], src⟩) rfl (by rw [pair_map, List.length_map, List.length_range, sizeLine_eq]; omega) (gwr P row pat name) fst1 (by
      intro d hd
      rw [pair_map] at hd
      obtain ⟨i, hi, rfl⟩ := List.mem_map.mp hd
      rw [List.mem_range] at hi
      rw [Nat.zero_add]
      have e1 : row.getD i 0 = row[i] := by rw [List.getD_eq_getElem?_getD, List.getElem?_eq_getElem hi]; rfl
      have ho : row.getD i 0 < n := by rw [e1]; exact hr _ (List.getElem_mem hi)
      generalize hro : row.getD i 0 = o at ho
      have hg : gwr P row pat name (.tuple [.int (i : Int), Nm o]) = ((name == o) || !(P name o == (pat.getD i 0 == 1))) := by
        show wr P row pat name (i : Int).toNat = _
        rw [Int.toNat_natCast]
        unfold wr
        rw [hro]
      rw [hg]
      obtain ⟨s, hs⟩ : ∃ s, s = (⟨[some (.d (tw n P)), some (.d (Rw row)), some (.d (Rw pat)), c3, some (.d (Nm name)), c5, some (.d (Nm i)), some (.d (Nm o))], src⟩ : S) := ⟨_, rfl⟩
      refine ⟨s, s, by rw [hs]; rfl, ?_, fun _ => by rw [hs]; exact ⟨rfl, rfl⟩, fun _ => ⟨[some (.d (tw n P)), some (.d (Rw row)), some (.d (Rw pat)), c3, some (.d (Nm name)), c5, some (.d (Nm i)), some (.d (Nm o))], by rw [hs]; rfl, rfl⟩⟩
      have h0 : s.env[0]? = some (some (.d (tw n P))) := by rw [hs]; rfl
      have h2 : s.env[2]? = some (some (.d (Rw pat))) := by rw [hs]; rfl
      have h4 : s.env[4]? = some (some (.d (Nm name))) := by rw [hs]; rfl
      have h6 : s.env[6]? = some (some (.d (Nm i))) := by rw [hs]; rfl
      have h7 : s.env[7]? = some (some (.d (Nm o))) := by rw [hs]; rfl
      have b1 := bof' (cbin (F := F) (vat h4) (vat h7) (feq_int _ _))
      rw [int_eq] at b1
      refine bor b1 fun _ => ?_
      have c0 : cDisp true [(cVar false 4), (cVar false 7)] F s = some (.d (pr (name, o)), s) := cdisp (b := true) (xs := [.d (Nm name), .d (Nm o)]) (eargs (vat h4) (eargs (vat h7) rfl)) rfl (by rw [sizeLine_eq]; simp)
      have c1 := cbin (F := F) c0 (cbin (b := cC (.int 2)) (f := fIxD) (y := .int 2) (z := .tuple ((canon n P).map pr)) (vat h0) rfl rfl) (inD_tw (P := P) hx ho)
      have hpi : i < pat.length := by omega
      have hat : fIxD (Rw pat) (Nm i) = some (Nm (pat.getD i 0)) := by
        refine Ev.atI_nat (l := pat.map Nm) ?_
        rw [List.getElem?_map, List.getElem?_eq_getElem hpi, List.getD_eq_getElem?_getD, List.getElem?_eq_getElem hpi]
        rfl
      have c2 := cbin (F := F) (b := cC (.int 1)) (y := .int ((1 : Nat) : Int)) (cbin (F := F) (vat h2) (vat h6) hat) rfl (feq_int _ _)
      rw [int_eq] at c2
      exact bof' (cbin c1 c2 (fne_bool' _ _)))
  have e : ((pairUp 0 (row.map Nm)).filter (gwr P row pat name)).map fst1 = ((List.range row.length).filter (wr P row pat name)).map Nm := by
    rw [pair_map, List.filter_map, List.map_map]
    have : (gwr P row pat name ∘ fun i : Nat => PyData.tuple [.int ((0 + i : Nat) : Int), Nm (row.getD i 0)]) = wr P row pat name := funext fun i => by
      show wr P row pat name (((0 + i : Nat) : Int)).toNat = _
      rw [Nat.zero_add, Int.toNat_natCast]
    rw [this]
    refine List.map_congr_left fun i _ => ?_
    show PyData.int ((0 + i : Nat) : Int) = _
    rw [Nat.zero_add]
  rw [e] at hm
  exact hm
theorem meets_ok (k : Nat) (hn : n ≤ 100) {row pat : List Nat} (hr : ∀ o ∈ row, o < n) (hl : row.length ≤ 100) (hp : pat.length = row.length) (src : Option Src) :
    (fnAt T 200 (k + 1)).call "_law_meets" [.d (tw n P), .d (Rw row), .d (Rw pat)] src = some (.d (.list ((meeting n P row pat).map Nm)), src) := by
  rw [fnAt_call (d := ⟨3, 8, b__law_meets⟩) rfl]
  obtain ⟨s', hfor, e4, e5, rfl⟩ := sfor_ind (as := aName 4) (ic := icRng1 (.e (cBin fIxD (.e (cVar false 0)) (.e (cC (.int 0)))))) (F := fnAt T 200 k) (b := (sSeq (sPar [5] [(cLc [6, 7] (aTup 2 (aCons (aName 6) (aCons (aName 7) aNil))) (icEnum (.e (cVar false 1))) (bOr (bOf (cBin fEq (.e (cVar false 4)) (.e (cVar false 7)))) (bOf (cBin fNe (.e (cBin (fInD false) (.e (cDisp true [(cVar false 4), (cVar false 7)])) (.e (cBin fIxD (.e (cVar false 0)) (.e (cC (.int 2))))))) (.e (cBin fEq (.e (cBin fIxD (.e (cVar false 2)) (.e (cVar false 6)))) (.e (cC (.int 1)))))))) (cVar false 6))])
    (sPar [3] [(cBin fAdd (.e (cVar false 3)) (.e (cBin fMul (.e (cDisp false [(cVar false 4)])) (.e (cNat fInt [(.e (cBin fEq (.e (cVar false 5)) (.e (cDisp false []))))])))))]))) (s := ⟨[some (.d (tw n P)), some (.d (Rw row)), some (.d (Rw pat)), some (.d (.list [])), none, none, none, none], src⟩) (ds := (List.range n).map Nm) (s0 := ⟨[some (.d (tw n P)), some (.d (Rw row)), some (.d (Rw pat)), some (.d (.list [])), none, none, none, none], src⟩) (ic_rng1 rfl (by omega))
    (fun j s => ∃ e4 e5, s = ⟨[some (.d (tw n P)), some (.d (Rw row)), some (.d (Rw pat)), some (.d (.list ((((List.range n).take j).filter (met P row pat)).map Nm))), e4, e5, none, none], src⟩) ⟨none, none, rfl⟩ (by
      rintro j d s hj ⟨e4, e5, rfl⟩
      rw [List.getElem?_map, Option.map_eq_some_iff] at hj
      obtain ⟨x, hx, rfl⟩ := hj
      have hxn := List.mem_range.mp (List.mem_of_getElem? hx)
      have hw := wrong_ok (F := fnAt T 200 k) hn (P := P) hr hxn hl hp (some (.d (.list ((((List.range n).take j).filter (met P row pat)).map Nm)))) e5 none none src
      have e1 : ((List.range n).take (j + 1)).filter (met P row pat) = ((List.range n).take j).filter (met P row pat) ++ (if met P row pat x then [x] else []) := by
        rw [List.take_add_one, hx, List.filter_append]
        congr 1
        show [x].filter (met P row pat) = _
        cases h : met P row pat x <;> simp [h]
      obtain ⟨s, hs⟩ : ∃ s, s = (⟨[some (.d (tw n P)), some (.d (Rw row)), some (.d (Rw pat)), some (.d (.list ((((List.range n).take j).filter (met P row pat)).map Nm))), some (.d (Nm x)), some (.d (.list (((List.range row.length).filter (wr P row pat x)).map Nm))), none, none], src⟩ : S) := ⟨_, rfl⟩
      have h3 : s.env[3]? = some (some (.d (.list ((((List.range n).take j).filter (met P row pat)).map Nm)))) := by rw [hs]; rfl
      have h4 : s.env[4]? = some (some (.d (Nm x))) := by rw [hs]; rfl
      have h5 : s.env[5]? = some (some (.d (.list (((List.range row.length).filter (wr P row pat x)).map Nm)))) := by rw [hs]; rfl
      have ce := cbin (F := fnAt T 200 k) (vat h5) (cdisp (s := s) (s1 := s) (cs := []) (F := fnAt T 200 k) (b := false) (xs := []) (ds := []) rfl rfl (by rw [sizeLine_eq]; simp)) (feq_nil _)
      rw [wr_met hp] at ce
      have cd : cDisp false [(cVar false 4)] (fnAt T 200 k) s = some (.d (.list [Nm x]), s) := cdisp (b := false) (eargs (vat h4) rfl) rfl (by rw [sizeLine_eq]; simp)
      have hle : (((List.range n).take j).filter (met P row pat)).length ≤ 100 := by
        refine Nat.le_trans (List.length_filter_le _ _) ?_
        rw [List.length_take, List.length_range]; omega
      have key : cBin fAdd (.e (cVar false 3)) (.e (cBin fMul (.e (cDisp false [(cVar false 4)])) (.e (cNat fInt [(.e (cBin fEq (.e (cVar false 5)) (.e (cDisp false []))))])))) (fnAt T 200 k) s = some (.d (.list ((((List.range n).take (j + 1)).filter (met P row pat)).map Nm)), s) := by
        rw [e1, List.map_append]
        cases hmet : met P row pat x with
        | true =>
          rw [hmet] at ce
          exact cbin (vat h3) (cbin (y := .int 1) cd (cnat1 ce rfl) rfl) (fadd_list (by rw [List.length_map]; exact Nat.le_trans (Nat.add_le_add_right hle _) (Nat.le_of_ble_eq_true rfl)))
        | false =>
          rw [hmet] at ce
          exact cbin (vat h3) (cbin (y := .int 0) cd (cnat1 ce rfl) rfl) (fadd_list (by rw [List.length_map]; exact Nat.le_trans (Nat.add_le_add_right hle _) (Nat.le_of_ble_eq_true rfl)))
      rw [hs] at key
      refine ⟨⟨[some (.d (tw n P)), some (.d (Rw row)), some (.d (Rw pat)), some (.d (.list ((((List.range n).take j).filter (met P row pat)).map Nm))), some (.d (Nm x)), e5, none, none], src⟩, _, rfl, e_seq (spar1 hw) (spar1 (x := .d (.list ((((List.range n).take (j + 1)).filter (met P row pat)).map Nm))) (s1 := ⟨[some (.d (tw n P)), some (.d (Rw row)), some (.d (Rw pat)), some (.d (.list ((((List.range n).take j).filter (met P row pat)).map Nm))), some (.d (Nm x)), some (.d (.list (((List.range row.length).filter (wr P row pat x)).map Nm))), none, none], src⟩) key), some (.d (Nm x)), some (.d (.list (((List.range row.length).filter (wr P row pat x)).map Nm))), rfl⟩)
  rw [show (List.range n).take ((List.range n).map Nm).length = List.range n by rw [List.length_map, List.take_length]] at hfor
  refine run_env (n := 3) (nn := 8) (s' := ⟨[some (.d (tw n P)), some (.d (Rw row)), some (.d (Rw pat)), some (.d (.list ((meeting n P row pat).map Nm))), e4, e5, none, none], src⟩) rfl rfl ?_
  show b__law_meets (fnAt T 200 k) ⟨[some (.d (tw n P)), some (.d (Rw row)), some (.d (Rw pat)), none, none, none, none, none], src⟩ = _
  unfold b__law_meets
  exact e_seq (spar1 (x := .d (.list [])) (cdisp (b := false) (xs := []) (ds := []) rfl rfl (by rw [sizeLine_eq]; simp))) (e_seq hfor (sret rfl))
theorem find_flat {α β γ : Type} (f : α → List β) (g : β → Option γ) : ∀ l : List α, (l.flatMap f).findSome? g = l.findSome? fun x => (f x).findSome? g
  | [] => rfl
  | x :: l => by
    rw [List.flatMap_cons, List.findSome?_append, List.findSome?_cons, find_flat f g l]
    cases (f x).findSome? g <;> rfl
theorem wishL_find (n kk : Nat) (P : Nat → Nat → Bool) : (wishL n kk).findSome? (fun p => misW n P p.1 p.2) = misP n P kk := by
  unfold wishL misP
  rw [find_flat]
  congr 1
  funext m
  rw [find_flat]
  congr 1
  funext row
  unfold wishR
  rw [find_map]
  rfl
theorem wish_mem {n kk : Nat} {p : List Nat × List Nat} (h : p ∈ wishL n kk) : (∀ o ∈ p.1, o < n) ∧ p.2.length = p.1.length ∧ p.1.length < kk := by
  obtain ⟨m, hm, h1⟩ := List.mem_flatMap.mp h
  obtain ⟨row, hrow, h2⟩ := List.mem_flatMap.mp h1
  obtain ⟨pat, hpat, rfl⟩ := List.mem_map.mp h2
  obtain ⟨a, b⟩ := rows_len n m row hrow
  have c := (pats_len m).2 pat hpat
  exact ⟨b, by show pat.length = row.length; omega, by show row.length < kk; have := List.mem_range.mp hm; omega⟩
def gv (n : Nat) (P : Nat → Nat → Bool) : PyData → Option Vx
  | .tuple [x, y] => (misW n P (rowOf x) (rowOf y)).map vP
  | _ => none
theorem law_missing_ok (k : Nat) (hn : n ≤ 100) {kk : Nat} (hk : kk ≤ 4) (hB : ∀ j, j ≤ kk → (rowsP n j).length ≤ 10000) (src : Option Src) :
    (fnAt T 200 (k + 2)).call "_law_missing" [.d (tw n P), .d (Nm kk)] src = some (.d (dP (misP n P kk)), src) := by
  rw [fnAt_call (d := ⟨2, 4, b__law_missing⟩) rfl]
  obtain ⟨s', hfor, e2, e3, rfl⟩ := sfor_find (as := (aTup 2 (aCons (aName 2) (aCons (aName 3) aNil)))) (ic := icAny (.e (cCall "_law_wishes" [(cBin fIxD (.e (cVar false 0)) (.e (cC (.int 0)))), (cVar false 1)]))) (F := fnAt T 200 (k + 1)) (b := (sIf (bOf (cBin fEq (.e (cCall "_law_meets" [(cVar false 0), (cVar false 2), (cVar false 3)])) (.e (cDisp false [])))) (sRet (cDisp true [(cVar false 2), (cVar false 3)])) sPass)) (s := ⟨[some (.d (tw n P)), some (.d (Nm kk)), none, none], src⟩) (ds := (wishL n kk).map wp) (s0 := ⟨[some (.d (tw n P)), some (.d (Nm kk)), none, none], src⟩)
    (ic_any (pcall (s := ⟨[some (.d (tw n P)), some (.d (Nm kk)), none, none], src⟩) (xs := [.d (Nm n), .d (Nm kk)]) rfl (wishes_ok k hn hk hB src)))
    (fun s => ∃ e2 e3, s = ⟨[some (.d (tw n P)), some (.d (Nm kk)), e2, e3], src⟩) ⟨none, none, rfl⟩ (gv n P) (by
      rintro d hd s ⟨e2, e3, rfl⟩
      obtain ⟨⟨row, pat⟩, hp, rfl⟩ := List.mem_map.mp hd
      obtain ⟨w1, w2, w3⟩ := wish_mem hp
      refine ⟨⟨[some (.d (tw n P)), some (.d (Nm kk)), some (.d (Rw row)), some (.d (Rw pat))], src⟩, ⟨[some (.d (tw n P)), some (.d (Nm kk)), some (.d (Rw row)), some (.d (Rw pat))], src⟩, rfl, ?_, some (.d (Rw row)), some (.d (Rw pat)), rfl⟩
      show _ = some (flOf ((misW n P (rowOf (Rw row)) (rowOf (Rw pat))).map vP), _)
      rw [rowOf_Rw, rowOf_Rw]
      have ht := bof' (cbin (F := fnAt T 200 (k + 1)) (pcall (s := ⟨[some (.d (tw n P)), some (.d (Nm kk)), some (.d (Rw row)), some (.d (Rw pat))], src⟩) (cs := [(cVar false 0), (cVar false 2), (cVar false 3)]) (xs := [.d (tw n P), .d (Rw row), .d (Rw pat)]) rfl (meets_ok k hn w1 (by show row.length ≤ 100; have : row.length < kk := w3; omega) w2 src)) (cdisp (cs := []) (b := false) (xs := []) (ds := []) rfl rfl (by rw [sizeLine_eq]; simp)) (feq_nil _))
      unfold misW
      cases hc : (meeting n P row pat).isEmpty with
      | true =>
        rw [hc] at ht
        rw [if_pos rfl]
        exact e_ifT ht (sret (x := .d (.tuple [Rw row, Rw pat])) (cdisp (b := true) (xs := [.d (Rw row), .d (Rw pat)]) rfl rfl (by rw [sizeLine_eq]; simp)))
      | false =>
        rw [hc] at ht
        rw [if_neg (by simp)]
        exact e_ifF ht rfl)
  rw [find_map] at hfor
  have hf : (gv n P ∘ wp) = fun p => (misW n P p.1 p.2).map vP := funext fun p => by
    show (misW n P (rowOf (Rw p.1)) (rowOf (Rw p.2))).map vP = _
    rw [rowOf_Rw, rowOf_Rw]
  rw [hf, find_vP, wishL_find] at hfor
  refine run_env (n := 2) (nn := 4) (s' := ⟨[some (.d (tw n P)), some (.d (Nm kk)), e2, e3], src⟩) rfl rfl ?_
  show b__law_missing (fnAt T 200 (k + 1)) ⟨[some (.d (tw n P)), some (.d (Nm kk)), none, none], src⟩ = _
  unfold b__law_missing
  refine e_fl hfor (fun h => ?_) (fun x h => ?_)
  · rw [Option.map_eq_none_iff] at h
    rw [h]
    rfl
  · rw [Option.map_eq_some_iff] at h
    obtain ⟨p, h1, rfl⟩ := h
    rw [h1]
    rfl
end L56
namespace L56
open PySem PySem.Spec L2 Ev PyProof.Rows
def tieP (ties : List (Nat × Nat)) (a b : Nat) : Bool := ties.contains (a, b) || ties.contains (b, a)
theorem tieP_ok {n : Nat} {ties : List (Nat × Nat)} (hn : ties.Nodup) (hl : ∀ p ∈ ties, p.1 < p.2 ∧ p.2 < n) : TieOk n (tieP ties) ties := ⟨hn, hl, fun a b _ _ => by
  unfold tieP
  rw [Bool.or_eq_true, List.contains_iff_mem, List.contains_iff_mem]⟩
def okT (n : Nat) (ties : List (Nat × Nat)) : Bool := decide ties.Nodup && ties.all fun p => decide (p.1 < p.2) && decide (p.2 < n)
theorem okT_ok {n : Nat} {ties : List (Nat × Nat)} (h : okT n ties = true) : TieOk n (tieP ties) ties := by
  unfold okT at h
  rw [Bool.and_eq_true, decide_eq_true_eq, List.all_eq_true] at h
  exact tieP_ok h.1 fun p hp => by
    have := h.2 p hp
    simpa using this
def T4 : List (Nat × Nat) := [(0, 1), (1, 2), (2, 3), (0, 3)]
def T9 : List (Nat × Nat) := (List.range 9).flatMap fun a => ((List.range (9 - (a + 1))).filter fun k => (a / 3 == (a + 1 + k) / 3) || (a % 3 == (a + 1 + k) % 3)).map fun k => (a, a + 1 + k)
def allT (n : Nat) : List (List (Nat × Nat)) := ((List.range n).flatMap fun a => (List.range (n - (a + 1))).map fun k => (a, a + 1 + k)).foldl (fun found p => found ++ found.map fun t => t ++ [p]) [[]]
theorem wish9 (F : Fn) (src : Option Src) : sFor (aName 2) (icRng1 (.e (cC (.int 9)))) (sPar [1] [(cBin fAdd (.e (cVar false 1)) (.e (cLc [3] (aName 3) (icRng2 (.e (cBin fAdd (.e (cVar false 2)) (.e (cC (.int 1))))) (.e (cC (.int 9)))) (bOr (bOf (cBin fEq (.e (cBin fDiv (.e (cVar false 2)) (.e (cC (.int 3))))) (.e (cBin fDiv (.e (cVar false 3)) (.e (cC (.int 3))))))) (bOf (cBin fEq (.e (cBin fMod (.e (cVar false 2)) (.e (cC (.int 3))))) (.e (cBin fMod (.e (cVar false 3)) (.e (cC (.int 3)))))))) (cDisp true [(cVar false 2), (cVar false 3)]))))]) F ⟨[some (.d (.int 3)), some (.d (.list [])), none, none], src⟩ = some (.nx, ⟨[some (.d (.int 3)), some (.d (.list (T9.map pr))), some (.d (.int 8)), none], src⟩) := by kernel_rfl
theorem square9 (F : Fn) (src : Option Src) : sFor (aName 1) (icRng1 (.e (cC (.int 9)))) (sPar [0] [(cBin fAdd (.e (cVar false 0)) (.e (cLc [2] (aName 2) (icRng2 (.e (cBin fAdd (.e (cVar false 1)) (.e (cC (.int 1))))) (.e (cC (.int 9)))) (bOr (bOf (cBin fEq (.e (cBin fDiv (.e (cVar false 1)) (.e (cC (.int 3))))) (.e (cBin fDiv (.e (cVar false 2)) (.e (cC (.int 3))))))) (bOf (cBin fEq (.e (cBin fMod (.e (cNat fInt [(.e (cBin fSub (.e (cVar false 2)) (.e (cVar false 1))))])) (.e (cC (.int 3))))) (.e (cC (.int 0)))))) (cDisp true [(cVar false 1), (cVar false 2)]))))]) F ⟨[some (.d (.list [])), none, none], src⟩ = some (.nx, ⟨[some (.d (.list (T9.map pr))), some (.d (.int 8)), none], src⟩) := by kernel_rfl
theorem ok4 : okT 4 T4 = true := by decide +kernel
theorem ok9 : okT 9 T9 = true := by decide +kernel
theorem ok1 : okT 1 [] = true := by decide +kernel
theorem okA2 : ((allT 2).all (okT 2)) = true := by decide +kernel
theorem okA3 : ((allT 3).all (okT 3)) = true := by decide +kernel
theorem okA4 : ((allT 4).all (okT 4)) = true := by decide +kernel
end L56
namespace L56
open PySem PySem.Spec L2 Ev PyProof.Rows
def someL (n : Nat) (P : Nat → Nat → Bool) (name : Nat) (tied : Bool) : List Nat := (List.range n).filter fun x => !(x == name) && (P name x == tied)
def partT (n : Nat) (P : Nat → Nat → Bool) (nm : List Nat) : List (Nat × Nat) := ((canon n P).filter fun p => decide (p.1 < p.2) && (nm.contains p.1 && nm.contains p.2)).map fun p => (nm.idxOf p.1, nm.idxOf p.2)
def ordD (nm : List Nat) : List (PyData × PyData) := (List.range nm.length).map fun i => (Nm (nm.getD i 0), Nm i)
def partB : CS := (sSeq (sPar [2] [(cNat fDict [(.e (cLc [4, 5] (aTup 2 (aCons (aName 4) (aCons (aName 5) aNil))) (icEnum (.e (cVar false 1))) bYes (cDisp true [(cVar false 5), (cVar false 4)])))])]) (sPar [3] [(cLc [6, 7] (aTup 2 (aCons (aName 6) (aCons (aName 7) aNil))) (icAny (.e (cBin fIxD (.e (cVar false 0)) (.e (cC (.int 2)))))) (bAnd (bOf (cBin fLt (.e (cVar false 6)) (.e (cVar false 7)))) (bAnd (bOf (cBin (fInD false) (.e (cVar false 6)) (.e (cVar false 2)))) (bOf (cBin (fInD false) (.e (cVar false 7)) (.e (cVar false 2)))))) (cDisp true [(cBin fIxD (.e (cVar false 2)) (.e (cVar false 6))), (cBin fIxD (.e (cVar false 2)) (.e (cVar false 7)))]))]))
def PartOk (n : Nat) (P : Nat → Nat → Bool) (nm : List Nat) : Prop := ∀ (F : Fn) (src : Option Src), partB F ⟨[some (.d (tw n P)), some (.d (.list (nm.map Nm))), none, none, none, none, none, none], src⟩ = some (.nx, ⟨[some (.d (tw n P)), some (.d (.list (nm.map Nm))), some (.d (.dict (ordD nm))), some (.d (.list ((partT n P nm).map pr))), none, none, none, none], src⟩)
theorem part9_0t : PartOk 9 (tieP T9) (someL 9 (tieP T9) 0 true) := fun F src => by kernel_rfl
theorem part13_0t : PartOk 13 (pal 13) (someL 13 (pal 13) 0 true) := fun F src => by kernel_rfl
theorem all4 (F : Fn) (src : Option Src) : (sFor (aName 2) (icRng1 (.e (cVar false 0))) (sFor (aName 3) (icRng2 (.e (cBin fAdd (.e (cVar false 2)) (.e (cC (.int 1))))) (.e (cVar false 0))) (sPar [1] [(cBin fAdd (.e (cVar false 1)) (.e (cLc [4] (aName 4) (icAny (.e (cVar false 1))) bYes (cBin fAdd (.e (cVar false 4)) (.e (cDisp false [(cDisp true [(cVar false 2), (cVar false 3)])]))))))]))) F ⟨[some (.d (Nm 4)), some (.d (.list [.list []])), none, none, none], src⟩ = some (.nx, ⟨[some (.d (Nm 4)), some (.d (.list ((allT 4).map fun t => .list (t.map pr)))), some (.d (Nm 3)), some (.d (Nm 3)), none], src⟩) := by kernel_rfl
theorem all3 (F : Fn) (src : Option Src) : (sFor (aName 2) (icRng1 (.e (cVar false 0))) (sFor (aName 3) (icRng2 (.e (cBin fAdd (.e (cVar false 2)) (.e (cC (.int 1))))) (.e (cVar false 0))) (sPar [1] [(cBin fAdd (.e (cVar false 1)) (.e (cLc [4] (aName 4) (icAny (.e (cVar false 1))) bYes (cBin fAdd (.e (cVar false 4)) (.e (cDisp false [(cDisp true [(cVar false 2), (cVar false 3)])]))))))]))) F ⟨[some (.d (Nm 3)), some (.d (.list [.list []])), none, none, none], src⟩ = some (.nx, ⟨[some (.d (Nm 3)), some (.d (.list ((allT 3).map fun t => .list (t.map pr)))), some (.d (Nm 2)), some (.d (Nm 2)), none], src⟩) := by kernel_rfl
theorem all2 (F : Fn) (src : Option Src) : (sFor (aName 2) (icRng1 (.e (cVar false 0))) (sFor (aName 3) (icRng2 (.e (cBin fAdd (.e (cVar false 2)) (.e (cC (.int 1))))) (.e (cVar false 0))) (sPar [1] [(cBin fAdd (.e (cVar false 1)) (.e (cLc [4] (aName 4) (icAny (.e (cVar false 1))) bYes (cBin fAdd (.e (cVar false 4)) (.e (cDisp false [(cDisp true [(cVar false 2), (cVar false 3)])]))))))]))) F ⟨[some (.d (Nm 2)), some (.d (.list [.list []])), none, none, none], src⟩ = some (.nx, ⟨[some (.d (Nm 2)), some (.d (.list ((allT 2).map fun t => .list (t.map pr)))), some (.d (Nm 1)), some (.d (Nm 1)), none], src⟩) := by kernel_rfl
theorem misA2 : ((allT 2).all fun t => (misP 2 (tieP t) 2).isSome) = true := by decide +kernel
theorem misA3 : ((allT 3).all fun t => (misP 3 (tieP t) 2).isSome) = true := by decide +kernel
theorem mis1 : (misP 1 (tieP []) 1).isNone = true := by decide +kernel
theorem mis4 : (misP 4 (tieP T4) 2).isNone = true := by decide +kernel
theorem mis9 : (misP 9 (tieP T9) 3).isNone = true := by decide +kernel
end L56
namespace L56
open PySem PySem.Spec L2 Ev PyProof.Rows
theorem parts9 : ∀ name, name < 9 → ∀ tied, PartOk 9 (tieP T9) (someL 9 (tieP T9) name tied)
  | 0, _, true => fun F src => by kernel_rfl
  | 0, _, false => fun F src => by kernel_rfl
  | 1, _, true => fun F src => by kernel_rfl
  | 1, _, false => fun F src => by kernel_rfl
  | 2, _, true => fun F src => by kernel_rfl
  | 2, _, false => fun F src => by kernel_rfl
  | 3, _, true => fun F src => by kernel_rfl
  | 3, _, false => fun F src => by kernel_rfl
  | 4, _, true => fun F src => by kernel_rfl
  | 4, _, false => fun F src => by kernel_rfl
  | 5, _, true => fun F src => by kernel_rfl
  | 5, _, false => fun F src => by kernel_rfl
  | 6, _, true => fun F src => by kernel_rfl
  | 6, _, false => fun F src => by kernel_rfl
  | 7, _, true => fun F src => by kernel_rfl
  | 7, _, false => fun F src => by kernel_rfl
  | 8, _, true => fun F src => by kernel_rfl
  | 8, _, false => fun F src => by kernel_rfl
  | name + 9, h, _ => by omega
def chkP9 (name : Nat) (tied : Bool) : Bool := okT (someL 9 (tieP T9) name tied).length (partT 9 (tieP T9) (someL 9 (tieP T9) name tied)) && ((misP (someL 9 (tieP T9) name tied).length (tieP (partT 9 (tieP T9) (someL 9 (tieP T9) name tied))) 2).isNone && decide (4 ≤ (someL 9 (tieP T9) name tied).length))
theorem chk9 : ((List.range 9).all fun name => chkP9 name true && chkP9 name false) = true := by decide +kernel
theorem parts13 : ∀ name, name < 13 → ∀ tied, PartOk 13 (pal 13) (someL 13 (pal 13) name tied)
  | 0, _, true => fun F src => by kernel_rfl
  | 0, _, false => fun F src => by kernel_rfl
  | 1, _, true => fun F src => by kernel_rfl
  | 1, _, false => fun F src => by kernel_rfl
  | 2, _, true => fun F src => by kernel_rfl
  | 2, _, false => fun F src => by kernel_rfl
  | 3, _, true => fun F src => by kernel_rfl
  | 3, _, false => fun F src => by kernel_rfl
  | 4, _, true => fun F src => by kernel_rfl
  | 4, _, false => fun F src => by kernel_rfl
  | 5, _, true => fun F src => by kernel_rfl
  | 5, _, false => fun F src => by kernel_rfl
  | 6, _, true => fun F src => by kernel_rfl
  | 6, _, false => fun F src => by kernel_rfl
  | 7, _, true => fun F src => by kernel_rfl
  | 7, _, false => fun F src => by kernel_rfl
  | 8, _, true => fun F src => by kernel_rfl
  | 8, _, false => fun F src => by kernel_rfl
  | 9, _, true => fun F src => by kernel_rfl
  | 9, _, false => fun F src => by kernel_rfl
  | 10, _, true => fun F src => by kernel_rfl
  | 10, _, false => fun F src => by kernel_rfl
  | 11, _, true => fun F src => by kernel_rfl
  | 11, _, false => fun F src => by kernel_rfl
  | 12, _, true => fun F src => by kernel_rfl
  | 12, _, false => fun F src => by kernel_rfl
  | name + 13, h, _ => by omega
def chkP13 (name : Nat) (tied : Bool) : Bool := okT (someL 13 (pal 13) name tied).length (partT 13 (pal 13) (someL 13 (pal 13) name tied)) && ((misP (someL 13 (pal 13) name tied).length (tieP (partT 13 (pal 13) (someL 13 (pal 13) name tied))) 2).isNone && decide (4 ≤ (someL 13 (pal 13) name tied).length))
theorem chk13 : ((List.range 13).all fun name => chkP13 name true && chkP13 name false) = true := by decide +kernel
end L56
namespace L56
open PySem PySem.Spec L2 Ev PyProof.Rows
theorem wished1 (k : Nat) (src : Option Src) : (fnAt T 200 (k + 2)).call "wished_web" [.d (.int 1)] src = some (.d (tw 1 (tieP [])), src) := by
  rw [fnAt_call (d := ⟨1, 4, b_wished_web⟩) rfl]
  refine run_env (n := 1) (nn := 4) (s' := ⟨[some (.d (.int 1)), none, none, none], src⟩) rfl rfl ?_
  show b_wished_web (fnAt T 200 (k + 1)) ⟨[some (.d (.int 1)), none, none, none], src⟩ = _
  unfold b_wished_web
  exact e_ret (e_ifT rfl (sret (pcall (s := ⟨[some (.d (.int 1)), none, none, none], src⟩) (xs := [.d (Nm 1), .d (.list (([] : List (Nat × Nat)).map pr))]) rfl (web_of_ties_ok k (by decide) (okT_ok ok1) (by decide) src))))
theorem wished2 (k : Nat) (src : Option Src) : (fnAt T 200 (k + 2)).call "wished_web" [.d (.int 2)] src = some (.d (tw 4 (tieP T4)), src) := by
  rw [fnAt_call (d := ⟨1, 4, b_wished_web⟩) rfl]
  refine run_env (n := 1) (nn := 4) (s' := ⟨[some (.d (.int 2)), none, none, none], src⟩) rfl rfl ?_
  show b_wished_web (fnAt T 200 (k + 1)) ⟨[some (.d (.int 2)), none, none, none], src⟩ = _
  unfold b_wished_web
  exact e_seq (e_ifF rfl rfl) (e_ret (e_ifT rfl (sret (pcall (s := ⟨[some (.d (.int 2)), none, none, none], src⟩) (xs := [.d (Nm 4), .d (.list (T4.map pr))]) rfl (web_of_ties_ok k (by decide) (okT_ok ok4) (by decide) src)))))
theorem T9_len : T9.length ≤ 1000 := by decide +kernel
theorem wished3 (k : Nat) (src : Option Src) : (fnAt T 200 (k + 2)).call "wished_web" [.d (.int 3)] src = some (.d (tw 9 (tieP T9)), src) := by
  rw [fnAt_call (d := ⟨1, 4, b_wished_web⟩) rfl]
  refine run_env (n := 1) (nn := 4) (s' := ⟨[some (.d (.int 3)), some (.d (.list (T9.map pr))), some (.d (.int 8)), none], src⟩) rfl rfl ?_
  show b_wished_web (fnAt T 200 (k + 1)) ⟨[some (.d (.int 3)), none, none, none], src⟩ = _
  unfold b_wished_web
  exact e_seq (e_ifF rfl rfl) (e_seq (e_ifF rfl rfl) (e_seq (spar1 (x := .d (.list [])) (cdisp (b := false) (xs := []) (ds := []) rfl rfl (by rw [sizeLine_eq]; simp))) (e_seq (wish9 _ src) (sret (pcall (s := ⟨[some (.d (.int 3)), some (.d (.list (T9.map pr))), some (.d (.int 8)), none], src⟩) (xs := [.d (Nm 9), .d (.list (T9.map pr))]) rfl (web_of_ties_ok k (by decide) (okT_ok ok9) T9_len src))))))
theorem square_ok (k : Nat) (src : Option Src) : (fnAt T 200 (k + 2)).call "_law_square" [] src = some (.d (tw 9 (tieP T9)), src) := by
  rw [fnAt_call (d := ⟨0, 3, b__law_square⟩) rfl]
  refine run_env (n := 0) (nn := 3) (s' := ⟨[some (.d (.list (T9.map pr))), some (.d (.int 8)), none], src⟩) rfl rfl ?_
  show b__law_square (fnAt T 200 (k + 1)) ⟨[none, none, none], src⟩ = _
  unfold b__law_square
  exact e_seq (spar1 (x := .d (.list [])) (cdisp (b := false) (xs := []) (ds := []) rfl rfl (by rw [sizeLine_eq]; simp))) (e_seq (square9 _ src) (sret (pcall (s := ⟨[some (.d (.list (T9.map pr))), some (.d (.int 8)), none], src⟩) (xs := [.d (Nm 9), .d (.list (T9.map pr))]) rfl (law_of_ties_ok k (by decide) (okT_ok ok9) T9_len src))))
def webs (n : Nat) : List PyData := (allT n).map fun t => tw n (tieP t)
def prOf : PyData → Nat × Nat
  | .tuple [.int a, .int b] => (a.toNat, b.toNat)
  | _ => (0, 0)
def tiesOf : PyData → List (Nat × Nat)
  | .list l => l.map prOf
  | _ => []
theorem tiesOf_pr (t : List (Nat × Nat)) : tiesOf (.list (t.map pr)) = t := by
  show (t.map pr).map prOf = t
  rw [List.map_map]
  refine (List.map_congr_left fun p _ => ?_).trans (List.map_id _)
  show ((p.1 : Int).toNat, (p.2 : Int).toNat) = p
  rw [Int.toNat_natCast, Int.toNat_natCast]
theorem webs_ok (k : Nat) {n a b : Nat} (hn : n ≤ 1000) (hl : (allT n).length ≤ 1000) (hok : (allT n).all (okT n) = true) (htl : (allT n).all (fun t => decide (t.length ≤ 1000)) = true) (src : Option Src)
    (hev : sFor (aName 2) (icRng1 (.e (cVar false 0))) (sFor (aName 3) (icRng2 (.e (cBin fAdd (.e (cVar false 2)) (.e (cC (.int 1))))) (.e (cVar false 0))) (sPar [1] [(cBin fAdd (.e (cVar false 1)) (.e (cLc [4] (aName 4) (icAny (.e (cVar false 1))) bYes (cBin fAdd (.e (cVar false 4)) (.e (cDisp false [(cDisp true [(cVar false 2), (cVar false 3)])]))))))])) (fnAt T 200 (k + 1)) ⟨[some (.d (Nm n)), some (.d (.list [.list []])), none, none, none], src⟩ = some (.nx, ⟨[some (.d (Nm n)), some (.d (.list ((allT n).map fun t => .list (t.map pr)))), some (.d (Nm a)), some (.d (Nm b)), none], src⟩)) :
    (fnAt T 200 (k + 2)).call "_law_all_tie_webs" [.d (Nm n)] src = some (.d (.list (webs n)), src) := by
  rw [fnAt_call (d := ⟨1, 5, b__law_all_tie_webs⟩) rfl]
  refine run_env (n := 1) (nn := 5) (s' := ⟨[some (.d (Nm n)), some (.d (.list ((allT n).map fun t => .list (t.map pr)))), some (.d (Nm a)), some (.d (Nm b)), none], src⟩) rfl rfl ?_
  show b__law_all_tie_webs (fnAt T 200 (k + 1)) ⟨[some (.d (Nm n)), none, none, none, none], src⟩ = _
  unfold b__law_all_tie_webs
  rw [List.all_eq_true] at hok htl
  have hm := clc_map (own := [4]) (as := aName 4) (ic := icAny (.e (cVar false 1))) (c := cCall "_law_of_ties" [(cVar false 0), (cVar false 4)]) (F := fnAt T 200 (k + 1)) (ds := (allT n).map fun t => .list (t.map pr)) (E1 := [some (.d (Nm n)), some (.d (.list ((allT n).map fun t => .list (t.map pr)))), some (.d (Nm a)), some (.d (Nm b)), none]) (src := src) (s := ⟨[some (.d (Nm n)), some (.d (.list ((allT n).map fun t => .list (t.map pr)))), some (.d (Nm a)), some (.d (Nm b)), none], src⟩) (ic_any rfl) (by rw [List.length_map, sizeLine_eq]; omega) (fun d => tw n (tieP (tiesOf d))) (by
    intro d hd
    obtain ⟨t, ht, rfl⟩ := List.mem_map.mp hd
    refine ⟨⟨[some (.d (Nm n)), some (.d (.list ((allT n).map fun t => .list (t.map pr)))), some (.d (Nm a)), some (.d (Nm b)), some (.d (.list (t.map pr)))], src⟩, [some (.d (Nm n)), some (.d (.list ((allT n).map fun t => .list (t.map pr)))), some (.d (Nm a)), some (.d (Nm b)), some (.d (.list (t.map pr)))], rfl, ?_, rfl⟩
    rw [tiesOf_pr]
    exact pcall (s := ⟨[some (.d (Nm n)), some (.d (.list ((allT n).map fun t => .list (t.map pr)))), some (.d (Nm a)), some (.d (Nm b)), some (.d (.list (t.map pr)))], src⟩) (cs := [(cVar false 0), (cVar false 4)]) (xs := [.d (Nm n), .d (.list (t.map pr))]) rfl (law_of_ties_ok k hn (okT_ok (hok t ht)) (by have := htl t ht; simpa using this) src))
  have e : ((allT n).map fun t => PyData.list (t.map pr)).map (fun d => tw n (tieP (tiesOf d))) = webs n := by
    unfold webs
    rw [List.map_map]
    refine List.map_congr_left fun t _ => ?_
    show tw n (tieP (tiesOf (.list (t.map pr)))) = _
    rw [tiesOf_pr]
  rw [e] at hm
  exact e_seq (spar1 (x := .d (.list [.list []])) (s1 := ⟨[some (.d (Nm n)), none, none, none, none], src⟩) (cdisp (b := false) (xs := [.d (.list [])]) (ds := [.list []]) (eargs (cdisp (b := false) (xs := []) (ds := []) rfl rfl (by rw [sizeLine_eq]; simp)) rfl) rfl (by rw [sizeLine_eq]; simp))) (e_seq hev (sret hm))
theorem webs2 (k : Nat) (src : Option Src) : (fnAt T 200 (k + 2)).call "_law_all_tie_webs" [.d (Nm 2)] src = some (.d (.list (webs 2)), src) := webs_ok k (by decide) (by decide +kernel) okA2 (by decide +kernel) src (L56.all2 _ src)
theorem webs3 (k : Nat) (src : Option Src) : (fnAt T 200 (k + 2)).call "_law_all_tie_webs" [.d (Nm 3)] src = some (.d (.list (webs 3)), src) := webs_ok k (by decide) (by decide +kernel) okA3 (by decide +kernel) src (L56.all3 _ src)
theorem webs4 (k : Nat) (src : Option Src) : (fnAt T 200 (k + 2)).call "_law_all_tie_webs" [.d (Nm 4)] src = some (.d (.list (webs 4)), src) := webs_ok k (by decide) (by decide +kernel) okA4 (by decide +kernel) src (L56.all4 _ src)
theorem part_ok (k : Nat) {n : Nat} {P : Nat → Nat → Bool} {nm : List Nat} (h : PartOk n P nm) (hl : nm.length ≤ 1000) (ht : okT nm.length (partT n P nm) = true) (htl : (partT n P nm).length ≤ 1000) (src : Option Src) :
    (fnAt T 200 (k + 2)).call "_law_part" [.d (tw n P), .d (.list (nm.map Nm))] src = some (.d (tw nm.length (tieP (partT n P nm))), src) := by
  rw [fnAt_call (d := ⟨2, 8, b__law_part⟩) rfl]
  refine run_env (n := 2) (nn := 8) (s' := ⟨[some (.d (tw n P)), some (.d (.list (nm.map Nm))), some (.d (.dict (ordD nm))), some (.d (.list ((partT n P nm).map pr))), none, none, none, none], src⟩) rfl rfl ?_
  show b__law_part (fnAt T 200 (k + 1)) ⟨[some (.d (tw n P)), some (.d (.list (nm.map Nm))), none, none, none, none, none, none], src⟩ = _
  have h := h (fnAt T 200 (k + 1)) src
  unfold partB at h
  unfold b__law_part
  have assoc : ∀ (a b c : CS) (F : Fn) (s : S), sSeq a (sSeq b c) F s = sSeq (sSeq a b) c F s := fun a b c F s => by
    unfold sSeq
    cases a F s with
    | none => rfl
    | some p =>
      obtain ⟨f, s1⟩ := p
      cases f <;> rfl
  rw [assoc]
  refine e_seq h (sret (pcall (s := ⟨[some (.d (tw n P)), some (.d (.list (nm.map Nm))), some (.d (.dict (ordD nm))), some (.d (.list ((partT n P nm).map pr))), none, none, none, none], src⟩) (xs := [.d (Nm nm.length), .d (.list ((partT n P nm).map pr))]) ?_ (law_of_ties_ok k hl (okT_ok ht) htl src)))
  refine eargs (x := .d (Nm nm.length)) (cnat1 (x := .list (nm.map Nm)) rfl ?_) rfl
  show some (PyData.int ((nm.map Nm).length : Int)) = _
  rw [List.length_map]
end L56
namespace L56
open PySem PySem.Spec L2 Ev PyProof.Rows
section
variable {as : PyData → S → Option S} {own : List Nat} {t : CB} {c : CE} {F : Fn} {ic : IC}
theorem lc_sub (E : List (Option Vx)) (R : Option Src → Prop) (f : PyData → PyData) : ∀ (ds : List PyData) (src : Option Src), R src →
    (∀ d ∈ ds, ∀ src, R src → ∃ s1 b E2 src2, as d ⟨E, src⟩ = some s1 ∧ t F s1 = some (b, ⟨E2, src2⟩) ∧ R src2 ∧ wipeE E2 own = E ∧ (b = true → ∃ E', c F ⟨E2, src2⟩ = some (.d (f d), ⟨E', src2⟩) ∧ wipeE E' own = E)) →
    ∀ E0, wipeE E0 own = E → ∃ ys E2 src2, lcL as own t c F ds ⟨E0, src⟩ = some (ys, ⟨E2, src2⟩) ∧ wipeE E2 own = E ∧ R src2 ∧ ys.Sublist (ds.map f)
  | [], src, h, _, E0, he => ⟨[], E0, src, rfl, he, h, .slnil⟩
  | d :: ds, src, h, st, E0, he => by
    obtain ⟨s1, b, E2, src2, h1, h2, h3, h4, h5⟩ := st d List.mem_cons_self src h
    have hw : wipeS own ⟨E0, src⟩ = ⟨E, src⟩ := by unfold wipeS; rw [he]
    cases b with
    | false =>
      obtain ⟨ys, E3, src3, g1, g2, g3, g4⟩ := lc_sub E R f ds src2 h3 (fun d' hd => st d' (List.mem_cons_of_mem _ hd)) E2 h4
      refine ⟨ys, E3, src3, ?_, g2, g3, .cons _ g4⟩
      unfold lcL
      simp only [hw, h1, h2]
      exact g1
    | true =>
      obtain ⟨E', h6, h7⟩ := h5 rfl
      obtain ⟨ys, E3, src3, g1, g2, g3, g4⟩ := lc_sub E R f ds src2 h3 (fun d' hd => st d' (List.mem_cons_of_mem _ hd)) E' h7
      refine ⟨f d :: ys, E3, src3, ?_, g2, g3, .cons₂ _ g4⟩
      exact lcL_cons (s1 := s1) (by rw [hw]; exact h1) h2 h6 g1
theorem clc_sub {ds : List PyData} {E1 : List (Option Vx)} {src : Option Src} {s : S} (hic : ic F s = some (ds, ⟨E1, src⟩, [])) (hl : ds.length ≤ sizeLine) (R : Option Src → Prop) (f : PyData → PyData) (h0 : R src)
    (st : ∀ d ∈ ds, ∀ src, R src → ∃ s1 b E2 src2, as d ⟨wipeE E1 own, src⟩ = some s1 ∧ t F s1 = some (b, ⟨E2, src2⟩) ∧ R src2 ∧ wipeE E2 own = wipeE E1 own ∧ (b = true → ∃ E', c F ⟨E2, src2⟩ = some (.d (f d), ⟨E', src2⟩) ∧ wipeE E' own = wipeE E1 own)) :
    ∃ ys src2, cLc own as ic t c F s = some (.d (.list ys), ⟨E1, src2⟩) ∧ R src2 ∧ ys.Sublist (ds.map f) := by
  obtain ⟨ys, E2, src2, g1, g2, g3, g4⟩ := lc_sub (as := as) (own := own) (t := t) (c := c) (F := F) (wipeE E1 own) R f ds src h0 st E1 rfl
  refine ⟨ys, src2, ?_, g3, g4⟩
  rw [clc_of hic hl g1]
  unfold unwipeS wipeS
  simp only [g2, unwipe_wipe]
end
theorem tie_web_ok (k : Nat) (x : Src) (hx : x.cells.length ≤ 63) : ∃ n ties x', (fnAt T 200 (k + 2)).call "_law_tie_web" [.src, .d (.int 5), .d (.int 8)] (some x) = some (.d (tw n (tieP ties)), some x') ∧ x'.cells.length ≤ 63 ∧ n ≤ 8 ∧ TieOk n (tieP ties) ties := by
  obtain ⟨r1, x1, e1, hx1, a0, a1⟩ := pick_ok k x hx 4 (by decide)
  obtain ⟨r2, x2, e2, hx2, b0, b1⟩ := pick_ok k x1 hx1 4 (by decide)
  obtain ⟨n, hn⟩ : ∃ n : Nat, 5 + r1 = (n : Int) := ⟨(5 + r1).toNat, by omega⟩
  obtain ⟨sh, hsh⟩ : ∃ n : Nat, 1 + r2 = (n : Int) := ⟨(1 + r2).toNat, by omega⟩
  have hn8 : n ≤ 8 := by omega
  obtain ⟨s', hfor, f6, ties, x', rfl, hx', hpw, hlt, hlen⟩ := sfor_ind (as := aName 6) (ic := icRng1 (.e (cVar false 3))) (F := fnAt T 200 (k + 1)) (b := (sPar [5] [(cBin fAdd (.e (cVar false 5)) (.e (cLc [7] (aName 7) (icRng2 (.e (cBin fAdd (.e (cVar false 6)) (.e (cC (.int 1))))) (.e (cVar false 3))) (bOf (cBin fLt (.e (cCall "_law_pick" [(cVar false 0), (cC (.int 5))])) (.e (cVar false 4)))) (cDisp true [(cVar false 6), (cVar false 7)]))))])) (s := ⟨[some .src, some (.d (.int 5)), some (.d (.int 8)), some (.d (Nm n)), some (.d (Nm sh)), some (.d (.list [])), none, none], some x2⟩) (ds := (List.range n).map Nm) (s0 := ⟨[some .src, some (.d (.int 5)), some (.d (.int 8)), some (.d (Nm n)), some (.d (Nm sh)), some (.d (.list [])), none, none], some x2⟩) (ic_rng1 rfl (by omega))
    (fun j s => ∃ f6, ∃ ties : List (Nat × Nat), ∃ x', s = ⟨[some .src, some (.d (.int 5)), some (.d (.int 8)), some (.d (Nm n)), some (.d (Nm sh)), some (.d (.list (ties.map pr))), f6, none], some x'⟩ ∧ x'.cells.length ≤ 63 ∧ ties.Pairwise lx ∧ (∀ p ∈ ties, p.1 < j ∧ p.1 < p.2 ∧ p.2 < n) ∧ ties.length ≤ 8 * j) ⟨none, [], x2, rfl, hx2, .nil, (by intro p hp; cases hp), Nat.le_refl _⟩ (by
      rintro j d s hj ⟨f6, ties, x', rfl, hx', hpw, hlt, hlen⟩
      rw [List.getElem?_map, Option.map_eq_some_iff] at hj
      obtain ⟨a, ha, rfl⟩ := hj
      have haj : a = j := by
        obtain ⟨h1, h2⟩ := List.getElem?_eq_some_iff.mp ha
        rw [List.getElem_range] at h2
        exact h2.symm
      subst haj
      have han := List.mem_range.mp (List.mem_of_getElem? ha)
      obtain ⟨ys, src2, g1, ⟨x3, rfl, hx3⟩, g3⟩ := clc_sub (own := [7]) (as := aName 7) (ic := (icRng2 (.e (cBin fAdd (.e (cVar false 6)) (.e (cC (.int 1))))) (.e (cVar false 3)))) (t := (bOf (cBin fLt (.e (cCall "_law_pick" [(cVar false 0), (cC (.int 5))])) (.e (cVar false 4))))) (c := (cDisp true [(cVar false 6), (cVar false 7)])) (F := fnAt T 200 (k + 1)) (ds := (List.range (n - (a + 1))).map fun i => Nm (a + 1 + i)) (E1 := [some .src, some (.d (.int 5)), some (.d (.int 8)), some (.d (Nm n)), some (.d (Nm sh)), some (.d (.list (ties.map pr))), some (.d (Nm a)), none]) (src := some x') (s := ⟨[some .src, some (.d (.int 5)), some (.d (.int 8)), some (.d (Nm n)), some (.d (Nm sh)), some (.d (.list (ties.map pr))), some (.d (Nm a)), none], some x'⟩) (ic_rng2 (m := a + 1) rfl rfl (by omega) (by omega)) (by rw [List.length_map, List.length_range, sizeLine_eq]; omega)
        (fun src => ∃ y : Src, src = some y ∧ y.cells.length ≤ 63) (fun d => .tuple [Nm a, d]) ⟨x', rfl, hx'⟩ (by
          rintro d hd src ⟨y, rfl, hy⟩
          obtain ⟨r, y2, e3, hy2, r0, r1⟩ := pick_ok k y hy 5 (by decide)
          refine ⟨⟨[some .src, some (.d (.int 5)), some (.d (.int 8)), some (.d (Nm n)), some (.d (Nm sh)), some (.d (.list (ties.map pr))), some (.d (Nm a)), some (.d d)], some y⟩, decide (r < (sh : Int)), [some .src, some (.d (.int 5)), some (.d (.int 8)), some (.d (Nm n)), some (.d (Nm sh)), some (.d (.list (ties.map pr))), some (.d (Nm a)), some (.d d)], some y2, rfl, ?_, ⟨y2, rfl, hy2⟩, rfl, fun _ => ⟨_, cdisp (b := true) (xs := [.d (Nm a), .d d]) rfl rfl (by rw [sizeLine_eq]; simp), rfl⟩⟩
          exact bof' (cbin (y := Nm sh) (ccall (s1 := ⟨[some .src, some (.d (.int 5)), some (.d (.int 8)), some (.d (Nm n)), some (.d (Nm sh)), some (.d (.list (ties.map pr))), some (.d (Nm a)), some (.d d)], some y⟩) (xs := [.src, .d (.int 5)]) rfl e3) rfl rfl))
      have hmap : ((List.range (n - (a + 1))).map fun i => Nm (a + 1 + i)).map (fun d => PyData.tuple [Nm a, d]) = ((List.range (n - (a + 1))).map fun i => (a, a + 1 + i)).map pr := by
        rw [List.map_map, List.map_map]
        rfl
      rw [hmap] at g3
      obtain ⟨zs, hz, rfl⟩ := List.sublist_map_iff.mp g3
      have hzm : ∀ p ∈ zs, p.1 = a ∧ a < p.2 ∧ p.2 < n := fun p hp => by
        obtain ⟨i, hi, rfl⟩ := List.mem_map.mp (hz.subset hp)
        rw [List.mem_range] at hi
        exact ⟨rfl, by show a < a + 1 + i; omega, by show a + 1 + i < n; omega⟩
      have hzl : zs.length ≤ 8 := by
        have := hz.length_le
        rw [List.length_map, List.length_range] at this
        omega
      have hzp : zs.Pairwise lx := by
        refine List.Pairwise.sublist hz ?_
        rw [List.pairwise_map]
        exact List.pairwise_lt_range.imp fun h => .inr ⟨rfl, by show _ < _; omega⟩
      refine ⟨⟨[some .src, some (.d (.int 5)), some (.d (.int 8)), some (.d (Nm n)), some (.d (Nm sh)), some (.d (.list (ties.map pr))), some (.d (Nm a)), none], some x'⟩, _, rfl, spar1 (x := .d (.list ((ties ++ zs).map pr))) (s1 := ⟨[some .src, some (.d (.int 5)), some (.d (.int 8)), some (.d (Nm n)), some (.d (Nm sh)), some (.d (.list (ties.map pr))), some (.d (Nm a)), none], some x3⟩) ?_, some (.d (Nm a)), ties ++ zs, x3, rfl, hx3, ?_, ?_, by rw [List.length_append]; omega⟩
      · rw [List.map_append]
        exact cbin rfl g1 (fadd_list (by rw [List.length_map, List.length_map]; omega))
      · rw [List.pairwise_append]
        refine ⟨hpw, hzp, fun p hp q hq => .inl ?_⟩
        have h1 := hlt p hp
        have h2 := hzm q hq
        omega
      · intro p hp
        rcases List.mem_append.mp hp with h | h
        · have := hlt p h
          omega
        · have := hzm p h
          omega)
  have htie : TieOk n (tieP ties) ties := tieP_ok (hpw.imp fun {p q} h e => by
    subst e
    rcases h with h | ⟨_, h⟩ <;> omega) fun p hp => (hlt p hp).2
  rw [List.length_map, List.length_range] at hlen
  refine ⟨n, ties, x', ?_, hx', hn8, htie⟩
  rw [fnAt_call (d := ⟨3, 8, b__law_tie_web⟩) rfl]
  refine run_env (n := 3) (nn := 8) (s' := ⟨[some .src, some (.d (.int 5)), some (.d (.int 8)), some (.d (Nm n)), some (.d (Nm sh)), some (.d (.list (ties.map pr))), f6, none], some x'⟩) rfl rfl ?_
  show b__law_tie_web (fnAt T 200 (k + 1)) ⟨[some .src, some (.d (.int 5)), some (.d (.int 8)), none, none, none, none, none], some x⟩ = _
  unfold b__law_tie_web
  refine e_seq (spar3 (x := .d (Nm n)) (y := .d (Nm sh)) (z := .d (.list [])) (s1 := ⟨[some .src, some (.d (.int 5)), some (.d (.int 8)), none, none, none, none, none], some x1⟩) (s2 := ⟨[some .src, some (.d (.int 5)), some (.d (.int 8)), none, none, none, none, none], some x2⟩) (s3 := ⟨[some .src, some (.d (.int 5)), some (.d (.int 8)), none, none, none, none, none], some x2⟩) ?_ ?_ (cdisp (b := false) (xs := []) (ds := []) rfl rfl (by rw [sizeLine_eq]; simp))) (e_seq hfor (sret (pcall (s := ⟨[some .src, some (.d (.int 5)), some (.d (.int 8)), some (.d (Nm n)), some (.d (Nm sh)), some (.d (.list (ties.map pr))), f6, none], some x'⟩) (xs := [.d (Nm n), .d (.list (ties.map pr))]) rfl (law_of_ties_ok k (by omega) htie (by omega) (some x')))))
  · show _ = some (Vx.d (.int (n : Int)), _)
    rw [← hn]
    exact cbin (x := .int 5) (y := .int r1) rfl (ccall (s1 := ⟨[some .src, some (.d (.int 5)), some (.d (.int 8)), none, none, none, none, none], some x⟩) (xs := [.src, .d (.int 4)]) rfl e1) rfl
  · show _ = some (Vx.d (.int (sh : Int)), _)
    rw [← hsh]
    exact cbin (x := .int 1) (y := .int r2) rfl (ccall (s1 := ⟨[some .src, some (.d (.int 5)), some (.d (.int 8)), none, none, none, none, none], some x1⟩) (xs := [.src, .d (.int 4)]) rfl e2) rfl
end L56
namespace L56
open PySem PySem.Spec L2 Ev PyProof.Rows
theorem nodup_len {l : List Nat} {n : Nat} (hn : l.Nodup) (h : ∀ x ∈ l, x < n) : l.length ≤ n := by
  have hp : l.Perm ((List.range n).filter fun x => decide (x ∈ l)) := (List.perm_ext_iff_of_nodup hn (List.nodup_range.filter _)).mpr fun x => by
    rw [List.mem_filter, List.mem_range, decide_eq_true_eq]
    exact ⟨fun hx => ⟨h x hx, hx⟩, fun hx => hx.2⟩
  rw [hp.length_eq]
  exact Nat.le_trans (List.length_filter_le _ _) (by rw [List.length_range]; exact Nat.le_refl _)
section
variable {n : Nat} {P : Nat → Nat → Bool}
theorem met_of (h : misP n P 3 = none) {m : Nat} (hm : m < 3) {row pat : List Nat} (hr : row ∈ rowsP n m) (hp : pat ∈ patsP m) : ∃ x, x < n ∧ met P row pat x = true := by
  unfold misP at h
  rw [List.findSome?_eq_none_iff] at h
  have h1 := h m (List.mem_range.mpr hm)
  rw [List.findSome?_eq_none_iff] at h1
  have h2 := h1 row hr
  rw [List.findSome?_eq_none_iff] at h2
  have h3 := h2 pat hp
  unfold misW at h3
  split at h3
  · cases h3
  · rename_i hne
    cases hl : meeting n P row pat with
    | nil => rw [hl] at hne; exact absurd rfl hne
    | cons x l =>
      have hx : x ∈ meeting n P row pat := by rw [hl]; exact List.mem_cons_self
      obtain ⟨h4, h5⟩ := List.mem_filter.mp hx
      exact ⟨x, List.mem_range.mp h4, h5⟩
theorem row1 {v : Nat} (hv : v < n) : [v] ∈ rowsP n 1 := by
  refine List.mem_flatMap.mpr ⟨[], List.mem_singleton.mpr rfl, ?_⟩
  unfold stepR
  refine List.mem_map.mpr ⟨v, List.mem_filter.mpr ⟨List.mem_range.mpr hv, rfl⟩, rfl⟩
theorem row2 {v x : Nat} (hv : v < n) (hx : x < n) (h : v ≠ x) : [v, x] ∈ rowsP n 2 := by
  refine List.mem_flatMap.mpr ⟨[v], row1 hv, ?_⟩
  unfold stepR
  refine List.mem_map.mpr ⟨x, List.mem_filter.mpr ⟨List.mem_range.mpr hx, ?_⟩, rfl⟩
  simp [Ne.symm h]
def bn (c : Bool) : Nat := if c then 1 else 0
theorem bn_one (c : Bool) : (bn c == 1) = c := by cases c <;> rfl
theorem pat1 (c : Bool) : [bn c] ∈ patsP 1 := by cases c <;> decide
theorem pat2 (c d : Bool) : [bn c, bn d] ∈ patsP 2 := by cases c <;> cases d <;> decide
theorem w1 (h : misP n P 3 = none) {v : Nat} (hv : v < n) (c : Bool) : ∃ x, x < n ∧ x ≠ v ∧ P x v = c := by
  obtain ⟨x, hx, hm⟩ := met_of h (by decide) (row1 hv) (pat1 c)
  unfold met at hm
  simp only [List.zip_cons_cons, List.zip_nil_right, List.all_cons, List.all_nil, Bool.and_true, Bool.and_eq_true, bn_one, beq_iff_eq, Bool.not_eq_true'] at hm
  refine ⟨x, hx, fun e => ?_, hm.2⟩
  subst e
  simp at hm
theorem w2 (h : misP n P 3 = none) {v x : Nat} (hv : v < n) (hx : x < n) (hne : v ≠ x) (c d : Bool) : ∃ y, y < n ∧ y ≠ v ∧ y ≠ x ∧ P y v = c ∧ P y x = d := by
  obtain ⟨y, hy, hm⟩ := met_of h (by decide) (row2 hv hx hne) (pat2 c d)
  unfold met at hm
  simp only [List.zip_cons_cons, List.zip_nil_right, List.all_cons, List.all_nil, Bool.and_true, Bool.and_eq_true, bn_one, beq_iff_eq, Bool.not_eq_true'] at hm
  refine ⟨y, hy, fun e => ?_, fun e => ?_, hm.2.1, hm.2.2⟩
  · subst e
    simp at hm
  · subst e
    simp at hm
theorem four (h : misP n P 3 = none) (sym : ∀ a b, a < n → b < n → P a b = P b a) {v : Nat} (hv : v < n) (c : Bool) : ∃ l : List Nat, l.length = 4 ∧ l.Nodup ∧ ∀ x ∈ l, x < n ∧ x ≠ v ∧ P x v = c := by
  obtain ⟨x, hx, xv, px⟩ := w1 h hv c
  obtain ⟨y, hy, yv, yx, py, pyx⟩ := w2 h hv hx (Ne.symm xv) c true
  obtain ⟨z, hz, zv, zx, pz, pzx⟩ := w2 h hv hx (Ne.symm xv) c false
  have yz : y ≠ z := fun e => by rw [e, pzx] at pyx; cases pyx
  obtain ⟨w, hw, wv, wz, pw, pwz⟩ := w2 h hv hz (Ne.symm zv) c true
  have wx : w ≠ x := fun e => by
    rw [e, sym x z hx hz, pzx] at pwz; cases pwz
  by_cases wy : w = y
  · subst wy
    obtain ⟨u, hu, uv, uw, pu, puw⟩ := w2 h hv hw (Ne.symm wv) c false
    have ux : u ≠ x := fun e => by rw [e, sym x w hx hw, pyx] at puw; cases puw
    have uz : u ≠ z := fun e => by rw [e, sym z w hz hw, pwz] at puw; cases puw
    refine ⟨[x, w, z, u], rfl, ?_, fun t ht => ?_⟩
    · simp only [List.nodup_cons, List.mem_cons, List.not_mem_nil, or_false, not_or, List.nodup_nil, and_true, not_false_eq_true]
      exact ⟨⟨Ne.symm wx, Ne.symm zx, Ne.symm ux⟩, ⟨wz, Ne.symm uw⟩, Ne.symm uz⟩
    · simp only [List.mem_cons, List.not_mem_nil, or_false] at ht
      rcases ht with rfl | rfl | rfl | rfl
      · exact ⟨hx, xv, px⟩
      · exact ⟨hw, wv, pw⟩
      · exact ⟨hz, zv, pz⟩
      · exact ⟨hu, uv, pu⟩
  · refine ⟨[x, y, z, w], rfl, ?_, fun t ht => ?_⟩
    · simp only [List.nodup_cons, List.mem_cons, List.not_mem_nil, or_false, not_or, List.nodup_nil, and_true, not_false_eq_true]
      exact ⟨⟨Ne.symm yx, Ne.symm zx, Ne.symm wx⟩, ⟨yz, Ne.symm wy⟩, Ne.symm wz⟩
    · simp only [List.mem_cons, List.not_mem_nil, or_false] at ht
      rcases ht with rfl | rfl | rfl | rfl
      · exact ⟨hx, xv, px⟩
      · exact ⟨hy, yv, py⟩
      · exact ⟨hz, zv, pz⟩
      · exact ⟨hw, wv, pw⟩
theorem nine (h : misP n P 3 = none) (sym : ∀ a b, a < n → b < n → P a b = P b a) : 9 ≤ n := by
  obtain ⟨v, hv, _⟩ := met_of h (m := 0) (by decide) (List.mem_singleton.mpr rfl) (List.mem_singleton.mpr rfl)
  obtain ⟨l1, a1, a2, a3⟩ := four h sym hv true
  obtain ⟨l2, b1, b2, b3⟩ := four h sym hv false
  have := nodup_len (l := v :: (l1 ++ l2)) (n := n) (by
    rw [List.nodup_cons, List.nodup_append]
    refine ⟨fun hm => ?_, a2, b2, fun x hx y hy e => ?_⟩
    · rcases List.mem_append.mp hm with hm | hm
      · exact (a3 v hm).2.1 rfl
      · exact (b3 v hm).2.1 rfl
    · subst e
      have h1 := (a3 x hx).2.2
      rw [(b3 x hy).2.2] at h1
      cases h1) (fun x hx => by
    rcases List.mem_cons.mp hx with rfl | hx
    · exact hv
    · rcases List.mem_append.mp hx with hx | hx
      · exact (a3 x hx).1
      · exact (b3 x hx).1)
  rw [List.length_cons, List.length_append, a1, b1] at this
  omega
end
theorem TieOk.sym {n : Nat} {P : Nat → Nat → Bool} {ties : List (Nat × Nat)} (h : TieOk n P ties) : ∀ a b, a < n → b < n → P a b = P b a := fun a b ha hb => by
  rw [Bool.eq_iff_iff, h.iff a b ha hb, h.iff b a hb ha]
  exact ⟨Or.symm, Or.symm⟩
theorem small_missing {n : Nat} {P : Nat → Nat → Bool} {ties : List (Nat × Nat)} (h : TieOk n P ties) (hn : n ≤ 8) : (misP n P 3).isNone = false := by
  cases hq : misP n P 3 with
  | some p => rfl
  | none => exact absurd (nine hq (TieOk.sym h)) (by omega)
/-! the ties of a web, told again -/
theorem TieOk.again {n : Nat} {P : Nat → Nat → Bool} {ties : List (Nat × Nat)} (h : TieOk n P ties) : TieOk n P ((canon n P).filter fun p => decide (p.1 < p.2)) where
  nd := (canon_nodup n P).filter _
  lt := fun p hp => by
    obtain ⟨h1, h2⟩ := List.mem_filter.mp hp
    exact ⟨by simpa using h2, (canon_mem.mp h1).2.1⟩
  iff := fun a b ha hb => by
    rw [List.mem_filter, List.mem_filter, canon_mem, canon_mem, decide_eq_true_eq, decide_eq_true_eq]
    constructor
    · intro hp
      have := (h.iff a b ha hb).mp hp
      rcases this with h1 | h1
      · exact .inl ⟨⟨ha, hb, hp⟩, (h.lt _ h1).1⟩
      · exact .inr ⟨⟨hb, ha, (TieOk.sym h b a hb ha).trans hp⟩, (h.lt _ h1).1⟩
    · rintro (h1 | h1)
      · exact h1.1.2.2
      · exact (TieOk.sym h a b ha hb).trans h1.1.2.2
end L56
namespace L56
open PySem PySem.Spec L2 Ev PyProof.Rows
theorem ic_anyT {c : CE} {F : Fn} {s s1 : S} {ds : List PyData} (h : c F s = some (.d (.tuple ds), s1)) : icAny (.e c) F s = some (ds, s1, []) := by
  unfold icAny
  simp only [evOps, Opd.ev, h]
  rfl
theorem ccut_take {c : CE} {F : Fn} {s s1 : S} {ys : List PyData} (n : Nat) (h : c F s = some (.d (.list ys), s1)) : cCut (.e c) none (some (.e (cC (.int (n : Int))))) F s = some (.d (.list (ys.take n)), s1) := by
  unfold cCut Opd.ev
  simp only [h]
  show some (Vx.d (.list (cutD ys none (some (n : Int)))), _) = _
  rw [cut_take]
  rfl
theorem rows_pow (n : Nat) : ∀ j, (rowsP n j).length ≤ n ^ j
  | 0 => Nat.le_refl _
  | j + 1 => by
    have step : ∀ l : List (List Nat), (l.flatMap (stepR n)).length ≤ l.length * n := by
      intro l
      induction l with
      | nil => simp
      | cons a l ih =>
        rw [List.flatMap_cons, List.length_append, List.length_cons, Nat.succ_mul]
        have : (stepR n a).length ≤ n := by
          unfold stepR
          rw [List.length_map]
          exact Nat.le_trans (List.length_filter_le _ _) (by rw [List.length_range]; exact Nat.le_refl _)
        omega
    exact Nat.le_trans (step _) (by rw [Nat.pow_succ]; exact Nat.mul_le_mul_right n (rows_pow n j))
theorem rows_b {n j : Nat} (hn : n ≤ 13) (hj : j ≤ 3) : (rowsP n j).length ≤ 10000 := by
  refine Nat.le_trans (rows_pow n j) (Nat.le_trans (Nat.pow_le_pow_left hn j) ?_)
  exact Nat.le_trans (Nat.pow_le_pow_right (by decide) hj) (by decide)
theorem fis_dP (o : Option (List Nat × List Nat)) : fIs (dP o) .none = some (.bool o.isNone) := by cases o <;> rfl
theorem fisn_dP (o : Option (List Nat × List Nat)) : fIsNot (dP o) .none = some (.bool (!o.isNone)) := by cases o <;> rfl
section
variable {s : S} {n : Nat} {P : Nat → Nat → Bool}
theorem miss_at (hn : n ≤ 13) {kk : Nat} (hk : kk ≤ 3) {c : CE} (h4 : s.env[4]? = some (some (.d (tw n P)))) (hc : c (fnAt T 200 100) s = some (.d (Nm kk), s)) : cCall "missing_wish" [(cVar false 4), c] (fnAt T 200 100) s = some (.d (dP (misP n P kk)), s) :=
  pcall (eargs (vat h4) (eargs hc rfl)) (missing_ok (P := P) 96 (n := n) (by omega) (kk := kk) (by omega) (fun j hj => Nat.le_trans (rows_b hn (by omega)) (by decide)) s.src)
theorem lmiss_at (hn : n ≤ 13) {kk : Nat} (hk : kk ≤ 3) {c : CE} (h4 : s.env[4]? = some (some (.d (tw n P)))) (hc : c (fnAt T 200 100) s = some (.d (Nm kk), s)) : cCall "_law_missing" [(cVar false 4), c] (fnAt T 200 100) s = some (.d (dP (misP n P kk)), s) :=
  pcall (eargs (vat h4) (eargs hc rfl)) (law_missing_ok (P := P) 98 (n := n) (by omega) (kk := kk) (by omega) (fun j hj => rows_b hn (by omega)) s.src)
/-! the told webs -/
theorem ties_at {F : Fn} (hn : n ≤ 30) {ties : List (Nat × Nat)} {c0 e2 e3 e5 e6 e7 e8 e9 e10 e11 e12 : Option Vx} {src : Option Src} :
    (cLc [10, 11] (aTup 2 (aCons (aName 10) (aCons (aName 11) aNil))) (icAny (.e (cBin fIxD (.e (cVar false 4)) (.e (cC (.int 2)))))) (bOf (cBin fLt (.e (cVar false 10)) (.e (cVar false 11)))) (cDisp true [(cVar false 10), (cVar false 11)])) F ⟨[c0, some .src, e2, e3, some (.d (tw n P)), e5, e6, e7, e8, e9, e10, e11, e12], src⟩ = some (.d (.list (((canon n P).filter fun p => decide (p.1 < p.2)).map pr)), ⟨[c0, some .src, e2, e3, some (.d (tw n P)), e5, e6, e7, e8, e9, e10, e11, e12], src⟩) := by
  have hm := clc_filt (own := [10, 11]) (as := (aTup 2 (aCons (aName 10) (aCons (aName 11) aNil)))) (ic := (icAny (.e (cBin fIxD (.e (cVar false 4)) (.e (cC (.int 2))))))) (t := (bOf (cBin fLt (.e (cVar false 10)) (.e (cVar false 11))))) (c := (cDisp true [(cVar false 10), (cVar false 11)])) (F := F) (ds := (canon n P).map pr) (E1 := [c0, some .src, e2, e3, some (.d (tw n P)), e5, e6, e7, e8, e9, e10, e11, e12]) (src := src) (s := ⟨[c0, some .src, e2, e3, some (.d (tw n P)), e5, e6, e7, e8, e9, e10, e11, e12], src⟩) (ic_anyT rfl) (by rw [List.length_map, sizeLine_eq]; have := canon_900 (P := P) hn; omega)
    (fun d => match d with
      | .tuple [.int a, .int b] => decide (a < b)
      | _ => false) (fun d => d) (by
      intro d hd
      obtain ⟨⟨a, b⟩, _, rfl⟩ := List.mem_map.mp hd
      exact ⟨⟨[c0, some .src, e2, e3, some (.d (tw n P)), e5, e6, e7, e8, e9, some (.d (Nm a)), some (.d (Nm b)), e12], src⟩, ⟨[c0, some .src, e2, e3, some (.d (tw n P)), e5, e6, e7, e8, e9, some (.d (Nm a)), some (.d (Nm b)), e12], src⟩, rfl, rfl, fun _ => ⟨rfl, rfl⟩, fun _ => ⟨[c0, some .src, e2, e3, some (.d (tw n P)), e5, e6, e7, e8, e9, some (.d (Nm a)), some (.d (Nm b)), e12], cdisp (b := true) (xs := [.d (Nm a), .d (Nm b)]) rfl rfl (by rw [sizeLine_eq]; simp), rfl⟩⟩)
  rw [List.map_id', List.filter_map] at hm
  have e : ((fun d : PyData => match d with
      | .tuple [.int a, .int b] => decide (a < b)
      | _ => false) ∘ pr) = fun p : Nat × Nat => decide (p.1 < p.2) := funext fun p => by
    show decide ((p.1 : Int) < (p.2 : Int)) = _
    rw [Bool.eq_iff_iff, decide_eq_true_eq, decide_eq_true_eq]
    omega
  rw [e] at hm
  exact hm
theorem filt_len {n : Nat} (hn : n ≤ 30) : ((canon n P).filter fun p => decide (p.1 < p.2)).length ≤ 1000 := Nat.le_trans (List.length_filter_le _ _) (Nat.le_trans (canon_900 (P := P) hn) (by decide))
theorem lap1 {kk : Nat} (hn : n ≤ 13) (hk : kk ≤ 3) {ties : List (Nat × Nat)} (hT : TieOk n P ties) (hmis : (misP n P kk).isNone = true) (src : Option Src) (hw : (fnAt T 200 100).call "wished_web" [.d (Nm kk)] src = some (.d (tw n P), src)) (c0 e4 e5 e6 e7 e8 e9 e10 e11 e12 : Option Vx) :
    (sSeq (sPar [4] [(cCall "wished_web" [(cVar false 2)])])
    (sSeq (sIf (bOr (bOf (cBin fNe (.e (cBin fIxD (.e (cVar false 4)) (.e (cC (.int 0))))) (.e (cVar false 3)))) (bOf (cBin fNe (.e (cNat fRepr [(.e (cVar false 4))])) (.e (cNat fRepr [(.e (cCall "_law_of_ties" [(cVar false 3), (cLc [10, 11] (aTup 2 (aCons (aName 10) (aCons (aName 11) aNil))) (icAny (.e (cBin fIxD (.e (cVar false 4)) (.e (cC (.int 2)))))) (bOf (cBin fLt (.e (cVar false 10)) (.e (cVar false 11)))) (cDisp true [(cVar false 10), (cVar false 11)]))]))]))))) (sRet (cC (.bool false))) sPass)
    (sIf (bOr (bOf (cBin fIsNot (.e (cCall "_law_missing" [(cVar false 4), (cVar false 2)])) (.e (cC .none)))) (bOf (cBin fIsNot (.e (cCall "missing_wish" [(cVar false 4), (cVar false 2)])) (.e (cC .none))))) (sRet (cC (.bool false))) sPass))) (fnAt T 200 100) ⟨[c0, some .src, some (.d (Nm kk)), some (.d (Nm n)), e4, e5, e6, e7, e8, e9, e10, e11, e12], src⟩ = some (.nx, ⟨[c0, some .src, some (.d (Nm kk)), some (.d (Nm n)), some (.d (tw n P)), e5, e6, e7, e8, e9, e10, e11, e12], src⟩) := by
  obtain ⟨s, hs⟩ : ∃ s, s = (⟨[c0, some .src, some (.d (Nm kk)), some (.d (Nm n)), some (.d (tw n P)), e5, e6, e7, e8, e9, e10, e11, e12], src⟩ : S) := ⟨_, rfl⟩
  have h2 : s.env[2]? = some (some (.d (Nm kk))) := by rw [hs]; rfl
  have h3 : s.env[3]? = some (some (.d (Nm n))) := by rw [hs]; rfl
  have h4 : s.env[4]? = some (some (.d (tw n P))) := by rw [hs]; rfl
  refine e_seq (s1 := s) ((spar1 (x := .d (tw n P)) (s1 := ⟨[c0, some .src, some (.d (Nm kk)), some (.d (Nm n)), e4, e5, e6, e7, e8, e9, e10, e11, e12], src⟩) (pcall (s := ⟨[c0, some .src, some (.d (Nm kk)), some (.d (Nm n)), e4, e5, e6, e7, e8, e9, e10, e11, e12], src⟩) (xs := [.d (Nm kk)]) rfl hw)).trans (by rw [hs]; rfl)) ?_
  have hc := ties_at (F := fnAt T 200 100) (n := n) (P := P) (ties := ties) (by omega) (c0 := c0) (e2 := some (.d (Nm kk))) (e3 := some (.d (Nm n))) (e5 := e5) (e6 := e6) (e7 := e7) (e8 := e8) (e9 := e9) (e10 := e10) (e11 := e11) (e12 := e12) (src := src)
  rw [← hs] at hc
  have b1 := bof' (cbin (F := fnAt T 200 100) (a := cBin fIxD (.e (cVar false 4)) (.e (cC (.int 0)))) (cbin (b := cC (.int 0)) (f := fIxD) (y := .int 0) (z := Nm n) (vat h4) rfl rfl) (vat h3) (fne_int _ _))
  rw [beq_self_eq_true] at b1
  have hrep := tw_repr (n := n) (P := P) (by omega)
  have e2 : evArgs [(cVar false 3), (cLc [10, 11] (aTup 2 (aCons (aName 10) (aCons (aName 11) aNil))) (icAny (.e (cBin fIxD (.e (cVar false 4)) (.e (cC (.int 2)))))) (bOf (cBin fLt (.e (cVar false 10)) (.e (cVar false 11)))) (cDisp true [(cVar false 10), (cVar false 11)]))] (fnAt T 200 100) s = some ([.d (Nm n), .d (.list (((canon n P).filter fun p => decide (p.1 < p.2)).map pr))], s) := eargs (vat h3) (eargs hc rfl)
  have c2 := pcall (s := s) (F := fnAt T 200 100) e2 (law_of_ties_ok 99 (by omega) (TieOk.again hT) (filt_len (by omega)) s.src)
  have b2 := bof' (cbin (F := fnAt T 200 100) (cnat1 (vat h4) hrep) (cnat1 c2 hrep) (fne_shown (tw_its (by omega)) hrep))
  refine e_seq (e_ifF (bor b1 fun _ => b2) rfl) ?_
  have m1 := bof' (cbin (F := fnAt T 200 100) (b := cC .none) (y := .none) (lmiss_at hn hk h4 (vat h2)) rfl (fisn_dP _))
  have m2 := bof' (cbin (F := fnAt T 200 100) (b := cC .none) (y := .none) (miss_at hn hk h4 (vat h2)) rfl (fisn_dP _))
  rw [hmis] at m1 m2
  rw [← hs]
  exact e_ifF (bor m1 fun _ => m2) rfl
theorem cond2 (hn : n ≤ 13) (h4 : s.env[4]? = some (some (.d (tw n P)))) (hmis : (misP n P 2).isNone = false) : (bOr (bOf (cBin fIs (.e (cCall "_law_missing" [(cVar false 4), (cC (.int 2))])) (.e (cC .none)))) (bOf (cBin fIs (.e (cCall "missing_wish" [(cVar false 4), (cC (.int 2))])) (.e (cC .none))))) (fnAt T 200 100) s = some (false, s) := by
  have m1 := bof' (cbin (F := fnAt T 200 100) (b := cC .none) (y := .none) (lmiss_at hn (kk := 2) (by decide) (c := cC (.int 2)) h4 rfl) rfl (fis_dP _))
  have m2 := bof' (cbin (F := fnAt T 200 100) (b := cC .none) (y := .none) (miss_at hn (kk := 2) (by decide) (c := cC (.int 2)) h4 rfl) rfl (fis_dP _))
  rw [hmis] at m1 m2
  exact bor m1 fun _ => m2
theorem cond4 (hn : n ≤ 13) (h4 : s.env[4]? = some (some (.d (tw n P)))) (hmis : (misP n P 3).isNone = false) : (bOf (cBin fIs (.e (cCall "missing_wish" [(cVar false 4), (cC (.int 3))])) (.e (cC .none)))) (fnAt T 200 100) s = some (false, s) := by
  have m2 := bof' (cbin (F := fnAt T 200 100) (b := cC .none) (y := .none) (miss_at hn (kk := 3) (by decide) (c := cC (.int 3)) h4 rfl) rfl (fis_dP _))
  rw [hmis] at m2
  exact m2
/-! the texts of what is missing -/
theorem pats_el : ∀ m, ∀ p ∈ patsP m, ∀ x ∈ p, x ≤ 1
  | 0, p, h, x, hx => by
    rw [List.mem_singleton.mp h] at hx
    cases hx
  | m + 1, p, h, x, hx => by
    obtain ⟨q, hq, h2⟩ := List.mem_flatMap.mp h
    simp only [List.mem_cons, List.not_mem_nil, or_false] at h2
    rcases h2 with rfl | rfl
    · rcases List.mem_append.mp hx with hx | hx
      · exact pats_el m q hq x hx
      · rw [List.mem_singleton.mp hx]; decide
    · rcases List.mem_append.mp hx with hx | hx
      · exact pats_el m q hq x hx
      · rw [List.mem_singleton.mp hx]; decide
theorem misP_some {kk : Nat} {p : List Nat × List Nat} (h : misP n P kk = some p) : p.1.length < kk ∧ p.2.length < kk ∧ (∀ x ∈ p.1, x < n) ∧ ∀ x ∈ p.2, x ≤ 1 := by
  unfold misP at h
  obtain ⟨m, hm, h1⟩ := List.exists_of_findSome?_eq_some h
  obtain ⟨row, hr, h2⟩ := List.exists_of_findSome?_eq_some h1
  obtain ⟨pat, hp, h3⟩ := List.exists_of_findSome?_eq_some h2
  unfold misW at h3
  split at h3
  · cases h3
    obtain ⟨a1, a2⟩ := rows_len n m row hr
    have b1 := (pats_len m).2 pat hp
    have := List.mem_range.mp hm
    exact ⟨by show row.length < kk; omega, by show pat.length < kk; omega, a2, pats_el m pat hp⟩
  · cases h3
theorem rw_its {r : List Nat} (h : ∀ x ∈ r, x < 100) : its (Rw r) = true := by
  show itsA (r.map Nm) = true
  rw [itsA_iff]
  intro d hd
  obtain ⟨x, hx, rfl⟩ := List.mem_map.mp hd
  exact its_nm (h x hx)
theorem rw_len {r : List Nat} (h : ∀ x ∈ r, x < 100) (hl : r.length ≤ 3) : (sh (Rw r)).length ≤ 14 := by
  have := tup_len (n := 2) (r.map Nm) fun d hd => by
    obtain ⟨x, hx, rfl⟩ := List.mem_map.mp hd
    exact nm_len (h x hx)
  rw [List.length_map] at this
  exact Nat.le_trans this (by omega)
theorem dP_repr {kk : Nat} (hn : n ≤ 13) (hk : kk ≤ 3) : ∃ t, fRepr [dP (misP n P kk)] = some (.str t) ∧ fNe (.str t) (.str t) = some (.bool false) := by
  cases hq : misP n P kk with
  | none => exact ⟨_, rfl, fne_same (by decide +kernel) (by decide +kernel)⟩
  | some p =>
    obtain ⟨a1, a2, a3, a4⟩ := misP_some hq
    have i1 : ∀ x ∈ p.1, x < 100 := fun x hx => by have := a3 x hx; omega
    have i2 : ∀ x ∈ p.2, x < 100 := fun x hx => by have := a4 x hx; omega
    have hi : its (.tuple [Rw p.1, Rw p.2]) = true := by
      show itsA [Rw p.1, Rw p.2] = true
      simp only [itsA, rw_its i1, rw_its i2, Bool.and_self]
    have hl : (sh (.tuple [Rw p.1, Rw p.2])).length ≤ sizeLine := by
      have := tup_len (n := 14) [Rw p.1, Rw p.2] fun d hd => by
        simp only [List.mem_cons, List.not_mem_nil, or_false] at hd
        rcases hd with rfl | rfl
        · exact rw_len i1 (by omega)
        · exact rw_len i2 (by omega)
      rw [sizeLine_eq]
      simp only [List.length_cons, List.length_nil] at this
      omega
    have hd : (PyData.tuple [Rw p.1, Rw p.2]).depth ≤ 64 := by
      have h1 : PyData.depthAll (p.1.map Nm) ≤ 0 := depthAll_le fun d hd => by obtain ⟨x, _, rfl⟩ := List.mem_map.mp hd; simp [PyData.depth]
      have h2 : PyData.depthAll (p.2.map Nm) ≤ 0 := depthAll_le fun d hd => by obtain ⟨x, _, rfl⟩ := List.mem_map.mp hd; simp [PyData.depth]
      simp only [PyData.depth, PyData.depthAll]
      omega
    have hr := frepr hi hl hd
    exact ⟨_, hr, fne_shown hi hr⟩
theorem cond3w (hn : n ≤ 13) (h4 : s.env[4]? = some (some (.d (tw n P)))) : (bOf (cBin fNe (.e (cNat fRepr [(.e (cCall "missing_wish" [(cVar false 4), (cC (.int 2))]))])) (.e (cNat fRepr [(.e (cCall "_law_missing" [(cVar false 4), (cC (.int 2))]))])))) (fnAt T 200 100) s = some (false, s) := by
  obtain ⟨t, h1, h2⟩ := dP_repr (n := n) (P := P) (kk := 2) hn (by decide)
  exact bof' (cbin (F := fnAt T 200 100) (cnat1 (miss_at hn (kk := 2) (by decide) (c := cC (.int 2)) h4 rfl) h1) (cnat1 (lmiss_at hn (kk := 2) (by decide) (c := cC (.int 2)) h4 rfl) h1) h2)
/-! the parts -/
theorem some_at {F : Fn} (hn : n ≤ 30) {name : Nat} (hx : name < n) {tied : Bool} {c0 e2 e3 e5 e6 e9 e10 e11 e12 : Option Vx} {src : Option Src} :
    (cLc [12] (aName 12) (icRng1 (.e (cBin fIxD (.e (cVar false 4)) (.e (cC (.int 0)))))) (bAnd (bOf (cBin fNe (.e (cVar false 12)) (.e (cVar false 7)))) (bOf (cBin fEq (.e (cBin (fInD false) (.e (cDisp true [(cVar false 7), (cVar false 12)])) (.e (cBin fIxD (.e (cVar false 4)) (.e (cC (.int 2))))))) (.e (cVar false 8))))) (cVar false 12)) F ⟨[c0, some .src, e2, e3, some (.d (tw n P)), e5, e6, some (.d (Nm name)), some (.d (.bool tied)), e9, e10, e11, e12], src⟩ = some (.d (.list ((someL n P name tied).map Nm)), ⟨[c0, some .src, e2, e3, some (.d (tw n P)), e5, e6, some (.d (Nm name)), some (.d (.bool tied)), e9, e10, e11, e12], src⟩) := by
  have hm := clc_filt (own := [12]) (as := aName 12) (ic := (icRng1 (.e (cBin fIxD (.e (cVar false 4)) (.e (cC (.int 0))))))) (t := (bAnd (bOf (cBin fNe (.e (cVar false 12)) (.e (cVar false 7)))) (bOf (cBin fEq (.e (cBin (fInD false) (.e (cDisp true [(cVar false 7), (cVar false 12)])) (.e (cBin fIxD (.e (cVar false 4)) (.e (cC (.int 2))))))) (.e (cVar false 8)))))) (c := cVar false 12) (F := F) (ds := (List.range n).map Nm) (E1 := [c0, some .src, e2, e3, some (.d (tw n P)), e5, e6, some (.d (Nm name)), some (.d (.bool tied)), e9, e10, e11, e12]) (src := src) (s := ⟨[c0, some .src, e2, e3, some (.d (tw n P)), e5, e6, some (.d (Nm name)), some (.d (.bool tied)), e9, e10, e11, e12], src⟩) (ic_rng1 rfl (by omega)) (by rw [List.length_map, List.length_range, sizeLine_eq]; omega)
    (fun d => match d with
      | .int i => !(i.toNat == name) && (P name i.toNat == tied)
      | _ => false) (fun d => d) (by
      intro d hd
      obtain ⟨o, ho, rfl⟩ := List.mem_map.mp hd
      rw [List.mem_range] at ho
      obtain ⟨s, hs⟩ : ∃ s, s = (⟨[c0, some .src, e2, e3, some (.d (tw n P)), e5, e6, some (.d (Nm name)), some (.d (.bool tied)), e9, e10, e11, some (.d (Nm o))], src⟩ : S) := ⟨_, rfl⟩
      have h4 : s.env[4]? = some (some (.d (tw n P))) := by rw [hs]; rfl
      have h7 : s.env[7]? = some (some (.d (Nm name))) := by rw [hs]; rfl
      have h8 : s.env[8]? = some (some (.d (.bool tied))) := by rw [hs]; rfl
      have h12 : s.env[12]? = some (some (.d (Nm o))) := by rw [hs]; rfl
      refine ⟨s, s, by rw [hs]; rfl, ?_, fun _ => by rw [hs]; exact ⟨rfl, rfl⟩, fun _ => ⟨[c0, some .src, e2, e3, some (.d (tw n P)), e5, e6, some (.d (Nm name)), some (.d (.bool tied)), e9, e10, e11, some (.d (Nm o))], by rw [hs]; rfl, rfl⟩⟩
      show _ = some (!((o : Int).toNat == name) && (P name (o : Int).toNat == tied), s)
      rw [Int.toNat_natCast]
      have b1 := bof' (cbin (F := F) (vat h12) (vat h7) (fne_int _ _))
      rw [int_eq] at b1
      have c0 : cDisp true [(cVar false 7), (cVar false 12)] F s = some (.d (pr (name, o)), s) := cdisp (b := true) (xs := [.d (Nm name), .d (Nm o)]) (eargs (vat h7) (eargs (vat h12) rfl)) rfl (by rw [sizeLine_eq]; simp)
      have c1 := cbin (F := F) c0 (cbin (b := cC (.int 2)) (f := fIxD) (y := .int 2) (z := .tuple ((canon n P).map pr)) (vat h4) rfl rfl) (inD_tw (P := P) hx ho)
      exact band b1 fun _ => bof' (cbin c1 (vat h8) (feq_bool _ _)))
  rw [List.map_id', List.filter_map] at hm
  have e : ((fun d : PyData => match d with
      | .int i => !(i.toNat == name) && (P name i.toNat == tied)
      | _ => false) ∘ Nm) = fun x => !(x == name) && (P name x == tied) := funext fun x => by
    show (!((x : Int).toNat == name) && (P name (x : Int).toNat == tied)) = _
    rw [Int.toNat_natCast]
  rw [e] at hm
  exact hm
theorem cond7 {nm : List Nat} (h4 : s.env[4]? = some (some (.d (tw n P)))) (h9 : s.env[9]? = some (some (.d (.list (nm.map Nm))))) (hl : nm.length ≤ 13) (hp : PartOk n P nm) (ht : okT nm.length (partT n P nm) = true) (htl : (partT n P nm).length ≤ 1000) (hmis : (misP nm.length (tieP (partT n P nm)) 2).isNone = true) (h4l : 4 ≤ nm.length) : (bOr (bOf (cBin fIsNot (.e (cCall "missing_wish" [(cCall "_law_part" [(cVar false 4), (cVar false 9)]), (cC (.int 2))])) (.e (cC .none)))) (bOf (cBin fLt (.e (cNat fLenD [(.e (cVar false 9))])) (.e (cC (.int 4)))))) (fnAt T 200 100) s = some (false, s) := by
  have cp : cCall "_law_part" [(cVar false 4), (cVar false 9)] (fnAt T 200 100) s = some (.d (tw nm.length (tieP (partT n P nm))), s) := pcall (eargs (vat h4) (eargs (vat h9) rfl)) (part_ok 98 hp (by omega) ht htl s.src)
  have cm : cCall "missing_wish" [(cCall "_law_part" [(cVar false 4), (cVar false 9)]), (cC (.int 2))] (fnAt T 200 100) s = some (.d (dP (misP nm.length (tieP (partT n P nm)) 2)), s) := by
    have e2 : evArgs [(cCall "_law_part" [(cVar false 4), (cVar false 9)]), (cC (.int 2))] (fnAt T 200 100) s = some ([.d (tw nm.length (tieP (partT n P nm))), .d (Nm 2)], s) := eargs cp rfl
    exact pcall e2 (missing_ok (P := tieP (partT n P nm)) 96 (n := nm.length) (by omega) (kk := 2) (by omega) (fun j hj => Nat.le_trans (rows_b hl (by omega)) (by decide)) s.src)
  have m1 := bof' (cbin (F := fnAt T 200 100) (b := cC .none) (y := .none) cm rfl (fisn_dP _))
  rw [hmis] at m1
  have cl : cNat fLenD [(.e (cVar false 9))] (fnAt T 200 100) s = some (.d (Nm nm.length), s) := cnat1 (vat h9) (by
    show some (PyData.int ((nm.map Nm).length : Int)) = _
    rw [List.length_map])
  have m2 : bOf (cBin fLt (.e (cNat fLenD [(.e (cVar false 9))])) (.e (cC (.int 4)))) (fnAt T 200 100) s = some (false, s) := by
    refine bof' (cbin (y := .int 4) cl rfl ?_)
    show some (PyData.bool (decide ((nm.length : Int) < 4))) = _
    rw [decide_eq_false (by omega)]
  exact bor m1 fun _ => m2
end
end L56
namespace L56
open PySem PySem.Spec L2 Ev PyProof.Rows
structure Fin' (n : Nat) (P : Nat → Nat → Bool) : Prop where
  n13 : n ≤ 13
  n0 : 0 < n
  part : ∀ name, name < n → ∀ tied, PartOk n P (someL n P name tied)
  ok : ∀ name, name < n → ∀ tied, okT (someL n P name tied).length (partT n P (someL n P name tied)) = true ∧ (misP (someL n P name tied).length (tieP (partT n P (someL n P name tied))) 2).isNone = true ∧ 4 ≤ (someL n P name tied).length
theorem fin9 : Fin' 9 (tieP T9) := ⟨by decide, by decide, parts9, fun name h tied => by
  have hc := chk9
  rw [List.all_eq_true] at hc
  have := hc name (List.mem_range.mpr h)
  rw [Bool.and_eq_true] at this
  have h2 : chkP9 name tied = true := by
    cases tied
    · exact this.2
    · exact this.1
  unfold chkP9 at h2
  rw [Bool.and_eq_true, Bool.and_eq_true, decide_eq_true_eq] at h2
  exact h2⟩
theorem fin13 : Fin' 13 (pal 13) := ⟨by decide, by decide, parts13, fun name h tied => by
  have hc := chk13
  rw [List.all_eq_true] at hc
  have := hc name (List.mem_range.mpr h)
  rw [Bool.and_eq_true] at this
  have h2 : chkP13 name tied = true := by
    cases tied
    · exact this.2
    · exact this.1
  unfold chkP13 at h2
  rw [Bool.and_eq_true, Bool.and_eq_true, decide_eq_true_eq] at h2
  exact h2⟩
theorem some_len (n : Nat) (P : Nat → Nat → Bool) (name : Nat) (tied : Bool) : (someL n P name tied).length ≤ n := Nat.le_trans (List.length_filter_le _ _) (by rw [List.length_range]; exact Nat.le_refl _)
theorem part_len {n : Nat} (hn : n ≤ 13) (P : Nat → Nat → Bool) (nm : List Nat) : (partT n P nm).length ≤ 1000 := by
  unfold partT
  rw [List.length_map]
  exact Nat.le_trans (List.length_filter_le _ _) (Nat.le_trans (canon_900 (P := P) (by omega)) (by decide))
theorem web_in {n : Nat} {d : PyData} (h : d ∈ webs n) : ∃ t ∈ allT n, d = tw n (tieP t) := by
  obtain ⟨t, ht, rfl⟩ := List.mem_map.mp h
  exact ⟨t, ht, rfl⟩
theorem isn {α : Type} {o : Option α} (h : o.isSome = true) : o.isNone = false := by cases o <;> simp_all
theorem in_webs (c0 : Option Vx) (e2 e3 e4 e6 e7 e8 e9 e10 e11 e12 : Option Vx) (x : Src) {n : Nat} (hn : n ≤ 13) (hw : (fnAt T 200 100).call "_law_all_tie_webs" [.d (Nm n)] (some x) = some (.d (.list (webs n)), some x)) (hm : ((allT n).all fun t => (misP n (tieP t) 2).isSome) = true) :
    ∃ f4, (sFor (aName 4) (icAny (.e (cCall "_law_all_tie_webs" [(cVar false 5)]))) (sIf (bOr (bOf (cBin fIs (.e (cCall "_law_missing" [(cVar false 4), (cC (.int 2))])) (.e (cC .none)))) (bOf (cBin fIs (.e (cCall "missing_wish" [(cVar false 4), (cC (.int 2))])) (.e (cC .none))))) (sRet (cC (.bool false))) sPass)) (fnAt T 200 100) ⟨[c0, some .src, e2, e3, e4, some (.d (Nm n)), e6, e7, e8, e9, e10, e11, e12], some x⟩ = some (.nx, ⟨[c0, some .src, e2, e3, f4, some (.d (Nm n)), e6, e7, e8, e9, e10, e11, e12], some x⟩) := by
  obtain ⟨s', hfor, f4, rfl⟩ := sfor_ind (as := aName 4) (b := (sIf (bOr (bOf (cBin fIs (.e (cCall "_law_missing" [(cVar false 4), (cC (.int 2))])) (.e (cC .none)))) (bOf (cBin fIs (.e (cCall "missing_wish" [(cVar false 4), (cC (.int 2))])) (.e (cC .none))))) (sRet (cC (.bool false))) sPass)) (s := ⟨[c0, some .src, e2, e3, e4, some (.d (Nm n)), e6, e7, e8, e9, e10, e11, e12], some x⟩) (ic_any (pcall (F := fnAt T 200 100) (s := ⟨[c0, some .src, e2, e3, e4, some (.d (Nm n)), e6, e7, e8, e9, e10, e11, e12], some x⟩) (cs := [(cVar false 5)]) (xs := [.d (Nm n)]) rfl hw))
    (fun _ s => ∃ f4, s = ⟨[c0, some .src, e2, e3, f4, some (.d (Nm n)), e6, e7, e8, e9, e10, e11, e12], some x⟩) ⟨e4, rfl⟩ (by
      rintro j d s hj ⟨f4, rfl⟩
      obtain ⟨t, ht, rfl⟩ := web_in (List.mem_of_getElem? hj)
      rw [List.all_eq_true] at hm
      refine ⟨⟨[c0, some .src, e2, e3, some (.d (tw n (tieP t))), some (.d (Nm n)), e6, e7, e8, e9, e10, e11, e12], some x⟩, ⟨[c0, some .src, e2, e3, some (.d (tw n (tieP t))), some (.d (Nm n)), e6, e7, e8, e9, e10, e11, e12], some x⟩, rfl, e_ifF (cond2 (n := n) (P := tieP t) hn rfl (isn (hm t ht))) rfl, _, rfl⟩)
  exact ⟨f4, hfor⟩
theorem math (ns : List Int) (h : ns.length ≤ 63) : ∃ src', (fnAt T 200 (100+1)).call "law" [.d (.list (ns.map PyData.int))] none = some (.d (.bool true), src') := by
  obtain ⟨x, ex, hx⟩ := src_ok 99 ns h
  obtain ⟨c0, hc0⟩ : ∃ c : Option Vx, c = some (.d (.list (ns.map PyData.int))) := ⟨_, rfl⟩
  -- the told webs
  obtain ⟨s1, hf1, a2, a3, a4, rfl⟩ := sfor_ind (as := (aTup 2 (aCons (aName 2) (aCons (aName 3) aNil)))) (ic := (icAny (.e (cDisp true [(cDisp true [(cC (.int 1)), (cC (.int 1))]), (cDisp true [(cC (.int 2)), (cC (.int 4))]), (cDisp true [(cC (.int 3)), (cC (.int 9))])])))) (F := fnAt T 200 100) (b := (sSeq (sPar [4] [(cCall "wished_web" [(cVar false 2)])])
    (sSeq (sIf (bOr (bOf (cBin fNe (.e (cBin fIxD (.e (cVar false 4)) (.e (cC (.int 0))))) (.e (cVar false 3)))) (bOf (cBin fNe (.e (cNat fRepr [(.e (cVar false 4))])) (.e (cNat fRepr [(.e (cCall "_law_of_ties" [(cVar false 3), (cLc [10, 11] (aTup 2 (aCons (aName 10) (aCons (aName 11) aNil))) (icAny (.e (cBin fIxD (.e (cVar false 4)) (.e (cC (.int 2)))))) (bOf (cBin fLt (.e (cVar false 10)) (.e (cVar false 11)))) (cDisp true [(cVar false 10), (cVar false 11)]))]))]))))) (sRet (cC (.bool false))) sPass)
    (sIf (bOr (bOf (cBin fIsNot (.e (cCall "_law_missing" [(cVar false 4), (cVar false 2)])) (.e (cC .none)))) (bOf (cBin fIsNot (.e (cCall "missing_wish" [(cVar false 4), (cVar false 2)])) (.e (cC .none))))) (sRet (cC (.bool false))) sPass)))) (s := ⟨[c0, some .src, none, none, none, none, none, none, none, none, none, none, none], some x⟩) (ds := [PyData.tuple [.int 1, .int 1], .tuple [.int 2, .int 4], .tuple [.int 3, .int 9]]) (s0 := ⟨[c0, some .src, none, none, none, none, none, none, none, none, none, none, none], some x⟩) rfl
    (fun _ s => ∃ a2 a3 a4, s = ⟨[c0, some .src, a2, a3, a4, none, none, none, none, none, none, none, none], some x⟩) ⟨none, none, none, rfl⟩ (by
      rintro j d s hj ⟨a2, a3, a4, rfl⟩
      have hd := List.mem_of_getElem? hj
      simp only [List.mem_cons, List.not_mem_nil, or_false] at hd
      rcases hd with rfl | rfl | rfl
      · exact ⟨_, _, rfl, lap1 (n := 1) (P := tieP []) (kk := 1) (by decide) (by decide) (okT_ok ok1) mis1 (some x) (wished1 98 (some x)) c0 a4 none none none none none none none none, _, _, _, rfl⟩
      · exact ⟨_, _, rfl, lap1 (n := 4) (P := tieP T4) (kk := 2) (by decide) (by decide) (okT_ok ok4) mis4 (some x) (wished2 98 (some x)) c0 a4 none none none none none none none none, _, _, _, rfl⟩
      · exact ⟨_, _, rfl, lap1 (n := 9) (P := tieP T9) (kk := 3) (by decide) (by decide) (okT_ok ok9) mis9 (some x) (wished3 98 (some x)) c0 a4 none none none none none none none none, _, _, _, rfl⟩)
  -- all webs of two and three names
  obtain ⟨s2, hf2, b4, b5, rfl⟩ := sfor_ind (as := aName 5) (ic := (icAny (.e (cDisp true [(cC (.int 2)), (cC (.int 3))])))) (F := fnAt T 200 100) (b := (sFor (aName 4) (icAny (.e (cCall "_law_all_tie_webs" [(cVar false 5)]))) (sIf (bOr (bOf (cBin fIs (.e (cCall "_law_missing" [(cVar false 4), (cC (.int 2))])) (.e (cC .none)))) (bOf (cBin fIs (.e (cCall "missing_wish" [(cVar false 4), (cC (.int 2))])) (.e (cC .none))))) (sRet (cC (.bool false))) sPass))) (s := ⟨[c0, some .src, a2, a3, a4, none, none, none, none, none, none, none, none], some x⟩) (ds := [PyData.int 2, .int 3]) (s0 := ⟨[c0, some .src, a2, a3, a4, none, none, none, none, none, none, none, none], some x⟩) rfl
    (fun _ s => ∃ b4 b5, s = ⟨[c0, some .src, a2, a3, b4, b5, none, none, none, none, none, none, none], some x⟩) ⟨a4, none, rfl⟩ (by
      rintro j d s hj ⟨b4, b5, rfl⟩
      have hd := List.mem_of_getElem? hj
      simp only [List.mem_cons, List.not_mem_nil, or_false] at hd
      rcases hd with rfl | rfl
      · obtain ⟨f4, e⟩ := in_webs c0 a2 a3 b4 none none none none none none none x (n := 2) (by decide) (webs2 98 (some x)) misA2
        exact ⟨_, _, rfl, e, _, _, rfl⟩
      · obtain ⟨f4, e⟩ := in_webs c0 a2 a3 b4 none none none none none none none x (n := 3) (by decide) (webs3 98 (some x)) misA3
        exact ⟨_, _, rfl, e, _, _, rfl⟩)
  -- some webs of four names
  have hl4 : (webs 4).length ≤ 1000000 := by
    unfold webs
    rw [List.length_map]
    exact Nat.le_trans (show (allT 4).length ≤ 1000 by decide +kernel) (by decide)
  obtain ⟨ys, x1, e1, hperm, hx1⟩ := mixed_ok 98 x hx (ds := webs 4) (c := .list (webs 4)) (.inl rfl) hl4
  have hw4 : cCall "_law_all_tie_webs" [(cC (.int 4))] (fnAt T 200 100) ⟨[c0, some .src, a2, a3, b4, b5, none, none, none, none, none, none, none], some x⟩ = some (.d (.list (webs 4)), ⟨[c0, some .src, a2, a3, b4, b5, none, none, none, none, none, none, none], some x⟩) := pcall (s := ⟨[c0, some .src, a2, a3, b4, b5, none, none, none, none, none, none, none], some x⟩) (xs := [.d (Nm 4)]) rfl (webs4 98 (some x))
  have hic3 := ic_any (ccut_take 12 (ccall (F := fnAt T 200 100) (cs := [(cVar false 1), (cCall "_law_all_tie_webs" [(cC (.int 4))])]) (s := ⟨[c0, some .src, a2, a3, b4, b5, none, none, none, none, none, none, none], some x⟩) (s1 := ⟨[c0, some .src, a2, a3, b4, b5, none, none, none, none, none, none, none], some x⟩) (xs := [.src, .d (.list (webs 4))]) (eargs (x := .src) rfl (eargs hw4 rfl)) e1))
  obtain ⟨s3, hf3, d4, rfl⟩ := sfor_ind (as := aName 4) (b := (sIf (bOf (cBin fNe (.e (cNat fRepr [(.e (cCall "missing_wish" [(cVar false 4), (cC (.int 2))]))])) (.e (cNat fRepr [(.e (cCall "_law_missing" [(cVar false 4), (cC (.int 2))]))])))) (sRet (cC (.bool false))) sPass)) (s := ⟨[c0, some .src, a2, a3, b4, b5, none, none, none, none, none, none, none], some x⟩) hic3
    (fun _ s => ∃ d4, s = ⟨[c0, some .src, a2, a3, d4, b5, none, none, none, none, none, none, none], some x1⟩) ⟨b4, rfl⟩ (by
      rintro j d s hj ⟨d4, rfl⟩
      obtain ⟨t, ht, rfl⟩ := web_in (hperm.mem_iff.mp (List.mem_of_mem_take (List.mem_of_getElem? hj)))
      exact ⟨⟨[c0, some .src, a2, a3, some (.d (tw 4 (tieP t))), b5, none, none, none, none, none, none, none], some x1⟩, ⟨[c0, some .src, a2, a3, some (.d (tw 4 (tieP t))), b5, none, none, none, none, none, none, none], some x1⟩, rfl, e_ifF (cond3w (n := 4) (P := tieP t) (by decide) rfl) rfl, _, rfl⟩)
  -- drawn webs
  obtain ⟨s4, hf4, g4, g6, x2, rfl, hx2⟩ := sfor_ind (as := aName 6) (ic := icRng1 (.e (cC (.int 4)))) (F := fnAt T 200 100) (b := (sSeq (sPar [4] [(cCall "_law_tie_web" [(cVar false 1), (cC (.int 5)), (cC (.int 8))])])
    (sIf (bOf (cBin fIs (.e (cCall "missing_wish" [(cVar false 4), (cC (.int 3))])) (.e (cC .none)))) (sRet (cC (.bool false))) sPass))) (s := ⟨[c0, some .src, a2, a3, d4, b5, none, none, none, none, none, none, none], some x1⟩) (ds := Ev.intsFrom 0 4) (s0 := ⟨[c0, some .src, a2, a3, d4, b5, none, none, none, none, none, none, none], some x1⟩) rfl
    (fun _ s => ∃ g4 g6 x2, s = ⟨[c0, some .src, a2, a3, g4, b5, g6, none, none, none, none, none, none], some x2⟩ ∧ x2.cells.length ≤ 63) ⟨d4, none, x1, rfl, hx1⟩ (by
      rintro j d s hj ⟨g4, g6, y, rfl, hy⟩
      obtain ⟨n, ties, y', e, hy', hn8, hT⟩ := tie_web_ok 98 y hy
      refine ⟨⟨[c0, some .src, a2, a3, g4, b5, some (.d d), none, none, none, none, none, none], some y⟩, ⟨[c0, some .src, a2, a3, some (.d (tw n (tieP ties))), b5, some (.d d), none, none, none, none, none, none], some y'⟩, rfl, e_seq (spar1 (x := .d (tw n (tieP ties))) (s1 := ⟨[c0, some .src, a2, a3, g4, b5, some (.d d), none, none, none, none, none, none], some y'⟩) (ccall (s1 := ⟨[c0, some .src, a2, a3, g4, b5, some (.d d), none, none, none, none, none, none], some y⟩) (xs := [.src, .d (.int 5), .d (.int 8)]) rfl e)) (e_ifF (cond4 (n := n) (P := tieP ties) (by omega) rfl (small_missing hT hn8)) rfl), _, _, y', rfl, hy'⟩)
  -- the parts of two webs
  have hs9 : cCall "_law_square" [] (fnAt T 200 100) ⟨[c0, some .src, a2, a3, g4, b5, g6, none, none, none, none, none, none], some x2⟩ = some (.d (tw 9 (tieP T9)), ⟨[c0, some .src, a2, a3, g4, b5, g6, none, none, none, none, none, none], some x2⟩) := pcall (s := ⟨[c0, some .src, a2, a3, g4, b5, g6, none, none, none, none, none, none], some x2⟩) (xs := []) rfl (square_ok 98 (some x2))
  have hp13 : cCall "_law_paley" [(cC (.int 13))] (fnAt T 200 100) ⟨[c0, some .src, a2, a3, g4, b5, g6, none, none, none, none, none, none], some x2⟩ = some (.d (tw 13 (pal 13)), ⟨[c0, some .src, a2, a3, g4, b5, g6, none, none, none, none, none, none], some x2⟩) := pcall (s := ⟨[c0, some .src, a2, a3, g4, b5, g6, none, none, none, none, none, none], some x2⟩) (xs := [.d (Nm 13)]) rfl (law_paley_ok 98 (q := 13) (by decide) (by decide) (some x2))
  obtain ⟨d, x3, hd, e3, hx3⟩ := law_of_ok 98 x2 hx2 (ds := [tw 9 (tieP T9), tw 13 (pal 13)]) (by simp) (by simp)
  obtain ⟨n, P, rfl, fin⟩ : ∃ n P, d = tw n P ∧ Fin' n P := by
    simp only [List.mem_cons, List.not_mem_nil, or_false] at hd
    rcases hd with rfl | rfl
    · exact ⟨9, _, rfl, fin9⟩
    · exact ⟨13, _, rfl, fin13⟩
  have n13 := fin.n13
  have n0 := fin.n0
  obtain ⟨nm', x4, e4, hx4, m0, m1⟩ := pick_ok 99 x3 hx3 (n : Int) (by omega)
  obtain ⟨name, rfl⟩ : ∃ i : Nat, nm' = (i : Int) := ⟨nm'.toNat, by omega⟩
  have hname : name < n := by omega
  obtain ⟨s7, hf7, h8, h9, rfl⟩ := sfor_ind (as := aName 8) (ic := (icAny (.e (cDisp true [(cC (.bool true)), (cC (.bool false))])))) (F := fnAt T 200 100) (b := (sSeq (sPar [9] [(cLc [12] (aName 12) (icRng1 (.e (cBin fIxD (.e (cVar false 4)) (.e (cC (.int 0)))))) (bAnd (bOf (cBin fNe (.e (cVar false 12)) (.e (cVar false 7)))) (bOf (cBin fEq (.e (cBin (fInD false) (.e (cDisp true [(cVar false 7), (cVar false 12)])) (.e (cBin fIxD (.e (cVar false 4)) (.e (cC (.int 2))))))) (.e (cVar false 8))))) (cVar false 12))])
    (sIf (bOr (bOf (cBin fIsNot (.e (cCall "missing_wish" [(cCall "_law_part" [(cVar false 4), (cVar false 9)]), (cC (.int 2))])) (.e (cC .none)))) (bOf (cBin fLt (.e (cNat fLenD [(.e (cVar false 9))])) (.e (cC (.int 4)))))) (sRet (cC (.bool false))) sPass))) (s := ⟨[c0, some .src, a2, a3, some (.d (tw n P)), b5, g6, some (.d (Nm name)), none, none, none, none, none], some x4⟩) (ds := [PyData.bool true, .bool false]) (s0 := ⟨[c0, some .src, a2, a3, some (.d (tw n P)), b5, g6, some (.d (Nm name)), none, none, none, none, none], some x4⟩) rfl
    (fun _ s => ∃ h8 h9, s = ⟨[c0, some .src, a2, a3, some (.d (tw n P)), b5, g6, some (.d (Nm name)), h8, h9, none, none, none], some x4⟩) ⟨none, none, rfl⟩ (by
      rintro j d s hj ⟨h8, h9, rfl⟩
      obtain ⟨tied, rfl⟩ : ∃ b : Bool, d = .bool b := by
        have hd := List.mem_of_getElem? hj
        simp only [List.mem_cons, List.not_mem_nil, or_false] at hd
        rcases hd with rfl | rfl
        · exact ⟨true, rfl⟩
        · exact ⟨false, rfl⟩
      obtain ⟨k1, k2, k3⟩ := fin.ok name hname tied
      exact ⟨⟨[c0, some .src, a2, a3, some (.d (tw n P)), b5, g6, some (.d (Nm name)), some (.d (.bool tied)), h9, none, none, none], some x4⟩, ⟨[c0, some .src, a2, a3, some (.d (tw n P)), b5, g6, some (.d (Nm name)), some (.d (.bool tied)), some (.d (.list ((someL n P name tied).map Nm))), none, none, none], some x4⟩, rfl, e_seq (spar1 (some_at (n := n) (P := P) (by omega) hname)) (e_ifF (cond7 (n := n) (P := P) (nm := someL n P name tied) rfl rfl (by have := some_len n P name tied; omega) (fin.part name hname tied) k1 (part_len n13 P _) k2 k3) rfl), _, _, rfl⟩)
  have hbody : b_law (fnAt T 200 100) ⟨[c0, none, none, none, none, none, none, none, none, none, none, none, none], none⟩ = some (.rt (.d (.bool true)), ⟨[c0, some .src, a2, a3, some (.d (tw n P)), b5, g6, some (.d (Nm name)), h8, h9, none, none, none], some x4⟩) := by
    unfold b_law
    refine e_seq (s1 := ⟨[c0, some .src, none, none, none, none, none, none, none, none, none, none, none], some x⟩) (spar1 (x := .src) (s1 := ⟨[c0, none, none, none, none, none, none, none, none, none, none, none, none], some x⟩) ?_) (e_seq hf1 (e_seq hf2 (e_seq hf3 (e_seq hf4 (e_seq (s1 := ⟨[c0, some .src, a2, a3, some (.d (tw n P)), b5, g6, none, none, none, none, none, none], some x3⟩) (spar1 (x := .d (tw n P)) (s1 := ⟨[c0, some .src, a2, a3, g4, b5, g6, none, none, none, none, none, none], some x3⟩) ?_) (e_seq (s1 := ⟨[c0, some .src, a2, a3, some (.d (tw n P)), b5, g6, some (.d (Nm name)), none, none, none, none, none], some x4⟩) (spar1 (x := .d (Nm name)) (s1 := ⟨[c0, some .src, a2, a3, some (.d (tw n P)), b5, g6, none, none, none, none, none, none], some x4⟩) ?_) (e_seq hf7 (sret rfl))))))))
    · subst hc0
      exact ccall (s1 := ⟨[some (.d (.list (ns.map PyData.int))), none, none, none, none, none, none, none, none, none, none, none, none], none⟩) (xs := [.d (.list (ns.map PyData.int))]) rfl ex
    · exact ccall (s1 := ⟨[c0, some .src, a2, a3, g4, b5, g6, none, none, none, none, none, none], some x2⟩) (xs := [.src, .d (.list [tw 9 (tieP T9), tw 13 (pal 13)])]) (eargs (x := .src) rfl (eargs (cdisp (b := false) (eargs hs9 (eargs hp13 rfl)) rfl (by rw [sizeLine_eq]; simp)) rfl)) e3
    · exact ccall (s1 := ⟨[c0, some .src, a2, a3, some (.d (tw n P)), b5, g6, none, none, none, none, none, none], some x3⟩) (xs := [.src, .d (.int (n : Int))]) rfl e4
  refine ⟨some x4, ?_⟩
  rw [fnAt_call (d := ⟨1, 13, b_law⟩) rfl]
  subst hc0
  exact run_env (n := 1) (nn := 13) (xs := [.d (.list (ns.map PyData.int))]) rfl rfl hbody
end L56
open PySem PySem.W PyProof.Rows
set_option maxHeartbeats 0 in
theorem PySem.Challenge.cw_pairstoldapart_k56_whole_least_wished_we_holds : PySem.Challenge.rw_pairstoldapart_k56_whole_least_wished_we.Holds := by
  w_on; o_law; k_head; (case hw => w_witness2)
  k_fill
  refine Ev.walk_G (l := PySem.Challenge.rw_pairstoldapart_k56_whole_least_wished_we) (n := 63) (k := 100 + 1) (x := "script") (F := Ev.fnAt L56.T 200 (100 + 1)) rfl (by decide) rfl ⟨rfl, by decide, by decide⟩ (fun w h Y => PySem.W.kIn_of Y) ?F (fun ns h => L56.math ns h)
  case F =>
    intro w mg fa h KX G hmg
    refine' L56.all_mk KX G hmg ?a0 ?l0 ?c0 ?k0 ?a1 ?l1 ?c1 ?k1 ?a2 ?l2 ?c2 ?k2 ?a3 ?l3 ?c3 ?k3 ?a4 ?l4 ?c4 ?k4 ?a5 ?l5 ?c5 ?k5 ?a6 ?l6 ?c6 ?k6 ?a7 ?l7 ?c7 ?k7 ?a8 ?l8 ?c8 ?k8 ?a9 ?l9 ?c9 ?k9 ?a10 ?l10 ?c10 ?k10 ?a11 ?l11 ?c11 ?k11 ?a12 ?l12 ?c12 ?k12 ?a13 ?l13 ?c13 ?k13 ?a14 ?l14 ?c14 ?k14 ?a15 ?l15 ?c15 ?k15 ?a16 ?l16 ?c16 ?k16 ?a17 ?l17 ?c17 ?k17 ?a18 ?l18 ?c18 ?k18 ?a19 ?l19 ?c19 ?k19 ?a20 ?l20 ?c20 ?k20 ?a21 ?l21 ?c21 ?k21 ?z0 ?z1 ?z2 ?z3 ?z4 ?z5 ?z6 ?z7 ?z8 ?z9 ?z10 ?z11 ?z12
    (case a0 => k_is); (case l0 => k_is); (case c0 => k_is); (case k0 => k_is); (case a1 => k_is); (case l1 => k_is); (case c1 => k_is); (case k1 => k_is); (case a2 => k_is); (case l2 => k_is); (case c2 => k_is); (case k2 => k_is); (case a3 => k_is); (case l3 => k_is); (case c3 => k_is); (case k3 => k_is); (case a4 => k_is); (case l4 => k_is); (case c4 => k_is); (case k4 => k_is); (case a5 => k_is); (case l5 => k_is); (case c5 => k_is); (case k5 => k_is); (case a6 => k_is); (case l6 => k_is); (case c6 => k_is); (case k6 => k_is); (case a7 => k_is); (case l7 => k_is); (case c7 => k_is); (case k7 => k_is); (case a8 => k_is); (case l8 => k_is); (case c8 => k_is); (case k8 => k_is); (case a9 => k_is); (case l9 => k_is); (case c9 => k_is); (case k9 => k_is); (case a10 => k_is); (case l10 => k_is); (case c10 => k_is); (case k10 => k_is); (case a11 => k_is); (case l11 => k_is); (case c11 => k_is); (case k11 => k_is); (case a12 => k_is); (case l12 => k_is); (case c12 => k_is); (case k12 => k_is); (case a13 => k_is); (case l13 => k_is); (case c13 => k_is); (case k13 => k_is); (case a14 => k_is); (case l14 => k_is); (case c14 => k_is); (case k14 => k_is); (case a15 => k_is); (case l15 => k_is); (case c15 => k_is); (case k15 => k_is); (case a16 => k_is); (case l16 => k_is); (case c16 => k_is); (case k16 => k_is); (case a17 => k_is); (case l17 => k_is); (case c17 => k_is); (case k17 => k_is); (case a18 => k_is); (case l18 => k_is); (case c18 => k_is); (case k18 => k_is); (case a19 => k_is); (case l19 => k_is); (case c19 => k_is); (case k19 => k_is); (case a20 => k_is); (case l20 => k_is); (case c20 => k_is); (case k20 => k_is); (case a21 => k_is); (case l21 => k_is); (case c21 => k_is); (case k21 => k_is); (case z0 => k_is); (case z1 => k_is); (case z2 => k_is); (case z3 => k_is); (case z4 => k_is); (case z5 => k_is); (case z6 => k_is); (case z7 => k_is); (case z8 => k_is); (case z9 => k_is); (case z10 => k_is); (case z11 => k_is); (case z12 => k_is)
