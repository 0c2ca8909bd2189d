import PyProof.Rows.All
import Wide.All
import OpenK.AllK
import Wide.FinOn
import KE.LtData
import KE.SortData
import KE.DataEq
import KE.DataIsa
import HandS.List
import HandS.ForMost
import HandS.Exc
import HandS.ExcOwn
import HandS.WordsExc
import HandS.Lambda
import HandS.Defaults
import KE.DataCmp
import KE.DataAny
import HandS.WideBits
import HandS.TupMul
import HandS.TupAny
import HandS.TupLe
import PyProof.ListMulRoad
import PyProof.FactsAll.tuple_2
import HandS.RevTup
import KE.DataMinMax
import PyProof.SumWalkG
import PyProof.WalksMore
import PyProof.SeqI3
import HandS.Comp
import HandS.Zip
import HandS.Rev
import HandS.Conv
import HandS.Style
import HandS.ExcSuper
import KE.KExcSuper
import KE.KSuper
import KE.KRevSl
import HandS.Dict
import HandS.TryMany
import KE.KStateDown
import HandS.Head0
import HandS.Head1
import HandS.Head2
import HandS.HeadHook4
import HandS.HeadWalk
import PySem.Challenge.RW_powermade_k01_whole_orders_and_monomials
set_option Elab.async false
set_option linter.all false
set_option maxRecDepth 100000
set_option maxHeartbeats 4000000
/-! # DM: mirrors' outcomes and words: what a def computes on data, with no program in sight. -/
namespace DL
open PySem PySem.Spec L2
abbrev D := PyData
/-- what all drawing rests on -/
structure DS where
  cells : List Int
  great : List Int
  spot : Int
inductive Res (α : Type) where
  | ok (a : α) (S : DS)
  | exc (c n : Str) (x : D) (S : DS)
  | stuck
def M (α : Type) := DS → Res α
namespace M
def pure {α : Type} (a : α) : M α := fun S => .ok a S
@[irreducible] def bind {α β : Type} (m : M α) (k : α → M β) : M β := fun S => match m S with
  | .ok a S' => k a S'
  | .exc c n x S' => .exc c n x S'
  | .stuck => .stuck
end M
instance : Monad M where
  pure := M.pure
  bind := M.bind
theorem bind_app {α β : Type} (m : M α) (k : α → M β) (S : DS) : (m >>= k) S = (match m S with
    | .ok a S' => k a S'
    | .exc c n x S' => .exc c n x S'
    | .stuck => .stuck) := by
  show M.bind m k S = _
  unfold M.bind
  rfl
/-- arguments, items: data or the drawing state -/
inductive Ar where
  | dat (d : D)
  | drw
  | giv (ns : List Int)
abbrev Mr := List Ar → M D
def stuck {α : Type} : M α := fun _ => .stuck
def lift {α : Type} (o : Option α) : M α := fun S => match o with
  | some a => .ok a S
  | none => .stuck
def raise {α : Type} (c n : Str) (x : D) : M α := fun S => .exc c n x S
def addD : D → D → Option D
  | .int a, .int b => some (.int (a + b))
  | .str a, .str b => if a.length + b.length ≤ 1000000 then some (.str (a ++ b)) else none
  | .list a, .list b => if a.length + b.length ≤ 1000000 then some (.list (a ++ b)) else none
  | .tuple a, .tuple b => if a.length + b.length ≤ 1000000 then some (.tuple (a ++ b)) else none
  | _, _ => none
def subD : D → D → Option D
  | .int a, .int b => some (.int (a - b))
  | _, _ => none
def fdivD : D → D → Option D
  | .int a, .int b => if b = 0 ∨ Builtin.divisionGoesByPylong a b = true then none else some (.int (a.fdiv b))
  | _, _ => none
def modD : D → D → Option D
  | .int a, .int b => if b = 0 then none else some (.int (a.fmod b))
  | _, _ => none
def mulD : D → D → Option D
  | .int a, .int b => if ((Builtin.Int.intBits a : Int) + (Builtin.Int.intBits b : Int) ≤ 134217728) then some (.int (a * b)) else none
  | .list a, .int k => if 0 ≤ k ∧ k ≤ 1000 ∧ a.length ≤ 1000 then some (.list (List.replicate k.toNat a).flatten) else none
  | .tuple a, .int k => if 0 ≤ k ∧ k ≤ 1000 ∧ a.length ≤ 1000 then some (.tuple (List.replicate k.toNat a).flatten) else none
  | _, _ => none
def powD : D → D → Option D
  | .int a, .int b => if 0 ≤ b ∧ b ≤ 1000000 ∧ a.natAbs < 2 ^ 64 then some (.int (a ^ b.toNat)) else none
  | _, _ => none
def negD : D → Option D
  | .int a => some (.int (-a))
  | _ => none
def eqP (x y : D) : Option Bool :=
  if x.plain = true ∧ y.plain = true ∧ x.depth ≤ 60 ∧ y.depth ≤ 60 then some (PyData.eqv x y) else
  match x, y with
  | .tuple xs, .tuple [] => if xs = [] then none else some false
  | _, _ => none
def eqD (x y : D) : Option D := (eqP x y).map .bool
def neD (x y : D) : Option D := (eqP x y).map fun b => .bool (!b)
def neD' (x y : D) : Option D := if x.plain = true ∧ y.plain = true ∧ x.depth ≤ 60 ∧ y.depth ≤ 60 then some (.bool (!PyData.eqv x y)) else none
def ordP (x y : D) : Bool := PySem.W.alike x y && !(match x with | .none => true | _ => false) && decide (x.depth ≤ 60)
def ltD (x y : D) : Option D := if ordP x y = true then some (.bool (PySem.W.dataLt x y)) else none
def gtD (x y : D) : Option D := if ordP x y = true then some (.bool (PySem.W.dataLt y x)) else none
def leD (x y : D) : Option D := if ordP x y = true then some (.bool (!PySem.W.dataLt y x)) else none
def geD (x y : D) : Option D := if ordP x y = true then some (.bool (!PySem.W.dataLt x y)) else none
def inP (x y : D) : Option Bool := match y with
  | .tuple ys => if PyData.plainAll ys = true ∧ x.plain = true ∧ x.depth ≤ 60 then some (ys.any fun z => PyData.eqv z x) else none
  | .list ys => if PyData.plainAll ys = true ∧ x.plain = true ∧ x.depth ≤ 60 then some (ys.any fun z => PyData.eqv z x) else none
  | _ => none
def inD (x y : D) : Option D := (inP x y).map .bool
def notInD (x y : D) : Option D := (inP x y).map fun b => .bool (!b)
def isP (x y : D) : Option Bool := match y, x with
  | .none, .none => some true
  | .none, _ => some false
  | .bool b, .bool a => some (decide (a = b))
  | _, _ => none
def isD (x y : D) : Option D := (isP x y).map .bool
def isNotD (x y : D) : Option D := (isP x y).map fun b => .bool (!b)
def mkTup (ds : List D) : M D := if ds.length ≤ 1000 then pure (.tuple ds) else stuck
def mkLst (ds : List D) : M D := if ds.length ≤ 1000 then pure (.list ds) else stuck
def ixD : D → D → Option D
  | .list xs, .int i => atI xs i
  | .tuple xs, .int i => atI xs i
  | .str x, .int i => if x.length ≤ 1000000 then (atI x.cps.toList i).map fun c => .str ⟨#[c]⟩ else none
  | _, _ => none
def asI : D → M (Option Int)
  | .int i => pure (some i)
  | _ => stuck
def cutL {α : Type} (xs : List α) (lo hi : Option Int) : List α := (xs.drop (HT.sIx xs.length 0 lo)).take (HT.sIx xs.length xs.length hi - HT.sIx xs.length 0 lo)
def slD (x : D) (lo hi : Option Int) : Option D := match x with
  | .list xs => some (.list (cutL xs lo hi))
  | .tuple xs => some (.tuple (cutL xs lo hi))
  | _ => none
def asB : D → M Bool
  | .bool b => pure b
  | _ => stuck
def lenD : List D → Option D
  | [.list ds] => some (.int ds.length)
  | [.tuple ds] => some (.int ds.length)
  | [.str x] => if x.length ≤ 1000000 then some (.int x.length) else none
  | _ => none
def absD : List D → Option D
  | [.int i] => some (.int (if i < 0 then -i else i))
  | _ => none
def intD : List D → Option D
  | [.int i] => some (.int i)
  | [.bool k] => some (.int (if k = true then 1 else 0))
  | _ => none
def tupleD : List D → Option D
  | [.list ds] => some (.tuple ds)
  | [.tuple ds] => some (.tuple ds)
  | _ => none
def listD : List D → Option D
  | [.list ds] => some (.list ds)
  | [.tuple ds] => some (.list ds)
  | _ => none
def asBools : List D → Option (List Bool)
  | [] => some []
  | .bool b :: r => (asBools r).map (b :: ·)
  | _ => none
def asInts : List D → Option (List Int)
  | [] => some []
  | .int i :: r => (asInts r).map (i :: ·)
  | _ => none
def allD : List D → Option D
  | [.list ds] => (asBools ds).map fun bs => .bool (bs.all id)
  | _ => none
def sumD : List D → Option D
  | [.list ds] => (asInts ds).map fun ns => .int ns.sum
  | [.tuple ds] => (asInts ds).map fun ns => .int ns.sum
  | _ => none
def maxL : List Int → Int
  | [] => 0
  | [n] => n
  | n :: r => max n (maxL r)
def maxD : List D → Option D
  | [.list ds] => (asInts ds).bind fun ns => if ns = [] then none else some (.int (maxL ns))
  | [.int i, .int j] => some (.int (max i j))
  | _ => none
def minD : List D → Option D
  | [.int i, .int j] => some (.int (min i j))
  | _ => none
def fn0 (g : M D) : Mr
  | [] => g
  | _ => stuck
def fn1 (g : D → M D) : Mr
  | [.dat a] => g a
  | _ => stuck
def fn2 (g : D → D → M D) : Mr
  | [.dat a, .dat b] => g a b
  | _ => stuck
def fn3 (g : D → D → D → M D) : Mr
  | [.dat a, .dat b, .dat d] => g a b d
  | _ => stuck
def fm0 (g : M D) : Mr
  | [.drw] => g
  | _ => stuck
def fm1 (g : D → M D) : Mr
  | [.drw, .dat a] => g a
  | _ => stuck
def fm2 (g : D → D → M D) : Mr
  | [.drw, .dat a, .dat b] => g a b
  | _ => stuck
def fg1 (g : List Int → M D) : Mr
  | [.giv a] => g a
  | _ => stuck
def asSq : D → M (List D)
  | .list ds => pure ds
  | .tuple ds => pure ds
  | _ => stuck
def rngL (lo : Int) (n : Nat) : List D := (List.range n).map fun (i : Nat) => .int (lo + (i : Int))
def asN : D → M Int
  | .int i => if -1000000 ≤ i ∧ i ≤ 1000000 then pure i else stuck
  | _ => stuck
def zipL : List D → List D → List D
  | a :: r, b :: t => .tuple [a, b] :: zipL r t
  | _, _ => []
def asZip : D → D → M (List D)
  | .list xs, .list ys => pure (zipL xs ys)
  | .tuple xs, .tuple ys => pure (zipL xs ys)
  | _, _ => stuck
def enumL : Nat → List D → List D
  | _, [] => []
  | n, d :: r => .tuple [.int n, d] :: enumL (n + 1) r
def asLs : D → M (List D)
  | .list ds => pure ds
  | _ => stuck
def quiet {α : Type} (m : M α) : M α := fun S => match m S with
  | .ok a S' => .ok a S'
  | _ => .stuck
def elM (t : M Bool) (m : M D) : M (Option D) := do let k ← t; if k = true then (do let x ← m; pure (some x)) else pure none
def compM (f : D → M (Option D)) : List D → M (List D)
  | [] => pure []
  | d :: ds => do let o ← quiet (f d); let r ← compM f ds; pure (o.toList ++ r)
def lcM (f : D → M (Option D)) (ds : List D) : M (List D) := if ds.length ≤ 1000 then compM f ds else stuck
def two {α : Type} (f : D → D → M α) : D → M α
  | .tuple [a, b] => f a b
  | _ => stuck
def okLen (ds : List D) : M (List D) := if ds.length ≤ 1000 then pure ds else stuck
def repL : D → D → M (List D)
  | .list a, .int k => if 0 ≤ k ∧ k ≤ 1000 ∧ a.length ≤ 1000 then pure (List.replicate k.toNat a).flatten else stuck
  | _, _ => stuck
def setAt (ds : List D) (v : D) : Option Nat → M (List D)
  | some j => pure (ds.set j v)
  | none => stuck
def setL (ds : List D) (i v : D) : M (List D) := match i with
  | .int k => setAt ds v (ixN ds.length k)
  | _ => stuck
def pushL (ds : List D) (d : D) : M (List D) := if ds.length ≤ 1000 then pure (ds ++ [d]) else stuck
def popL (ds : List D) (i : D) : M (D × List D) := match i with
  | .int k => if 0 ≤ k ∧ k < 1000000 then (match ds[k.toNat]? with
    | some d => pure (d, ds.eraseIdx k.toNat)
    | none => stuck) else stuck
  | _ => stuck
def fuelD : D → Nat
  | .int i => i.natAbs + 2
  | _ => 0
def revD : D → Option D
  | .list xs => some (.list xs.reverse)
  | .tuple xs => some (.tuple xs.reverse)
  | _ => none
def getSpot : M D := fun S => .ok (.int S.spot) S
def setSpot : D → M Unit
  | .int n => fun S => .ok () { S with spot := n }
  | _ => stuck
def memL (b : Bool) (S : DS) : List Int := if b = true then S.great else S.cells
def memD (b : Bool) (S : DS) : D := .list ((memL b S).map .int)
def lenMem (b : Bool) : M D := fun S => .ok (.int (memL b S).length) S
def getMem (b : Bool) (y : D) : M D := fun S => lift (ixD (memD b S) y) S
def setGreat (S : DS) (v : Int) : Option Nat → Res Unit
  | some j => .ok () { S with great := S.great.set j v }
  | none => .stuck
def setMem : D → D → M Unit
  | .int k, .int v => fun S => setGreat S v (ixN S.great.length k)
  | _, _ => stuck
def greatNe : M Bool := do let z ← (fun S => lift (neD' (memD true S) (.list [])) S : M D); asB z
def heardM (ls : List (Str × Str × Str)) (m : M D) : M D := fun S => match m S with
  | .ok d S' => .ok (.list [.str "told", d]) S'
  | .exc cn n x S' => (match ls.find? fun q => decide (q.1 = cn ∧ q.2.1 = n) with
    | some q => .ok (.list [.str q.2.2, x]) S'
    | none => .stuck)
  | .stuck => .stuck
end DL
/-! # DL: Python defs as functions on data. First part: data in the abstract heap, the drawing state, mirrors' outcomes. -/
namespace DL
open PySem PySem.Spec L2
/-! ### data in a heap -/
mutual
/-- d stands in G as the value v -/
def Da (K : PySem.W.Frag) (G : Hp) : D → V → Prop
  | .none, v => v = .non
  | .bool b, v => v = .bl b
  | .int i, v => v = .int i
  | .str s, v => v = .str s
  | .list ds, v => ∃ a vs, v = .ref a ∧ G a = some (.lst vs) ∧ DaAll K G ds vs
  | .tuple ds, v => ∃ a vs, v = .ref a ∧ SqT K G a vs ∧ DaAll K G ds vs
  | .dict kvs, v => kvs = [] ∧ ∃ a, v = .ref a ∧ G a = some (.dK [])
def DaAll (K : PySem.W.Frag) (G : Hp) : List D → List V → Prop
  | [], vs => vs = []
  | d :: ds, vs => ∃ v r, vs = v :: r ∧ Da K G d v ∧ DaAll K G ds r
end
theorem rd_same {G G' : Hp} (e : Same G G') {a : Addr} {u : HO} (h : Rd G a u) : Rd G' a u := by
  rcases h with h | ⟨o, h⟩
  · exact .inl (e _ _ h)
  · exact .inr ⟨o, e _ _ h⟩
theorem sqT_same {K : PySem.W.Frag} {G G' : Hp} (e : Same G G') {a : Addr} {xs : List V} (h : SqT K G a xs) : SqT K G' a xs := by
  rcases h with h | h
  · exact .inl (rd_same e h)
  · exact .inr h
theorem sqL_same {K : PySem.W.Frag} {G G' : Hp} (e : Same G G') {a : Addr} {xs : List V} (h : SqL K G a xs) : SqL K G' a xs := by
  rcases h with h | h
  · exact .inl (rd_same e h)
  · exact .inr h
mutual
theorem Da.mono {K : PySem.W.Frag} {G G' : Hp} (e : Same G G') : ∀ {d : D} {v : V}, Da K G d v → Da K G' d v
  | .none, _, h => h
  | .bool _, _, h => h
  | .int _, _, h => h
  | .str _, _, h => h
  | .list ds, v, ⟨a, vs, h1, h2, h3⟩ => ⟨a, vs, h1, e _ _ h2, DaAll.mono e h3⟩
  | .tuple ds, v, ⟨a, vs, h1, h2, h3⟩ => ⟨a, vs, h1, sqT_same e h2, DaAll.mono e h3⟩
  | .dict kvs, v, ⟨h0, a, h1, h2⟩ => ⟨h0, a, h1, e _ _ h2⟩
theorem DaAll.mono {K : PySem.W.Frag} {G G' : Hp} (e : Same G G') : ∀ {ds : List D} {vs : List V}, DaAll K G ds vs → DaAll K G' ds vs
  | [], _, h => h
  | _ :: _, _, ⟨v, r, h1, h2, h3⟩ => ⟨v, r, h1, Da.mono e h2, DaAll.mono e h3⟩
end
theorem DaAll.length {K : PySem.W.Frag} {G : Hp} : ∀ {ds : List D} {vs : List V}, DaAll K G ds vs → vs.length = ds.length
  | [], _, h => by
    have h : _ = [] := h
    rw [h]; rfl
  | _ :: _, _, ⟨v, r, h1, _, h3⟩ => by rw [h1, List.length_cons, List.length_cons, DaAll.length h3]
theorem DaAll.get {K : PySem.W.Frag} {G : Hp} : ∀ {ds : List D} {vs : List V} {i : Nat} {d : D}, DaAll K G ds vs → ds[i]? = some d → ∃ v, vs[i]? = some v ∧ Da K G d v
  | [], _, _, _, _, e => by simp at e
  | d :: ds, _, 0, d', ⟨v, r, h1, h2, _⟩, e => by
    have e' : d = d' := Option.some.inj e
    subst e' h1
    exact ⟨v, rfl, h2⟩
  | d :: ds, _, i + 1, d', ⟨v, r, h1, _, h3⟩, e => by
    subst h1
    obtain ⟨u, q1, q2⟩ := DaAll.get (i := i) h3 (by simpa using e)
    exact ⟨u, by simpa using q1, q2⟩
theorem DaAll.get' {K : PySem.W.Frag} {G : Hp} : ∀ {ds : List D} {vs : List V} {i : Nat} {v : V}, DaAll K G ds vs → vs[i]? = some v → ∃ d, ds[i]? = some d ∧ Da K G d v
  | [], _, i, v, h, e => by
    have h : _ = [] := h
    rw [h] at e
    simp at e
  | d :: ds, _, 0, v', ⟨v, r, h1, h2, _⟩, e => by
    subst h1
    have e' : v = v' := Option.some.inj e
    subst e'
    exact ⟨d, rfl, h2⟩
  | d :: ds, _, i + 1, v', ⟨v, r, h1, _, h3⟩, e => by
    subst h1
    obtain ⟨u, q1, q2⟩ := DaAll.get' (i := i) h3 (by simpa using e)
    exact ⟨u, by simpa using q1, q2⟩
theorem DaAll.append {K : PySem.W.Frag} {G : Hp} : ∀ {ds es : List D} {vs us : List V}, DaAll K G ds vs → DaAll K G es us → DaAll K G (ds ++ es) (vs ++ us)
  | [], _, _, _, h, q => by
    have h : _ = [] := h
    rw [h]
    exact q
  | _ :: _, _, _, _, ⟨v, r, h1, h2, h3⟩, q => ⟨v, _, by rw [h1, List.cons_append], h2, DaAll.append h3 q⟩
theorem DaAll.one {K : PySem.W.Frag} {G : Hp} {d : D} {v : V} (h : Da K G d v) : DaAll K G [d] [v] := ⟨v, [], rfl, h, rfl⟩
theorem DaAll.ofMem {K : PySem.W.Frag} {G : Hp} : ∀ {ds : List D} {vs : List V}, vs.length = ds.length → (∀ (i : Nat) d v, ds[i]? = some d → vs[i]? = some v → Da K G d v) → DaAll K G ds vs
  | [], [], _, _ => rfl
  | [], _ :: _, h, _ => by simp at h
  | _ :: _, [], h, _ => by simp at h
  | d :: ds, v :: vs, hl, h => ⟨v, vs, rfl, h 0 d v rfl rfl, DaAll.ofMem (by simpa using hl) fun i d' v' e1 e2 => h (i + 1) d' v' (by simpa using e1) (by simpa using e2)⟩
theorem DaAll.ints {K : PySem.W.Frag} {G : Hp} : ∀ (ns : List Int), DaAll K G (ns.map .int) (ns.map .int)
  | [] => rfl
  | n :: ns => ⟨.int n, _, rfl, rfl, DaAll.ints ns⟩
theorem DaAll.ints_inv {K : PySem.W.Frag} {G : Hp} : ∀ {ns : List Int} {vs : List V}, DaAll K G (ns.map .int) vs → vs = ns.map .int
  | [], _, h => h
  | n :: ns, _, ⟨v, r, h1, h2, h3⟩ => by
    have h2 : v = .int n := h2
    rw [h1, h2, DaAll.ints_inv h3]
    rfl
/-! the own reading of the machine -/
mutual
theorem Da.reads {X : Cx} {pins : List (Addr × Obj)} {σ : L2.St} {H : Hp} {s : Shared} (I : Inv X pins σ H s) : ∀ (d : D) (v : V) (u : Value), Da X.K H d v → RelV v u → ∃ as, Reads s.heap u d as
  | .none, _, _, h, r => by
    cases (show _ = V.non from h)
    cases r
    exact ⟨_, Reads.none⟩
  | .bool b, _, _, h, r => by
    cases (show _ = V.bl b from h)
    cases r
    exact ⟨_, Reads.bool b⟩
  | .int i, _, _, h, r => by
    cases (show _ = V.int i from h)
    obtain ⟨t, rfl⟩ := r
    exact ⟨_, Reads.int i t⟩
  | .str x, _, _, h, r => by
    cases (show _ = V.str x from h)
    obtain ⟨t, rfl⟩ := r
    exact ⟨_, Reads.str x t⟩
  | .list ds, _, _, ⟨a, vs, h1, h2, h3⟩, r => by
    subst h1
    cases r
    obtain ⟨its, rv, ⟨o, n, ho, hc, _, hd⟩, _⟩ := I.list (SqL.of h2)
    obtain ⟨as, hr⟩ := DaAll.reads I ds _ its h3 rv
    exact ⟨_, Reads.list ho hc hd hr⟩
  | .tuple ds, _, _, ⟨a, vs, h1, h2, h3⟩, r => by
    subst h1
    cases r
    obtain ⟨its, rv, ⟨o, ho, hc, n, hd⟩, _⟩ := I.tuple h2
    obtain ⟨as, hr⟩ := DaAll.reads I ds _ its h3 rv
    exact ⟨_, Reads.tuple ho hc hd hr⟩
  | .dict kvs, _, _, ⟨h0, a, h1, h2⟩, r => by
    subst h0 h1
    cases r
    obtain ⟨_, _, vs, hk, o, es, ep, ho, hd, hdd, _, hp, _⟩ := I.hok a _ h2
    cases hk
    have hes' : es.toList = [] := List.eq_nil_of_length_eq_zero hp.length
    refine ⟨_, Reads.dict (kvs := []) ho ?_ hdd (by rw [hes']; exact .nil) (by rw [hes']; exact .nil)⟩
    exact hd.1
theorem DaAll.reads {X : Cx} {pins : List (Addr × Obj)} {σ : L2.St} {H : Hp} {s : Shared} (I : Inv X pins σ H s) : ∀ (ds : List D) (vs : List V) (us : List Value), DaAll X.K H ds vs → Vals vs us → ∃ as, ReadsAll s.heap us ds as
  | [], _, _, h, r => by
    cases (show _ = [] from h)
    cases r
    exact ⟨_, ReadsAll.nil⟩
  | d :: ds, _, _, ⟨v, rr, h1, h2, h3⟩, r => by
    subst h1
    cases r with
    | cons r1 r2 =>
      obtain ⟨as, q1⟩ := Da.reads I d _ _ h2 r1
      obtain ⟨bs, q2⟩ := DaAll.reads I ds _ _ h3 r2
      exact ⟨_, ReadsAll.cons q1 q2⟩
end
end DL
/-! # DL, second part: mirrors' monad, contexts, states, the judgements. -/
namespace DL
open PySem PySem.Spec L2
/-! ### the monad of mirrors -/
def Res.acc {α : Type} (r : Res α) (Φ : α → DS → Prop) (Ψ : Str → Str → D → DS → Prop) : Prop := match r with
  | .ok a S => Φ a S
  | .exc c n x S => Ψ c n x S
  | .stuck => False
theorem acc_bind {α β : Type} {m : M α} {k : α → M β} {S : DS} {Φ : β → DS → Prop} {Ψ : Str → Str → D → DS → Prop} (h : ((m >>= k) S).acc Φ Ψ) : (m S).acc (fun a S' => (k a S').acc Φ Ψ) Ψ := by
  rw [bind_app] at h
  cases e : m S with
  | ok a S' => rw [e] at h; exact h
  | exc c n x S' => rw [e] at h; exact h
  | stuck => rw [e] at h; exact h
theorem acc_mono {α : Type} {r : Res α} {Φ Φ' : α → DS → Prop} {Ψ Ψ' : Str → Str → D → DS → Prop} (h : r.acc Φ Ψ) (hΦ : ∀ a S, Φ a S → Φ' a S) (hΨ : ∀ c n x S, Ψ c n x S → Ψ' c n x S) : r.acc Φ' Ψ' := by
  cases r with
  | ok a S => exact hΦ _ _ h
  | exc c n x S => exact hΨ _ _ _ _ h
  | stuck => exact h
theorem acc_lift {α : Type} {o : Option α} {S : DS} {Φ : α → DS → Prop} {Ψ : Str → Str → D → DS → Prop} (h : (lift o S).acc Φ Ψ) : ∃ a, o = some a ∧ Φ a S := by
  cases o with
  | none => exact h.elim
  | some a => exact ⟨a, rfl, h⟩
/-! ### contexts -/
/-- what is alike for all defs -/
structure Wd where
  P : Program
  w : World
  K : PySem.W.Frag
  mg : Str → Option Value
  base : Heap
  T : List (Addr × Str)
structure CP extends Wd where
  N : List Str
  sc : Scope
  k : Nat
  W : XK
  fnb : Str → Bool
  lam : Option (Str × Addr)
structure CP.Has (c : CP) (X : Cx) : Prop where
  prog : X.prog = c.P
  w : X.w = c.w
  K : X.K = c.K
  mg : X.mg = c.mg
  base : X.base = c.base
  N : X.N = c.N
  nd : X.N.Nodup
  sc : X.env.scope = c.sc
  room : Room c.k X.A
  calm : X.calm = true
  pass : PassesOwn (model X.prog X.w) X.A X.env X.xe
  takes : Takes X (fun cls d _ H => c.W cls d H)
  fn : ∀ x, c.fnb x = true → X.fn x = true
  lamq : ∀ q, c.lam = some q → X.env.qual = q.1 ∧ X.env.code = .ref q.2
/-- the universal reading of an expression, in every context of c -/
def WE (c : CP) (e : Expr) : TE := fun σ H Q => ∃ t, (∀ X, c.Has X → PE X e t) ∧ t σ H Q
theorem pe_W {c : CP} {X : Cx} (hX : c.Has X) (e : Expr) : PE X e (WE c e) := ⟨fun pins s σ H Q I ⟨t, ht, h⟩ => (ht X hX).run pins s σ H Q I h⟩
def WT (c : CP) (e : Expr) : TT := fun σ H Q => ∃ t, (∀ X, c.Has X → PT X e t) ∧ t σ H Q
theorem pt_W {c : CP} {X : Cx} (hX : c.Has X) (e : Expr) : PT X e (WT c e) := ⟨fun pins s σ H Q I ⟨t, ht, h⟩ => (ht X hX).run pins s σ H Q I h⟩
def WA (c : CP) (es : List Expr) : TA := fun σ H Q => ∃ t, (∀ X, c.Has X → PA X es t) ∧ t σ H Q
theorem pa_W {c : CP} {X : Cx} (hX : c.Has X) (es : List Expr) : PA X es (WA c es) := ⟨fun pos pins s σ H Q I ⟨t, ht, h⟩ => (ht X hX).run pos pins s σ H Q I h⟩
def WS (c : CP) (st : Stmt) : TS := fun D σ H => ∃ t, (∀ X, c.Has X → PS X st t) ∧ t D σ H
theorem ps_W {c : CP} {X : Cx} (hX : c.Has X) (st : Stmt) : PS X st (WS c st) := ⟨fun pins s σ H D I ⟨t, ht, h⟩ => (ht X hX).run pins s σ H D I h⟩
def WSs (c : CP) (sts : List Stmt) : TS := fun D σ H => ∃ t, (∀ X, c.Has X → PSs X sts t) ∧ t D σ H
theorem pss_W {c : CP} {X : Cx} (hX : c.Has X) (sts : List Stmt) : PSs X sts (WSs c sts) := ⟨fun pins s σ H D I ⟨t, ht, h⟩ => (ht X hX).run pins s σ H D I h⟩
def WI (c : CP) (tg iter : Expr) : TI := fun σ H R => ∃ t, (∀ X, c.Has X → PI X tg iter t) ∧ t σ H R
theorem pi_W {c : CP} {X : Cx} (hX : c.Has X) (tg iter : Expr) : PI X tg iter (WI c tg iter) := ⟨fun pins s σ H R I ⟨t, ht, h⟩ => (ht X hX).run pins s σ H R I h⟩
/-! ### heaps: what is frozen -/
def frz (H : Hp) (os : List Addr) : Hp := fun b => if b ∈ os then none else match H b with
  | some (.tbl _) => none
  | o => o
theorem frz_of {H : Hp} {os : List Addr} {b : Addr} {o : HO} (h : H b = some o) (ho : ∀ ps, o ≠ .tbl ps) (n : b ∉ os) : frz H os b = some o := by
  unfold frz
  rw [if_neg n, h]
  cases o with
  | tbl ps => exact absurd rfl (ho ps)
  | _ => rfl
theorem of_frz {H : Hp} {os : List Addr} {b : Addr} {o : HO} (h : frz H os b = some o) : H b = some o ∧ (∀ ps, o ≠ .tbl ps) ∧ b ∉ os := by
  unfold frz at h
  by_cases n : b ∈ os
  · rw [if_pos n] at h; cases h
  · rw [if_neg n] at h
    cases e : H b with
    | none => rw [e] at h; cases h
    | some u =>
      rw [e] at h
      cases u with
      | tbl ps => cases h
      | _ => cases h; exact ⟨rfl, (fun _ z => by cases z), n⟩
theorem frz_sub {H : Hp} {os os' : List Addr} (h : ∀ b ∈ os', b ∈ os) : Same (frz H os) (frz H os') := fun b o e => by
  obtain ⟨e1, e2, e3⟩ := of_frz e
  exact frz_of e1 e2 fun z => e3 (h b z)
theorem frz_le {H : Hp} {os : List Addr} : Same (frz H os) H := fun b o e => (of_frz e).1
/-- all but tables and the addresses ms stays -/
def Nx (ms : List Addr) (H H' : Hp) : Prop := ∀ b o, H b = some o → (∀ ps, o ≠ .tbl ps) → b ∉ ms → H' b = some o
theorem Nx.refl {ms : List Addr} {H : Hp} : Nx ms H H := fun _ _ h _ _ => h
theorem Nx.trans {ms : List Addr} {H H1 H2 : Hp} (a : Nx ms H H1) (b : Nx ms H1 H2) : Nx ms H H2 := fun c o h n m => b c o (a c o h n m) n m
theorem Nx.of {ms : List Addr} {H H' : Hp} (e : Same H H') : Nx ms H H' := fun b o h _ _ => e b o h
theorem Nx.frz {ms os : List Addr} {H H' : Hp} (e : Nx ms H H') (hm : ∀ b ∈ ms, b ∈ os) : Same (frz H os) (frz H' os) := fun b o h => by
  obtain ⟨e1, e2, e3⟩ := of_frz h
  exact frz_of (e b o e1 e2 fun z => e3 (hm b z)) e2 e3
theorem Nx.none {ms : List Addr} {H H' : Hp} (e : Nx ms H H') {b : Addr} (h : H' b = none) (hm : b ∉ ms) : H b = none ∨ ∃ ps, H b = some (.tbl ps) := by
  cases q : H b with
  | none => exact .inl rfl
  | some o =>
    cases o with
    | tbl ps => exact .inr ⟨ps, rfl⟩
    | _ =>
      have z := e b _ q (fun _ z => by cases z) hm
      rw [h] at z
      cases z
theorem same_upd {H : Hp} {p : Addr} {o : HO} (h : H p = none) : Same H (upd H p o) := fun a u e => by
  rw [upd_ne (ne_of_none e h)]
  exact e
/-! ### the drawing state in the heap -/
abbrev MA := Option (Addr × Addr × Addr)
def msA : MA → List Addr
  | none => []
  | some m => [m.1, m.2.1, m.2.2]
def kCells : Key := .inr "cells"
def kGreat : Key := .inr "great"
def kSpot : Key := .inr "spot"
def Mst : MA → Hp → DS → Prop
  | none, _, _ => True
  | some m, H, S => H m.1 = some (.dK [(kCells, .ref m.2.2), (kGreat, .ref m.2.1), (kSpot, .int S.spot)]) ∧ H m.2.1 = some (.lst (S.great.map V.int)) ∧ H m.2.2 = some (.lst (S.cells.map V.int)) ∧ m.2.1 ≠ m.2.2
/-! ### states -/
inductive Sl where
  | un
  | dat (d : D)
  | drw
  | mem (b : Bool)
  | giv (ns : List Int)
  | own (ds : List D)
structure Bs where
  H0 : Hp
  os0 : List Addr
  mA : MA
structure Co (T : List (Addr × Str)) (B : Bs) (S : DS) (H : Hp) (os : List Addr) : Prop where
  sub : ∀ a ∈ B.os0, a ∈ os
  mine : ∀ a ∈ os, a ∉ B.os0 → frz B.H0 [] a = none
  nx : Nx (msA B.mA) B.H0 H
  mst : Mst B.mA H S
  mos : ∀ b ∈ msA B.mA, b ∈ B.os0
  dom : ∀ b ∈ os, ∃ o, H b = some o ∧ ∀ ps, o ≠ .tbl ps
  tab : LamX.Tabs T H
def SlOk (K : PySem.W.Frag) (B : Bs) (H : Hp) (os : List Addr) (x : Option (Option V)) : Sl → Prop
  | .un => True
  | .dat d => ∃ v, x = some (some v) ∧ Da K (frz H os) d v
  | .drw => ∃ m, B.mA = some m ∧ x = some (some (.ref m.1))
  | .mem b => ∃ m, B.mA = some m ∧ x = some (some (.ref (if b = true then m.2.1 else m.2.2)))
  | .giv ns => ∃ a, x = some (some (.ref a)) ∧ SqL K (frz H os) a (ns.map V.int)
  | .own ds => ∃ a, x = some (some (.ref a)) ∧ a ∈ os ∧ a ∉ B.os0 ∧ ∃ vs, H a = some (.lst vs) ∧ DaAll K (frz H os) ds vs
structure St (c : CP) (B : Bs) (Γ : List Sl) (S : DS) (σ : L2.St) (H : Hp) (os : List Addr) : Prop where
  co : Co c.T B S H os
  len : Γ.length = σ.length
  sl : ∀ (i : Nat) (s : Sl), Γ[i]? = some s → SlOk c.K B H os σ[i]? s
  nd : ∀ (i j : Nat) (ds es : List D) (a : Addr), Γ[i]? = some (.own ds) → Γ[j]? = some (.own es) → σ[i]? = some (some (.ref a)) → σ[j]? = some (some (.ref a)) → i = j
/-- behind an expression or a call -/
structure Aft (T : List (Addr × Str)) (mA : MA) (H H' : Hp) (S' : DS) : Prop where
  nx : Nx (msA mA) H H'
  mst : Mst mA H' S'
  tab : LamX.Tabs T H'
section
variable {c : CP} {B : Bs} {Γ : List Sl} {S S' S2 : DS} {σ : L2.St} {H H' H2 : Hp} {os : List Addr}
theorem Co.mos' (h : Co c.T B S H os) : ∀ b ∈ msA B.mA, b ∈ os := fun b hb => h.sub b (h.mos b hb)
theorem Aft.refl (h : Co c.T B S H os) : Aft c.T B.mA H H S := ⟨.refl, h.mst, h.tab⟩
theorem Aft.trans {mA : MA} (a : Aft c.T mA H H' S') (b : Aft c.T mA H' H2 S2) : Aft c.T mA H H2 S2 := ⟨a.nx.trans b.nx, b.mst, b.tab⟩
theorem Mst.dom {mA : MA} (h : Mst mA H S) : ∀ b ∈ msA mA, ∃ o, H b = some o ∧ ∀ ps, o ≠ .tbl ps := fun b hb => by
  cases mA with
  | none => cases hb
  | some m =>
    obtain ⟨h1, h2, h3, _⟩ := h
    have hb : b ∈ [m.1, m.2.1, m.2.2] := hb
    simp only [List.mem_cons, List.not_mem_nil, or_false] at hb
    rcases hb with e | e | e <;> subst e
    · exact ⟨_, h1, fun _ z => by cases z⟩
    · exact ⟨_, h2, fun _ z => by cases z⟩
    · exact ⟨_, h3, fun _ z => by cases z⟩
theorem Co.step (h : Co c.T B S H os) (a : Aft c.T B.mA H H' S') : Co c.T B S' H' os :=
  ⟨h.sub, h.mine, h.nx.trans a.nx, a.mst, h.mos, fun b hb => by
    by_cases hm : b ∈ msA B.mA
    · exact a.mst.dom b hm
    · obtain ⟨o, ho, hn⟩ := h.dom b hb
      exact ⟨o, a.nx b o ho hn hm, hn⟩, a.tab⟩
theorem Co.frz (h : Co c.T B S H os) (a : Aft c.T B.mA H H' S') : Same (frz H os) (frz H' os) := a.nx.frz h.mos'
theorem St.step (h : St c B Γ S σ H os) (a : Aft c.T B.mA H H' S') : St c B Γ S' σ H' os :=
  ⟨h.co.step a, h.len, fun i s e => by
    have q := h.sl i s e
    cases s with
    | un => trivial
    | dat d => obtain ⟨v, q1, q2⟩ := q; exact ⟨v, q1, q2.mono (h.co.frz a)⟩
    | drw => exact q
    | mem b => exact q
    | giv ns => obtain ⟨b, q1, q2⟩ := q; exact ⟨b, q1, sqL_same (h.co.frz a) q2⟩
    | own ds =>
      obtain ⟨b, q1, q2, q3, vs, q4, q5⟩ := q
      exact ⟨b, q1, q2, q3, vs, a.nx b _ q4 (fun _ z => by cases z) (fun z => q3 (h.co.mos b z)), q5.mono (h.co.frz a)⟩, h.nd⟩
/-- a new object -/
theorem Co.fresh (h : Co c.T B S H os) {p : Addr} (hp : H p = none) : p ∉ os := fun hb => by
  obtain ⟨o, ho, _⟩ := h.dom p hb
  rw [hp] at ho
  cases ho
theorem tabs_upd {T : List (Addr × Str)} {p : Addr} {o : HO} (h : LamX.Tabs T H) (hp : (∀ ps, H p ≠ some (.tbl ps)) ∧ ∀ φ, H p ≠ some (.ext φ)) : LamX.Tabs T (upd H p o) := fun q hq => by
  obtain ⟨ps, h1, h2, h3⟩ := h q hq
  refine ⟨ps, by rw [upd_ne fun z => hp.1 ps (by rw [← z]; exact h1)]; exact h1, h2, fun pos cv hc => ?_⟩
  obtain ⟨d, e1, e2⟩ := h3 pos cv hc
  exact ⟨d, e1, by rw [upd_ne fun z => hp.2 _ (by rw [← z]; exact e2)]; exact e2⟩
theorem Mst.upd {mA : MA} {p : Addr} {o : HO} (h : Mst mA H S) (hp : p ∉ msA mA) : Mst mA (L2.upd H p o) S := by
  cases mA with
  | none => trivial
  | some m =>
    obtain ⟨h1, h2, h3, h4⟩ := h
    have hp : p ∉ [m.1, m.2.1, m.2.2] := hp
    simp only [List.mem_cons, List.not_mem_nil, or_false, not_or] at hp
    exact ⟨by rw [upd_ne (Ne.symm hp.1)]; exact h1, by rw [upd_ne (Ne.symm hp.2.1)]; exact h2, by rw [upd_ne (Ne.symm hp.2.2)]; exact h3, h4⟩
theorem Aft.new (h : Co c.T B S H os) {p : Addr} {o : HO} (hp : H p = none) : Aft c.T B.mA H (upd H p o) S :=
  ⟨.of (same_upd hp), h.mst.upd fun z => h.fresh hp (h.mos' p z), tabs_upd h.tab ⟨(fun _ z => by rw [hp] at z; cases z), (fun _ z => by rw [hp] at z; cases z)⟩⟩
theorem frz_upd_new {p : Addr} {o : HO} (hp : H p = none) (hn : p ∉ os) (ho : ∀ ps, o ≠ .tbl ps) : frz (upd H p o) os p = some o := frz_of upd_same ho hn
theorem frz_upd_own {p : Addr} {o : HO} (hp : p ∈ os) : frz (upd H p o) os = frz H os := by
  funext b
  unfold frz
  by_cases hb : b ∈ os
  · rw [if_pos hb, if_pos hb]
  · rw [if_neg hb, if_neg hb, upd_ne fun z => hb (by rw [z]; exact hp)]
end
end DL
/-! # DL, third part: expressions refine mirrors. -/
namespace DL
open PySem PySem.Spec L2
/-- what must follow a value, an exception -/
def PostE (c : CP) (mA : MA) (os : List Addr) (H : Hp) (Q : VK) : D → DS → Prop := fun d S' => ∀ v H', Aft c.T mA H H' S' → Da c.K (frz H' os) d v → Q v H'
def PostX (c : CP) (mA : MA) (os : List Addr) (H : Hp) : Str → Str → D → DS → Prop := fun cn n x S' => ∀ C dd vx H', c.mg cn = some (.ref C) → Aft c.T mA H H' S' → H' dd = some (.xd [(n, vx)]) → Da c.K (frz H' os) x vx → c.W (.ref C) (some dd) H'
/-- the expression e, over the slots Γ, is the mirror m -/
def RefE (c : CP) (Γ : List Sl) (e : Expr) (m : M D) : Prop := ∀ (B : Bs) (S : DS) (σ : L2.St) (H : Hp) (os : List Addr) (Q : VK), St c B Γ S σ H os → (m S).acc (PostE c B.mA os H Q) (PostX c B.mA os H) → WE c e σ H Q
/-- a test -/
def RefT (c : CP) (Γ : List Sl) (e : Expr) (m : M Bool) : Prop := ∀ (B : Bs) (S : DS) (σ : L2.St) (H : Hp) (os : List Addr) (Q : Bool → Hp → Prop), St c B Γ S σ H os →
  (m S).acc (fun b S' => ∀ H', Aft c.T B.mA H H' S' → Q b H') (PostX c B.mA os H) → WT c e σ H Q
def ArOk (K : PySem.W.Frag) (mA : MA) (os : List Addr) (H : Hp) : Ar → V → Prop
  | .dat d, v => Da K (frz H os) d v
  | .drw, v => ∃ m, mA = some m ∧ v = .ref m.1
  | .giv ns, v => ∃ a, v = .ref a ∧ SqL K (frz H os) a (ns.map V.int)
def ArAll (K : PySem.W.Frag) (mA : MA) (os : List Addr) (H : Hp) : List Ar → List V → Prop
  | [], vs => vs = []
  | a :: as, vs => ∃ v r, vs = v :: r ∧ ArOk K mA os H a v ∧ ArAll K mA os H as r
def RefA (c : CP) (Γ : List Sl) (es : List Expr) (m : M (List Ar)) : Prop := ∀ (B : Bs) (S : DS) (σ : L2.St) (H : Hp) (os : List Addr) (Q : List V → Hp → Prop), St c B Γ S σ H os →
  (m S).acc (fun as S' => ∀ vs H', Aft c.T B.mA H H' S' → ArAll c.K B.mA os H' as vs → Q vs H') (PostX c B.mA os H) → WA c es σ H Q
section
variable {c : CP} {B : Bs} {Γ : List Sl} {S S' S2 : DS} {σ : L2.St} {H H' H2 : Hp} {os : List Addr} {mA : MA}
theorem PostX.back {cn n : Str} {x : D} {S' S1 : DS} (a : Aft c.T mA H H' S1) (h : PostX c mA os H cn n x S') : PostX c mA os H' cn n x S' := fun C dd vx H2 h1 h2 h3 h4 => h C dd vx H2 h1 (a.trans h2) h3 h4
/-- from a value on: first one expression, then what follows -/
theorem RefE.go {e : Expr} {m : M D} {k : D → M D} {Q : VK} {α : Type} {k' : D → M α} {Φ : α → DS → Prop} (h : RefE c Γ e m) (st : St c B Γ S σ H os) (ha : ((m >>= k') S).acc Φ (PostX c B.mA os H))
    (hk : ∀ d S1 v H1, Aft c.T B.mA H H1 S1 → Da c.K (frz H1 os) d v → (k' d S1).acc Φ (PostX c B.mA os H) → Q v H1) : WE c e σ H Q :=
  h B S σ H os Q st (acc_mono (acc_bind ha) (fun d S1 q v H1 a1 hd => hk d S1 v H1 a1 hd q) fun _ _ _ _ z => z)
theorem ArAll.mono (e : Same (frz H os) (frz H' os)) : ∀ {as : List Ar} {vs : List V}, ArAll c.K mA os H as vs → ArAll c.K mA os H' as vs
  | [], _, h => h
  | .dat d :: as, _, ⟨v, r, h1, h2, h3⟩ => ⟨v, r, h1, Da.mono e h2, ArAll.mono e h3⟩
  | .drw :: as, _, ⟨v, r, h1, h2, h3⟩ => ⟨v, r, h1, h2, ArAll.mono e h3⟩
  | .giv ns :: as, _, ⟨v, r, h1, ⟨a, h2, h4⟩, h3⟩ => ⟨v, r, h1, ⟨a, h2, sqL_same e h4⟩, ArAll.mono e h3⟩
theorem ArAll.dats : ∀ {ds : List D} {vs : List V}, ArAll c.K mA os H (ds.map .dat) vs → DaAll c.K (frz H os) ds vs
  | [], _, h => h
  | _ :: _, _, ⟨v, r, h1, h2, h3⟩ => ⟨v, r, h1, h2, ArAll.dats h3⟩
/-! ### names, constants -/
theorem re_of {e : Expr} {m : M D} (h : ∀ (B : Bs) (S : DS) (σ : L2.St) (H : Hp) (os : List Addr) (Q : VK), St c B Γ S σ H os → (m S).acc (PostE c B.mA os H Q) (PostX c B.mA os H) → ∃ t, (∀ X, c.Has X → PE X e t) ∧ t σ H Q) : RefE c Γ e m := h
theorem has_gl {X : Cx} (hX : c.Has X) {x : Str} (h : ∀ sc, sc = c.sc → (sc.names.lookup x = some .globalImplicit ∨ sc.names.lookup x = some .globalExplicit)) : True := trivial
theorem re_var (i : Nat) {x : Str} {pos : Pos} {d : D} (hΓ : Γ[i]? = some (.dat d) := by rfl) (hN : c.N[i]? = some x := by rfl) (hv : Vis c.sc x := by first | exact Or.inl rfl | exact Or.inr (Or.inl rfl) | exact Or.inr (Or.inr rfl))
    (hd : (x == ("__debug__" : Str)) = false := by decide) (hcd : (x == ("__classdict__" : Str)) = false := by decide) : RefE c Γ (.Name x pos) (pure d) := by
  intro B S σ H os Q st ha
  obtain ⟨v, h1, h2⟩ := st.sl i _ hΓ
  exact ⟨_, fun X hX => pv i (by rw [hX.N]; exact hN) (by rw [hX.sc]; exact hv) hd hcd, v, h1, ha v H (.refl st.co) h2⟩
theorem re_con {e : Expr} {d : D} {v : V} (he : ∀ X, c.Has X → PE X e (tC v)) (hv : ∀ G, Da c.K G d v) : RefE c Γ e (pure d) := by
  intro B S σ H os Q st ha
  exact ⟨_, he, ha v H (.refl st.co) (hv _)⟩
theorem re_int {i : Int} {j : Nat} {pos : Pos} : RefE c Γ (.Constant (.int i) j pos) (pure (.int i)) := re_con (fun _ _ => pe_int) fun _ => rfl
theorem re_bl {b : Bool} {j : Nat} {pos : Pos} : RefE c Γ (.Constant (.bool b) j pos) (pure (.bool b)) := re_con (fun _ _ => pe_bl) fun _ => rfl
theorem re_non {j : Nat} {pos : Pos} : RefE c Γ (.Constant .none j pos) (pure .none) := re_con (fun _ _ => pe_non) fun _ => rfl
theorem re_str {x : Str} {j : Nat} {pos : Pos} : RefE c Γ (.Constant (.str x) j pos) (pure (.str x)) := re_con (fun _ _ => pe_str) fun _ => rfl
end
end DL
/-! # DL, fourth part: operators on data. -/
namespace DL
open PySem PySem.Spec L2
/-- what must follow the datum z: it stands already, or is a new tuple, a new list -/
structure Dem (K : PySem.W.Frag) (G H : Hp) (z : D) (Q : VK) : Prop where
  old : ∀ v, Da K G z v → Q v H
  tup : ∀ zs vs p, z = .tuple zs → DaAll K G zs vs → H p = none → Q (.ref p) (upd H p (.tup vs))
  lst : ∀ zs vs p, z = .list zs → DaAll K G zs vs → H p = none → Q (.ref p) (upd H p (.lst vs))
section
variable {c : CP} {B : Bs} {Γ : List Sl} {S S' S2 : DS} {σ : L2.St} {H H' H2 : Hp} {os : List Addr} {mA : MA}
theorem DaAll.new {K : PySem.W.Frag} {zs : List D} {vs : List V} {p : Addr} {o : HO} (hp : H p = none) (hn : p ∉ os) (h : DaAll K (frz H os) zs vs) : DaAll K (frz (upd H p o) os) zs vs := h.mono ((Nx.of (ms := []) (same_upd hp)).frz (fun _ z => by cases z))
theorem dem_of {Q : VK} {z : D} (h : Co c.T B S H os) (q : PostE c B.mA os H Q z S) : Dem c.K (frz H os) H z Q where
  old := fun v hv => q v H (.refl h) hv
  tup := fun zs vs p e hd hp => q _ _ (.new h hp) (by
    subst e
    exact ⟨p, vs, rfl, SqT.of (frz_upd_new hp (h.fresh hp) (fun _ z => by cases z)), DaAll.new hp (h.fresh hp) hd⟩)
  lst := fun zs vs p e hd hp => q _ _ (.new h hp) (by
    subst e
    exact ⟨p, vs, rfl, frz_upd_new hp (h.fresh hp) (fun _ z => by cases z), DaAll.new hp (h.fresh hp) hd⟩)
/-- an operator as a partial function on data -/
def rD (K : PySem.W.Frag) (g : D → D → Option D) : R2 := fun x y H Q => ∃ G dx dy z, Same G H ∧ Da K G dx x ∧ Da K G dy y ∧ g dx dy = some z ∧ Dem K G H z Q
def rD1 (K : PySem.W.Frag) (g : D → Option D) : V → Hp → VK → Prop := fun x H Q => ∃ G dx z, Same G H ∧ Da K G dx x ∧ g dx = some z ∧ Dem K G H z Q
def rDC (K : PySem.W.Frag) (g : List D → Option D) : List V → Hp → VK → Prop := fun xs H Q => ∃ G ds z, Same G H ∧ DaAll K G ds xs ∧ g ds = some z ∧ Dem K G H z Q
/-- the two operands, then the rest -/
theorem two_go {a b : Expr} {ma mb : M D} {g : D → D → Option D} {Q : VK} (ha : RefE c Γ a ma) (hb : RefE c Γ b mb) (st : St c B Γ S σ H os)
    (hacc : ((do let x ← ma; let y ← mb; lift (g x y)) S).acc (PostE c B.mA os H Q) (PostX c B.mA os H)) : WE c a σ H (fun x H1 => WE c b σ H1 fun y H2 => rD c.K g x y H2 Q) := by
  refine ha B S σ H os _ st (acc_mono (acc_bind hacc) (fun dx S1 q x H1 a1 hx => ?_) fun _ _ _ _ z => z)
  have st1 := st.step a1
  refine hb B S1 σ H1 os _ st1 (acc_mono (acc_bind q) (fun dy S2 q2 y H2 a2 hy => ?_) fun _ _ _ _ z => z.back a1)
  obtain ⟨z, hz, q3⟩ := acc_lift q2
  have st2 := st1.step a2
  exact ⟨frz H2 os, dx, dy, z, frz_le, hx.mono (st1.co.frz a2), hy, hz, dem_of st2.co fun v H' a' hd => q3 v H' ((a1.trans a2).trans a') hd⟩
theorem re_bin {a b : Expr} {ma mb : M D} {g : D → D → Option D} {op : Operator} {pos : Pos} (ho : ∀ X, c.Has X → OpR X (binaryOp op) (rD c.K g)) (ha : RefE c Γ a ma) (hb : RefE c Γ b mb) :
    RefE c Γ (.BinOp a op b pos) (do let x ← ma; let y ← mb; lift (g x y)) := by
  intro B S σ H os Q st hacc
  exact ⟨tOp (rD c.K g) (WE c a) (WE c b), fun X hX => pe_op (ho X hX) (pe_W hX a) (pe_W hX b), two_go ha hb st hacc⟩
theorem re_cmp {a b : Expr} {ma mb : M D} {g : D → D → Option D} {op : CmpOp} {pos : Pos} (ho : ∀ X, c.Has X → OpR X (compareOp op) (rD c.K g)) (ha : RefE c Γ a ma) (hb : RefE c Γ b mb) (hm : behindInMarks op b = false := by first | rfl | exact nomark _) :
    RefE c Γ (.Compare a [op] [b] pos) (do let x ← ma; let y ← mb; lift (g x y)) := by
  intro B S σ H os Q st hacc
  exact ⟨tOp (rD c.K g) (WE c a) (WE c b), fun X hX => pe_cmpR (ho X hX) (pe_W hX a) (pe_W hX b) hm, two_go ha hb st hacc⟩
theorem re_un {a : Expr} {ma : M D} {g : D → Option D} {op : UnaryOp} {pos : Pos} (ho : ∀ X, c.Has X → UnR X (unaryOp op) (rD1 c.K g)) (ha : RefE c Γ a ma) : RefE c Γ (.UnaryOp op a pos) (do let x ← ma; lift (g x)) := by
  intro B S σ H os Q st hacc
  refine ⟨tUn (rD1 c.K g) (WE c a), fun X hX => pe_un (ho X hX) (pe_W hX a), ?_⟩
  refine ha B S σ H os _ st (acc_mono (acc_bind hacc) (fun dx S1 q x H1 a1 hx => ?_) fun _ _ _ _ z => z)
  obtain ⟨z, hz, q3⟩ := acc_lift q
  exact ⟨frz H1 os, dx, z, frz_le, hx, hz, dem_of (st.step a1).co fun v H' a' hd => q3 v H' (a1.trans a') hd⟩
end
/-! ### the operators -/
section
variable {X : Cx} {K : PySem.W.Frag}
theorem Da.tupSame {G H : Hp} (s : Same G H) {ds : List D} {v : V} (h : Da K G (.tuple ds) v) : ∃ a vs, v = .ref a ∧ SqT K H a vs ∧ DaAll K G ds vs := by
  obtain ⟨a, vs, h1, h2, h3⟩ := h
  exact ⟨a, vs, h1, sqT_same s h2, h3⟩
theorem Da.lstSame {G H : Hp} (s : Same G H) {ds : List D} {v : V} (h : Da K G (.list ds) v) : ∃ a vs, v = .ref a ∧ H a = some (.lst vs) ∧ DaAll K G ds vs := by
  obtain ⟨a, vs, h1, h2, h3⟩ := h
  exact ⟨a, vs, h1, s _ _ h2, h3⟩
theorem few {n : Nat} (h : n ≤ 1000000) : n ≤ sizeLine := by rw [sizeLine_eq]; omega
theorem opD_add : OpR X (binaryOp .Add) (rD X.K addD) := by
  intro pins s σ H x y v u Q I rx ry h
  obtain ⟨G, dx, dy, z, sm, hx, hy, hz, dm⟩ := h
  cases dx <;> cases dy <;> simp only [addD, reduceCtorEq] at hz
  · cases hx; cases hy; cases hz
    exact op_add pins s σ H _ _ v u Q I rx ry ⟨_, _, rfl, rfl, dm.old _ rfl⟩
  · cases hx; cases hy
    split at hz
    · rename_i hl
      cases hz
      exact op_add_str pins s σ H _ _ v u Q I rx ry ⟨_, _, rfl, rfl, few hl, dm.old _ rfl⟩
    · cases hz
  · split at hz
    · rename_i hl
      cases hz
      obtain ⟨a, vs, rfl, ha, da⟩ := Da.lstSame sm hx
      obtain ⟨b, us, rfl, hb, db⟩ := Da.lstSame sm hy
      exact op_cat pins s σ H _ _ v u Q I rx ry ⟨_, _, _, _, rfl, rfl, ha, hb, by rw [da.length, db.length]; exact few hl, fun p hp => dm.lst _ _ p rfl (da.append db) hp⟩
    · cases hz
  · split at hz
    · rename_i hl
      cases hz
      obtain ⟨a, vs, rfl, ha, da⟩ := Da.tupSame sm hx
      obtain ⟨b, us, rfl, hb, db⟩ := Da.tupSame sm hy
      refine op_catA pins s σ H _ _ v u Q I rx ry ⟨_, _, _, _, rfl, rfl, ha, hb, by rw [da.length, db.length]; exact few hl, fun e => dm.old _ ?_, fun _ e => dm.old _ ?_, fun _ _ p hp => dm.tup _ _ p rfl (da.append db) hp⟩
      · obtain ⟨b', us', e1, e2, e3⟩ := hy
        cases e1
        have hb' := I.tuple_inj hb (sqT_same sm e2)
        refine ⟨_, us', rfl, e2, ?_⟩
        rw [e] at da
        have := da.append e3
        exact this
      · obtain ⟨a', vs', e1, e2, e3⟩ := hx
        cases e1
        refine ⟨_, vs', rfl, e2, ?_⟩
        rw [e] at db
        have := e3.append db
        rw [List.append_nil] at this
        exact this
    · cases hz
theorem opD_sub : OpR X (binaryOp .Sub) (rD X.K subD) := by
  intro pins s σ H x y v u Q I rx ry h
  obtain ⟨G, dx, dy, z, sm, hx, hy, hz, dm⟩ := h
  cases dx <;> cases dy <;> simp only [subD, reduceCtorEq] at hz
  cases hx; cases hy; cases hz
  exact op_sub pins s σ H _ _ v u Q I rx ry ⟨_, _, rfl, rfl, dm.old _ rfl⟩
theorem opD_fdiv : OpR X (binaryOp .FloorDiv) (rD X.K fdivD) := by
  intro pins s σ H x y v u Q I rx ry h
  obtain ⟨G, dx, dy, z, sm, hx, hy, hz, dm⟩ := h
  cases dx <;> cases dy <;> simp only [fdivD, reduceCtorEq] at hz
  rename_i i j
  cases hx; cases hy
  split at hz
  · cases hz
  · rename_i hc
    cases hz
    have h0 : j ≠ 0 := fun e => hc (.inl e)
    have h1 : Builtin.divisionGoesByPylong i j = false := by
      cases e : Builtin.divisionGoesByPylong i j with
      | false => rfl
      | true => exact absurd (.inr e) hc
    refine opI (C := fun i j => j ≠ 0 ∧ Builtin.divisionGoesByPylong i j = false) (g := fun i j => i.fdiv j) (fun i j _ _ _ _ _ hc q => PyProof.Rows.floordiv_int hc.1 q (.inl hc.2)) pins s σ H _ _ v u Q I rx ry ⟨_, _, rfl, rfl, ⟨h0, h1⟩, dm.old _ rfl⟩
theorem opD_mod : OpR X (binaryOp .Mod) (rD X.K modD) := by
  intro pins s σ H x y v u Q I rx ry h
  obtain ⟨G, dx, dy, z, sm, hx, hy, hz, dm⟩ := h
  cases dx <;> cases dy <;> simp only [modD, reduceCtorEq] at hz
  cases hx; cases hy
  split at hz
  · cases hz
  · rename_i h0
    cases hz
    exact op_modN pins s σ H _ _ v u Q I rx ry ⟨_, _, rfl, rfl, h0, dm.old _ rfl⟩
end
end DL
/-! # DL, fifth part: products, powers, comparisons. -/
namespace DL
section
open PySem PySem.Spec L2 PyProof.Rows MeetsSeq MeetsSeq2 MeetsSeq3 SeqRoads2 AutoSeq1
/-! ### a tuple once, or not at all -/
theorem tup_once (l : Addr) (items : Array Value) (n : Nat) (dd : Option Addr) (sl : Array (Option Value)) (x : Int) (u : Tok) (c0 : (decide (x < -(2 ^ 63)) || decide (x ≥ 2 ^ 63)) = false) (c1 : (items.isEmpty || x == 1) = true) :
    Meets (Builtin.«tuple.__mul__» ⟨[.ref l, .int x u], []⟩) (fun _ R s => s.heap.get? l = some { cls := .type "tuple", dict := dd, data := .seq items n, slots := sl } ∧ R (.ok (.ret (Value.ref l))) s) :=
  .of_wp fun prog w A R s h => by
    obtain ⟨hp, g, d, tk, os⟩ := s
    obtain ⟨hl, h⟩ := h
    have f1 := AutoSeq1.idx_int
    wp_walk using wpAny_loadPart' hl
    repeat (first
      | (refine wpAny_ite_false (decide_eq_false (by rw [c0]; exact Bool.false_ne_true)) ?_; wp_walk using wpAny_loadPart' hl)
      | (refine wpAny_ite_true (decide_eq_true (by rw [c1])) ?_; wp_walk using wpAny_loadPart' hl))
    exact ⟨_, rfl, h⟩
theorem tup_none (l : Addr) (items : Array Value) (n : Nat) (dd : Option Addr) (sl : Array (Option Value)) (x : Int) (u : Tok) (c0 : (decide (x < -(2 ^ 63)) || decide (x ≥ 2 ^ 63)) = false) (c1 : (items.isEmpty || x == 1) = false) (c2 : (decide (x ≤ 0) || items.isEmpty) = true) :
    Meets (Builtin.«tuple.__mul__» ⟨[.ref l, .int x u], []⟩) (fun _ R s => s.heap.get? l = some { cls := .type "tuple", dict := dd, data := .seq items n, slots := sl } ∧
      R (.ok (.ret (Value.ref s.heap.objs.size))) { s with heap := s.heap.push { cls := Value.type "tuple", data := Data.seq #[] }, toks := s.toks }) :=
  .of_wp fun prog w A R s h => by
    obtain ⟨hp, g, d, tk, os⟩ := s
    obtain ⟨hl, h⟩ := h
    have f1 := AutoSeq1.idx_int
    wp_walk using wpAny_loadPart' hl
    repeat (first
      | (refine wpAny_ite_false (decide_eq_false (by rw [c0]; exact Bool.false_ne_true)) ?_; wp_walk using wpAny_loadPart' hl)
      | (refine wpAny_ite_false (decide_eq_false (by rw [c1]; exact Bool.false_ne_true)) ?_; wp_walk using wpAny_loadPart' hl)
      | (refine wpAny_ite_true (decide_eq_true (by rw [c2])) ?_; wp_walk using wpAny_loadPart' hl))
    exact ⟨_, rfl, h⟩
/-- t * k whatever is in it, k at most 1000 -/
def rRepA (K : PySem.W.Frag) : R2 := fun x y H Q => ∃ l k xs, x = .ref l ∧ y = .int k ∧ SqT K H l xs ∧ 0 ≤ k ∧ k ≤ 1000 ∧ xs.length ≤ 1000 ∧
  ((xs = [] ∨ k = 1) → Q (.ref l) H) ∧ (¬ (xs = [] ∨ k = 1) → ∀ p, H p = none → Q (.ref p) (upd H p (.tup (List.replicate k.toNat xs).flatten)))
theorem op_repA {X : Cx} : OpR X (binaryOp .Mult) (rRepA X.K) := by
  intro pins s σ H x y v u Q I rx ry h
  obtain ⟨l, k, xs, rfl, rfl, hT, h1, h2, hz, q0, q1⟩ := h
  by_cases hbig : ¬ (xs = [] ∨ k = 1) ∧ 2 ≤ k
  · exact op_repT pins s σ H _ _ v u Q I rx ry ⟨l, k, xs, rfl, rfl, hT, fun e => hbig.1 (.inl e), hbig.2, h2, hz, q1 hbig.1⟩
  cases rx
  obtain ⟨t, rfl⟩ := ry
  obtain ⟨its, r, ⟨⟨cls, dd, data, sl⟩, ho, hc, n, hd⟩, hs⟩ := I.tuple hT
  simp only at hc hd
  subst hc hd
  have hle : its.length = xs.length := r.length.symm
  have hemp : its.toArray.isEmpty = decide (xs = []) := by
    cases xs with
    | nil => cases its with
      | nil => rfl
      | cons => simp at hle
    | cons => cases its with
      | nil => simp at hle
      | cons => simp
  have c0 : (decide (k < -(2 ^ 63)) || decide (k ≥ 2 ^ 63)) = false := by
    rw [decide_eq_false (by omega), decide_eq_false (by omega)] <;> rfl
  by_cases he : xs = [] ∨ k = 1
  · have c1 : (its.toArray.isEmpty || k == 1) = true := by
      rw [hemp]
      rcases he with e | e
      · rw [decide_eq_true e]; rfl
      · subst e; simp
    refine wpAny_binaryOp_repeat_ref (T := "tuple") (U := "int") (by decide) ⟨_, ho, rfl⟩ (fun s' => typeIs_int s' k t) noFill_tuple_mul F.fills_int_mul F.slot_int_rmul repeat_tuple F.slot_int_index.lookup
      (call_meets F.slot_int_rmul (typeIs_int s k t) F.entry_int_rmul (F.args_int_rmul_2 _ _) (int_rmul_tuple k t l its.toArray n dd sl)
        ⟨ho, rfl, ⟨_, ho, rfl⟩, call_meets F.slot_tuple_mul ⟨_, ho, rfl⟩ F.entry_tuple_mul (F.args_tuple_mul_2 _ _) (tup_once l its.toArray n dd sl k t c0 c1) ⟨ho, ?_⟩⟩)
    exact ⟨.ref l, H, I, rfl, q0 he⟩
  · have hk : k = 0 := by
      rcases Int.lt_or_le k 2 with z | z
      · have : k ≠ 1 := fun e => he (.inr e)
        omega
      · exact absurd ⟨he, z⟩ hbig
    subst hk
    have c1 : (its.toArray.isEmpty || (0 : Int) == 1) = false := by
      rw [hemp, decide_eq_false (fun e => he (.inl e))]; rfl
    have c2 : (decide ((0 : Int) ≤ 0) || its.toArray.isEmpty) = true := rfl
    refine wpAny_binaryOp_repeat_ref (T := "tuple") (U := "int") (by decide) ⟨_, ho, rfl⟩ (fun s' => typeIs_int s' 0 t) noFill_tuple_mul F.fills_int_mul F.slot_int_rmul repeat_tuple F.slot_int_index.lookup
      (call_meets F.slot_int_rmul (typeIs_int s 0 t) F.entry_int_rmul (F.args_int_rmul_2 _ _) (int_rmul_tuple 0 t l its.toArray n dd sl)
        ⟨ho, rfl, ⟨_, ho, rfl⟩, call_meets F.slot_tuple_mul ⟨_, ho, rfl⟩ F.entry_tuple_mul (F.args_tuple_mul_2 _ _) (tup_none l its.toArray n dd sl 0 t c0 c1 c2) ⟨ho, ?_⟩⟩)
    refine ⟨.ref s.heap.objs.size, _, I.laid (t' := s.toks) (o := .tup []) (fun b ob q => Heap.get?_push_of_some _ q) (Nat.le_refl _) ?_, rfl, q1 he _ (I.hok.fresh (Nat.le_refl _))⟩
    exact ⟨by show 0 ≤ sizeLine; exact Nat.zero_le _, [], .nil, IsTup.new _ _⟩
end
open PySem PySem.Spec L2
section
variable {X : Cx} {K : PySem.W.Frag}
/-- ints of together at most 2 ^ 27 bits; lists, tuples at most a thousand times -/
theorem DaAll.rep {G : Hp} {ds : List D} {vs : List V} (h : DaAll K G ds vs) : ∀ n : Nat, DaAll K G (List.replicate n ds).flatten (List.replicate n vs).flatten
  | 0 => rfl
  | n + 1 => by
    rw [List.replicate_succ, List.replicate_succ, List.flatten_cons, List.flatten_cons]
    exact h.append (DaAll.rep h n)
theorem rep_one {α : Type} (l : List α) : (List.replicate 1 l).flatten = l := by simp
theorem rep_nil {α : Type} (n : Nat) : (List.replicate n ([] : List α)).flatten = [] := by simp
theorem opD_mul : OpR X (binaryOp .Mult) (rD X.K mulD) := by
  intro pins s σ H x y v u Q I rx ry h
  obtain ⟨G, dx, dy, z, sm, hx, hy, hz, dm⟩ := h
  cases dx <;> cases dy <;> simp only [mulD, reduceCtorEq] at hz
  · cases hx; cases hy
    split at hz
    · rename_i hc
      cases hz
      exact op_mulX pins s σ H _ _ v u Q I rx ry ⟨_, _, rfl, rfl, hc, dm.old _ rfl⟩
    · cases hz
  · cases hy
    split at hz
    · rename_i hc
      cases hz
      obtain ⟨a, vs, rfl, ha, da⟩ := Da.lstSame sm hx
      refine op_rep pins s σ H _ _ v u Q I rx ry ⟨_, _, _, rfl, rfl, ha, by omega, by omega, ?_, fun p hp => dm.lst _ _ p rfl (da.rep _) hp⟩
      rw [da.length]
      exact few (Nat.le_trans (Nat.mul_le_mul hc.2.2 (show _ ≤ 1000 by omega)) (by decide))
    · cases hz
  · cases hy
    split at hz
    · rename_i hc
      cases hz
      obtain ⟨a, vs, rfl, ha, da⟩ := Da.tupSame sm hx
      refine op_repA pins s σ H _ _ v u Q I rx ry ⟨_, _, _, rfl, rfl, ha, hc.1, hc.2.1, by rw [da.length]; exact hc.2.2, fun e => dm.old _ ?_, fun _ p hp => dm.tup _ _ p rfl (da.rep _) hp⟩
      rename_i zs k
      rcases e with e | e
      · have el : zs = [] := by
          have el := da.length
          rw [e] at el
          exact List.eq_nil_of_length_eq_zero el.symm
        rw [el, rep_nil]
        rw [el] at hx
        exact hx
      · subst e
        show Da _ G (.tuple (List.replicate 1 _).flatten) _
        rw [rep_one]
        exact hx
    · cases hz
theorem opD_pow : OpR X (binaryOp .Pow) (rD X.K powD) := by
  intro pins s σ H x y v u Q I rx ry h
  obtain ⟨G, dx, dy, z, sm, hx, hy, hz, dm⟩ := h
  cases dx <;> cases dy <;> simp only [powD, reduceCtorEq] at hz
  cases hx; cases hy
  split at hz
  · rename_i hc
    cases hz
    exact op_pow pins s σ H _ _ v u Q I rx ry ⟨_, _, rfl, rfl, hc, dm.old _ rfl⟩
  · cases hz
theorem unD_neg : UnR X (unaryOp .USub) (rD1 X.K negD) := by
  intro pins s σ H x v Q I rx h
  obtain ⟨G, dx, z, sm, hx, hz, dm⟩ := h
  cases dx <;> simp only [negD, reduceCtorEq] at hz
  cases hx; cases hz
  exact un_neg pins s σ H _ v Q I rx ⟨_, rfl, dm.old _ rfl⟩
/-! ### == and != -/
/-- data without dicts, nested at most sixty deep; or a tuple of anything beside the empty one -/
theorem depth_room {x y : D} {A : Around} (hu : A.units + 64 < cLine) (hx : x.depth ≤ 60) : A.units + min x.depth y.depth < cLine := by
  have := Nat.min_le_left x.depth y.depth
  omega
theorem eq_any {pins : List (Addr × Obj)} {σ : L2.St} {H : Hp} {s : Shared} {x y : V} {v u : Value} {dx dy : D} {b : Bool} (hu : X.A.units + 64 < cLine) (I : Inv X pins σ H s) (rx : RelV x v) (ry : RelV y u) (hx : Da X.K H dx x) (hy : Da X.K H dy y) (e : eqP dx dy = some b) :
    SeqAt.RcAt X.A s v u b := by
  obtain ⟨as, r1⟩ := Da.reads I dx x v hx rx
  obtain ⟨bs, r2⟩ := Da.reads I dy y u hy ry
  unfold eqP at e
  split at e
  · rename_i hc
    cases e
    exact SeqAt.rcAt_plain r1 r2 hc.1 hc.2.1 (depth_room hu hc.2.2.1)
  · cases dx with
    | tuple xs =>
      cases dy with
      | tuple ys =>
        cases ys with
        | cons _ _ => cases e
        | nil =>
          have e : (if xs = [] then none else some false) = some b := e
          split at e
          · cases e
          · rename_i hne
            cases e
            cases r1 with
            | @tuple l o vs n _ as h1 h2 h3 h4 =>
              cases r2 with
              | @tuple l' o' vs' n' _ bs k1 k2 k3 k4 =>
                have e5 : vs'.size = 0 := by
                  cases hh : vs'.toList with
                  | nil => rw [← Array.length_toList, hh]; rfl
                  | cons a r => rw [hh] at k4; cases k4
                have n1 : vs.size ≠ 0 := fun z => by
                  have hh : vs.toList = [] := List.eq_nil_of_length_eq_zero (by rw [Array.length_toList]; exact z)
                  rw [hh] at h4
                  cases h4
                  exact hne rfl
                have q := SeqAt.RcAt.tuples (A := X.A) (s := s) (e := fun _ => false) ⟨_, h1, h2, _, h3⟩ ⟨_, k1, k2, _, k3⟩ (by omega) (fun j j1 j2 => by rw [e5] at j2; exact absurd j2 (Nat.not_lt_zero _))
                have e6 : ((List.range (min vs.size vs'.size)).all (fun _ => false) && vs.size == vs'.size) = false := by
                  rw [e5, beq_eq_false_iff_ne.mpr n1, Bool.and_false]
                rw [e6] at q
                exact q
      | _ => cases e
    | _ => cases e
theorem opD_eq (hr : X.A.units + 64 < cLine) : OpR X (compareOp .Eq) (rD X.K eqD) := by
  intro pins s σ H x y v u Q I rx ry h
  obtain ⟨G, dx, dy, z, sm, hx, hy, hz, dm⟩ := h
  unfold eqD at hz
  cases e : eqP dx dy with
  | none => rw [e] at hz; cases hz
  | some b =>
    rw [e] at hz
    cases hz
    exact eq_any hr I rx ry (hx.mono sm) (hy.mono sm) e _ _ _ _ ⟨.bl b, H, I, rfl, dm.old _ rfl⟩
theorem opD_ne (hr : X.A.units + 64 < cLine) : OpR X (compareOp .NotEq) (rD X.K neD') := by
  intro pins s σ H x y v u Q I rx ry h
  obtain ⟨G, dx, dy, z, sm, hx, hy, hz, dm⟩ := h
  unfold neD' at hz
  split at hz
  · rename_i hc
    cases hz
    obtain ⟨as, r1⟩ := Da.reads I dx x v (hx.mono sm) rx
    obtain ⟨bs, r2⟩ := Da.reads I dy y u (hy.mono sm) ry
    exact SeqAt.ne_plain r1 r2 hc.1 hc.2.1 (depth_room hr hc.2.2.1) ⟨.bl _, H, I, rfl, dm.old _ rfl⟩
  · cases hz
/-! ### order -/
theorem ordP_of {x y : D} (h : ordP x y = true) : PySem.W.alike x y = true ∧ x ≠ .none ∧ x.depth ≤ 60 := by
  unfold ordP at h
  simp only [Bool.and_eq_true, decide_eq_true_eq, Bool.not_eq_true'] at h
  refine ⟨h.1.1, fun e => ?_, h.2⟩
  subst e
  cases h.1.2
theorem opD_lt (hr : X.A.units + 64 < cLine) : OpR X (compareOp .Lt) (rD X.K ltD) := by
  intro pins s σ H x y v u Q I rx ry h
  obtain ⟨G, dx, dy, z, sm, hx, hy, hz, dm⟩ := h
  unfold ltD at hz
  split at hz
  · rename_i hc
    obtain ⟨h1, h2, h3⟩ := ordP_of hc
    cases hz
    obtain ⟨as, r1⟩ := Da.reads I dx x v (hx.mono sm) rx
    obtain ⟨bs, r2⟩ := Da.reads I dy y u (hy.mono sm) ry
    exact PySem.W.lt_data r1 r2 h1 h2 (depth_room hr h3) ⟨.bl _, H, I, rfl, dm.old _ rfl⟩
  · cases hz
theorem opD_gt (hr : X.A.units + 64 < cLine) : OpR X (compareOp .Gt) (rD X.K gtD) := by
  intro pins s σ H x y v u Q I rx ry h
  obtain ⟨G, dx, dy, z, sm, hx, hy, hz, dm⟩ := h
  unfold gtD at hz
  split at hz
  · rename_i hc
    obtain ⟨h1, h2, h3⟩ := ordP_of hc
    cases hz
    obtain ⟨as, r1⟩ := Da.reads I dx x v (hx.mono sm) rx
    obtain ⟨bs, r2⟩ := Da.reads I dy y u (hy.mono sm) ry
    exact PySem.W.gt_data r1 r2 h1 h2 (depth_room hr h3) ⟨.bl _, H, I, rfl, dm.old _ rfl⟩
  · cases hz
theorem opD_le (hr : X.A.units + 64 < cLine) : OpR X (compareOp .LtE) (rD X.K leD) := by
  intro pins s σ H x y v u Q I rx ry h
  obtain ⟨G, dx, dy, z, sm, hx, hy, hz, dm⟩ := h
  unfold leD at hz
  split at hz
  · rename_i hc
    obtain ⟨h1, h2, h3⟩ := ordP_of hc
    cases hz
    obtain ⟨as, r1⟩ := Da.reads I dx x v (hx.mono sm) rx
    obtain ⟨bs, r2⟩ := Da.reads I dy y u (hy.mono sm) ry
    exact PySem.W.le_data r1 r2 h1 h2 (depth_room hr h3) ⟨.bl _, H, I, rfl, dm.old _ rfl⟩
  · cases hz
theorem opD_ge (hr : X.A.units + 64 < cLine) : OpR X (compareOp .GtE) (rD X.K geD) := by
  intro pins s σ H x y v u Q I rx ry h
  obtain ⟨G, dx, dy, z, sm, hx, hy, hz, dm⟩ := h
  unfold geD at hz
  split at hz
  · rename_i hc
    obtain ⟨h1, h2, h3⟩ := ordP_of hc
    cases hz
    obtain ⟨as, r1⟩ := Da.reads I dx x v (hx.mono sm) rx
    obtain ⟨bs, r2⟩ := Da.reads I dy y u (hy.mono sm) ry
    exact PySem.W.ge_data r1 r2 h1 h2 (depth_room hr h3) ⟨.bl _, H, I, rfl, dm.old _ rfl⟩
  · cases hz
/-! ### in, is -/
theorem in_room {xs : List D} {x : D} {A : Around} (hu : A.units + 64 < cLine) (hx : x.depth ≤ 60) : A.units + 1 + min (PyData.depthAll xs) x.depth < cLine := by
  have := Nat.min_le_right (PyData.depthAll xs) x.depth
  omega
theorem opD_in (hr : X.A.units + 64 < cLine) : OpR X (compareOp .In) (rD X.K inD) := by
  intro pins s σ H x y v u Q I rx ry h
  obtain ⟨G, dx, dy, z, sm, hx, hy, hz, dm⟩ := h
  obtain ⟨as, r1⟩ := Da.reads I dx x v (hx.mono sm) rx
  obtain ⟨bs, r2⟩ := Da.reads I dy y u (hy.mono sm) ry
  unfold inD inP at hz
  split at hz
  · split at hz
    · rename_i hc
      cases hz
      exact SeqAt.in_tuple_data r2 r1 hc.1 hc.2.1 (in_room hr hc.2.2) ⟨.bl _, H, I, rfl, dm.old _ rfl⟩
    · cases hz
  · split at hz
    · rename_i hc
      cases hz
      exact SeqAt.in_list_data r2 r1 hc.1 hc.2.1 (in_room hr hc.2.2) ⟨.bl _, H, I, rfl, dm.old _ rfl⟩
    · cases hz
  · cases hz
theorem opD_notIn (hr : X.A.units + 64 < cLine) : OpR X (compareOp .NotIn) (rD X.K notInD) := by
  intro pins s σ H x y v u Q I rx ry h
  obtain ⟨G, dx, dy, z, sm, hx, hy, hz, dm⟩ := h
  obtain ⟨as, r1⟩ := Da.reads I dx x v (hx.mono sm) rx
  obtain ⟨bs, r2⟩ := Da.reads I dy y u (hy.mono sm) ry
  unfold notInD inP at hz
  split at hz
  · split at hz
    · rename_i hc
      cases hz
      exact SeqAt.notIn_tuple_data r2 r1 hc.1 hc.2.1 (in_room hr hc.2.2) ⟨.bl _, H, I, rfl, dm.old _ rfl⟩
    · cases hz
  · split at hz
    · rename_i hc
      cases hz
      exact SeqAt.notIn_list_data r2 r1 hc.1 hc.2.1 (in_room hr hc.2.2) ⟨.bl _, H, I, rfl, dm.old _ rfl⟩
    · cases hz
  · cases hz
/-- is None, or of truths -/
theorem not_non {G : Hp} {d : D} {v : V} (h : Da K G d v) (e : d ≠ .none) : v ≠ .non := fun z => by
  subst z
  cases d with
  | none => exact e rfl
  | bool b => cases (show V.non = V.bl b from h)
  | int b => cases (show V.non = V.int b from h)
  | str b => cases (show V.non = V.str b from h)
  | list b => obtain ⟨_, _, z, _⟩ := h; cases z
  | tuple b => obtain ⟨_, _, z, _⟩ := h; cases z
  | dict b => obtain ⟨_, _, z, _⟩ := h; cases z
theorem opD_is : OpR X (compareOp .Is) (rD X.K isD) := by
  intro pins s σ H x y v u Q I rx ry h
  obtain ⟨G, dx, dy, z, sm, hx, hy, hz, dm⟩ := h
  unfold isD isP at hz
  split at hz
  · cases hz; cases hx; cases hy
    exact op_isN pins s σ H _ _ v u Q I rx ry ⟨rfl, dm.old _ (by simp [Da])⟩
  · rename_i hne
    cases hz; cases hy
    refine op_isN pins s σ H _ _ v u Q I rx ry ⟨rfl, dm.old _ ?_⟩
    rw [decide_eq_false (not_non hx hne)]; rfl
  · cases hz; cases hx; cases hy
    exact op_is_bl pins s σ H _ _ v u Q I rx ry ⟨_, _, rfl, rfl, dm.old _ rfl⟩
  · cases hz
theorem opD_isNot : OpR X (compareOp .IsNot) (rD X.K isNotD) := by
  intro pins s σ H x y v u Q I rx ry h
  obtain ⟨G, dx, dy, z, sm, hx, hy, hz, dm⟩ := h
  unfold isNotD isP at hz
  split at hz
  · cases hz; cases hx; cases hy
    exact op_notN pins s σ H _ _ v u Q I rx ry ⟨rfl, dm.old _ (by simp [Da])⟩
  · rename_i hne
    cases hz; cases hy
    refine op_notN pins s σ H _ _ v u Q I rx ry ⟨rfl, dm.old _ ?_⟩
    rw [decide_eq_false (not_non hx hne)]; rfl
  · cases hz; cases hx; cases hy
    exact op_isnot_bl pins s σ H _ _ v u Q I rx ry ⟨_, _, rfl, rfl, dm.old _ rfl⟩
  · cases hz
end
end DL
/-! # DL, sixth part: items, displays, subscripts, tests, calls of built-ins. -/
namespace DL
open PySem PySem.Spec L2
/-! ### items -/
def RefL (c : CP) (Γ : List Sl) (es : List Expr) (m : M (List D)) : Prop := ∀ (B : Bs) (S : DS) (σ : L2.St) (H : Hp) (os : List Addr) (Q : List V → Hp → Prop), St c B Γ S σ H os →
  (m S).acc (fun ds S' => ∀ vs H', Aft c.T B.mA H H' S' → DaAll c.K (frz H' os) ds vs → Q vs H') (PostX c B.mA os H) → WA c es σ H Q
def NoStar (e : Expr) (es : List Expr) : Prop := ∀ env, starEach (e :: es) env = (false, eval e env) :: starEach es env
def NoStars (es : List Expr) : Prop := ∀ env pos, (backTo pos (starEach es env)).any (·.1) = false
section
variable {c : CP} {B : Bs} {Γ : List Sl} {S S' S2 : DS} {σ : L2.St} {H H' H2 : Hp} {os : List Addr} {mA : MA} {e a b : Expr} {es : List Expr} {pos p : Pos} {x : Str}
theorem gl_of {X : Cx} (hX : c.Has X) (h : c.sc.names.lookup x = some .globalImplicit) : Gl X x := by
  show X.env.scope.names.lookup x = _
  rw [hX.sc]
  exact h
theorem mg_none {X : Cx} (hX : c.Has X) (h : c.mg x = none) : X.mg x = none := by rw [hX.mg]; exact h
theorem rl_nil : RefL c Γ [] (pure []) := fun B S σ H os Q st h => ⟨tNil, fun X hX => pa_nil, h [] H (.refl st.co) rfl⟩
theorem rl_cons {m : M D} {ms : M (List D)} (h1 : RefE c Γ e m) (h2 : RefL c Γ es ms) (hs : NoStar e es := by intro _; rfl) : RefL c Γ (e :: es) (do let x ← m; let xs ← ms; pure (x :: xs)) := by
  intro B S σ H os Q st ha
  refine ⟨tCons (WE c e) (WA c es), fun X hX => pa_cons (pe_W hX e) (pa_W hX es) (hs _), ?_⟩
  refine h1 B S σ H os _ st (acc_mono (acc_bind ha) (fun d S1 q v H1 a1 hd => ?_) fun _ _ _ _ z => z)
  refine h2 B S1 σ H1 os _ (st.step a1) (acc_mono (acc_bind q) (fun ds S2 q2 vs H2 a2 hds => ?_) fun _ _ _ _ z => z.back a1)
  exact q2 (v :: vs) H2 (a1.trans a2) ⟨v, vs, rfl, hd.mono ((st.step a1).co.frz a2), hds⟩
theorem re_tup {m : M (List D)} {x1} (h : RefL c Γ es m) : RefE c Γ (.Tuple es x1 pos) (do let ds ← m; mkTup ds) := by
  intro B S σ H os Q st ha
  refine ⟨tTup (WA c es), fun X hX => pe_tup (pa_W hX es), ?_⟩
  refine h B S σ H os _ st (acc_mono (acc_bind ha) (fun ds S1 q vs H1 a1 hd => ?_) fun _ _ _ _ z => z)
  unfold mkTup at q
  split at q
  · rename_i hl
    refine ⟨by rw [hd.length]; exact few (by omega), fun p hp => ?_⟩
    exact (dem_of (st.step a1).co fun v H' a' hd' => (show PostE c B.mA os H Q (.tuple ds) S1 from q) v H' (a1.trans a') hd').tup ds vs p rfl hd hp
  · exact q.elim
theorem re_lst {m : M (List D)} (h : RefL c Γ es m) : RefE c Γ (.List es pos) (do let ds ← m; mkLst ds) := by
  intro B S σ H os Q st ha
  refine ⟨tLst (WA c es), fun X hX => pe_lst (pa_W hX es), ?_⟩
  refine h B S σ H os _ st (acc_mono (acc_bind ha) (fun ds S1 q vs H1 a1 hd => ?_) fun _ _ _ _ z => z)
  unfold mkLst at q
  split at q
  · rename_i hl
    refine ⟨by rw [hd.length]; exact few (by omega), fun p hp => ?_⟩
    exact (dem_of (st.step a1).co fun v H' a' hd' => (show PostE c B.mA os H Q (.list ds) S1 from q) v H' (a1.trans a') hd').lst ds vs p rfl hd hp
  · exact q.elim
/-! ### subscripts -/
theorem atI_da {K : PySem.W.Frag} {G : Hp} {ds : List D} {vs : List V} {i : Int} {z : D} (h : DaAll K G ds vs) (e : atI ds i = some z) : ∃ v, atI vs i = some v ∧ Da K G z v := by
  unfold atI at e ⊢
  rw [h.length]
  cases q : ixN ds.length i with
  | none => rw [q] at e; cases e
  | some j =>
    rw [q] at e
    exact h.get (i := j) e
theorem ixR_D {X : Cx} : IxR X (rD X.K ixD) := by
  intro value slice pins s σ H x y v u Q I rx ry h hs
  obtain ⟨G, dx, dy, z, sm, hx, hy, hz, dm⟩ := h
  cases dx <;> cases dy <;> simp only [ixD, reduceCtorEq] at hz
  · rename_i xx i
    cases hx; cases hy
    split at hz
    · rename_i hl
      cases e : atI xx.cps.toList i with
      | none => rw [e] at hz; cases hz
      | some ch =>
        rw [e] at hz
        cases hz
        exact ix_str value slice pins s σ H _ _ v u Q I rx ry ⟨_, _, _, rfl, rfl, few hl, e, dm.old _ rfl⟩ hs
    · cases hz
  · cases hy
    obtain ⟨a, vs, rfl, ha, da⟩ := Da.lstSame sm hx
    obtain ⟨v', e', hd⟩ := atI_da da hz
    exact ix_list value slice pins s σ H _ _ v u Q I rx ry ⟨_, _, _, _, rfl, rfl, SqL.of ha, e', dm.old _ hd⟩ hs
  · cases hy
    obtain ⟨a, vs, rfl, ha, da⟩ := Da.tupSame sm hx
    obtain ⟨v', e', hd⟩ := atI_da da hz
    exact ix_tup value slice pins s σ H _ _ v u Q I rx ry ⟨_, _, _, _, rfl, rfl, ha, e', dm.old _ hd⟩ hs
theorem re_ix {ma mb : M D} (ha : RefE c Γ a ma) (hb : RefE c Γ b mb) (hs : PlainIx b := by exact fun _ _ => rfl) : RefE c Γ (.Subscript a b pos) (do let x ← ma; let y ← mb; lift (ixD x y)) := by
  intro B S σ H os Q st hacc
  exact ⟨tOp (rD c.K ixD) (WE c a) (WE c b), fun X hX => pe_ix (by rw [← hX.K]; exact ixR_D) (pe_W hX a) (pe_W hX b) hs, two_go ha hb st hacc⟩
/-- a part of a slice -/
def RefO (c : CP) (Γ : List Sl) (e : Option Expr) (m : M (Option Int)) : Prop := ∀ (B : Bs) (S : DS) (σ : L2.St) (H : Hp) (os : List Addr) (Q : Option Int → Hp → Prop), St c B Γ S σ H os →
  (m S).acc (fun o S' => ∀ H', Aft c.T B.mA H H' S' → Q o H') (PostX c B.mA os H) → ∃ t, (∀ X, c.Has X → PO X e t) ∧ t σ H Q
theorem ro_none : RefO c Γ none (pure none) := fun B S σ H os Q st h => ⟨_, fun X hX => po_none, h H (.refl st.co)⟩
theorem ro_some {m : M D} (h : RefE c Γ e m) : RefO c Γ (some e) (do let x ← m; asI x) := by
  intro B S σ H os Q st ha
  refine ⟨_, fun X hX => po_some (pe_W hX e), ?_⟩
  refine h B S σ H os _ st (acc_mono (acc_bind ha) (fun d S1 q v H1 a1 hd => ?_) fun _ _ _ _ z => z)
  cases d with
  | int i => cases hd; exact ⟨i, rfl, q H1 a1⟩
  | _ => exact q.elim
theorem DaAll.drop {K : PySem.W.Frag} {G : Hp} : ∀ {ds : List D} {vs : List V} (n : Nat), DaAll K G ds vs → DaAll K G (ds.drop n) (vs.drop n)
  | _, _, 0, h => h
  | [], _, n + 1, h => by cases (show _ = [] from h); rfl
  | _ :: _, _, n + 1, ⟨v, r, h1, _, h3⟩ => by subst h1; exact DaAll.drop n h3
theorem DaAll.take {K : PySem.W.Frag} {G : Hp} : ∀ {ds : List D} {vs : List V} (n : Nat), DaAll K G ds vs → DaAll K G (ds.take n) (vs.take n)
  | _, _, 0, h => rfl
  | [], _, n + 1, h => by cases (show _ = [] from h); rfl
  | _ :: _, _, n + 1, ⟨v, r, h1, h2, h3⟩ => by subst h1; exact ⟨v, _, rfl, h2, DaAll.take n h3⟩
theorem DaAll.cut {K : PySem.W.Frag} {G : Hp} {ds : List D} {vs : List V} {lo hi : Option Int} (h : DaAll K G ds vs) : DaAll K G (cutL ds lo hi) (cutV vs lo hi) := by
  unfold cutL cutV
  rw [h.length]
  exact (h.drop _).take _
def rSlD (K : PySem.W.Frag) : V → Option Int → Option Int → Hp → VK → Prop := fun x lo hi H Q => ∃ G dx z, Same G H ∧ Da K G dx x ∧ slD dx lo hi = some z ∧ Dem K G H z Q
theorem cut_whole {α : Type} (xs : List α) {lo hi : Option Int} (h : HT.sIx xs.length 0 lo = 0 ∧ HT.sIx xs.length xs.length hi = xs.length) : cutL xs lo hi = xs := by
  unfold cutL
  rw [h.1, h.2]
  simp
theorem slR_D {X : Cx} : SlR X (rSlD X.K) := by
  intro pins s σ H x v vl vu lo hi sl Q I rx hs pl pu h
  obtain ⟨G, dx, z, sm, hx, hz, dm⟩ := h
  cases dx <;> simp only [slD, reduceCtorEq] at hz
  · cases hz
    obtain ⟨a, vs, rfl, ha, da⟩ := Da.lstSame sm hx
    exact sl_list pins s σ H _ v vl vu lo hi sl Q I rx hs pl pu ⟨_, _, rfl, SqL.of ha, fun p hp => dm.lst _ _ p rfl da.cut hp⟩
  · cases hz
    obtain ⟨a, vs, rfl, ha, da⟩ := Da.tupSame sm hx
    refine sl_tupA pins s σ H _ v vl vu lo hi sl Q I rx hs pl pu ⟨_, _, rfl, ha, fun e => dm.old _ ?_, fun _ p hp => dm.tup _ _ p rfl da.cut hp⟩
    rw [da.length] at e
    rw [cut_whole _ e]
    exact hx
theorem re_sl {ma : M D} {mlo mhi : M (Option Int)} {lo hi : Option Expr} {p2 : Pos} (ha : RefE c Γ a ma) (hl : RefO c Γ lo mlo) (hh : RefO c Γ hi mhi) :
    RefE c Γ (.Subscript a (.Slice lo hi none p2) pos) (do let x ← ma; let l ← mlo; let h ← mhi; lift (slD x l h)) := by
  intro B S σ H os Q st hacc
  refine ⟨tSl (rSlD c.K) (WE c a) (fun σ H Q => ∃ t, (∀ X, c.Has X → PO X lo t) ∧ t σ H Q) (fun σ H Q => ∃ t, (∀ X, c.Has X → PO X hi t) ∧ t σ H Q),
    fun X hX => pe_slice (by rw [← hX.K]; exact slR_D) (pe_W hX a) ⟨fun pins s σ H Q I ⟨t, ht, h⟩ => (ht X hX).run pins s σ H Q I h⟩ ⟨fun pins s σ H Q I ⟨t, ht, h⟩ => (ht X hX).run pins s σ H Q I h⟩, ?_⟩
  refine ha B S σ H os _ st (acc_mono (acc_bind hacc) (fun d S1 q v H1 a1 hd => ?_) fun _ _ _ _ z => z)
  refine hl B S1 σ H1 os _ (st.step a1) (acc_mono (acc_bind q) (fun l S2 q2 H2 a2 => ?_) fun _ _ _ _ z => z.back a1)
  refine hh B S2 σ H2 os _ ((st.step a1).step a2) (acc_mono (acc_bind q2) (fun h S3 q3 H3 a3 => ?_) fun _ _ _ _ z => z.back (a1.trans a2))
  obtain ⟨z, hz, q4⟩ := acc_lift q3
  have st1 := st.step a1
  have a23 := a2.trans a3
  exact ⟨frz H3 os, d, z, frz_le, hd.mono (st1.co.frz a23), hz, dem_of (st1.step a23).co fun v' H' a' hd' => q4 v' H' ((a1.trans a23).trans a') hd'⟩
end
end DL
/-! # DL, seventh part: truths, tests, built-ins. -/
namespace DL
open PySem PySem.Spec L2
def WW (c : CP) (e : Expr) : TT := fun σ H Q => ∃ t, (∀ X, c.Has X → PW X e t) ∧ t σ H Q
theorem pw_W {c : CP} {X : Cx} (hX : c.Has X) (e : Expr) : PW X e (WW c e) := ⟨fun wh pins s σ H Q I ⟨t, ht, h⟩ => (ht X hX).run wh pins s σ H Q I h⟩
/-- a test whatever its whole is -/
def RefW (c : CP) (Γ : List Sl) (e : Expr) (m : M Bool) : Prop := ∀ (B : Bs) (S : DS) (σ : L2.St) (H : Hp) (os : List Addr) (Q : Bool → Hp → Prop), St c B Γ S σ H os →
  (m S).acc (fun b S' => ∀ H', Aft c.T B.mA H H' S' → Q b H') (PostX c B.mA os H) → WW c e σ H Q
section
variable {c : CP} {B : Bs} {Γ : List Sl} {S S' S2 : DS} {σ : L2.St} {H H' H2 : Hp} {os : List Addr} {mA : MA} {e a b d : Expr} {es rest : List Expr} {pos p : Pos} {x : Str} {ma mb md : M D} {ta tb : M Bool}
/-! ### and, or, not as values -/
theorem re_one {op : BoolOp} (h : RefE c Γ a ma) : RefE c Γ (.BoolOp op [a] pos) ma := fun B S σ H os Q st hacc => ⟨_, fun X hX => pe_one (pe_W hX a), h B S σ H os Q st hacc⟩
theorem re_and (ha : RefE c Γ a ma) (hb : RefE c Γ (.BoolOp .And (b :: rest) pos) mb) : RefE c Γ (.BoolOp .And (a :: b :: rest) pos) (do let x ← ma; let k ← asB x; if k = true then mb else pure (.bool false)) := by with_unfolding_all
  intro B S σ H os Q st hacc
  refine ⟨tAndV (WE c a) (WE c _), fun X hX => pe_and (pe_W hX a) (pe_W hX _), ?_⟩
  refine ha B S σ H os _ st (acc_mono (acc_bind hacc) (fun d S1 q v H1 a1 hd => ?_) fun _ _ _ _ z => z)
  cases d with
  | bool k =>
    cases hd
    refine ⟨k, rfl, ?_⟩
    have q : ((if k = true then mb else pure (.bool false)) S1).acc (PostE c B.mA os H Q) (PostX c B.mA os H) := q
    cases k with
    | true => exact hb B S1 σ H1 os Q (st.step a1) (acc_mono q (fun d S2 q2 v H2 a2 hd2 => q2 v H2 (a1.trans a2) hd2) fun _ _ _ _ z => z.back a1)
    | false => exact (show PostE c B.mA os H Q (.bool false) S1 from q) _ H1 a1 rfl
  | _ => exact q.elim
theorem re_or (ha : RefE c Γ a ma) (hb : RefE c Γ (.BoolOp .Or (b :: rest) pos) mb) : RefE c Γ (.BoolOp .Or (a :: b :: rest) pos) (do let x ← ma; let k ← asB x; if k = true then pure (.bool true) else mb) := by with_unfolding_all
  intro B S σ H os Q st hacc
  refine ⟨tOrV (WE c a) (WE c _), fun X hX => pe_or (pe_W hX a) (pe_W hX _), ?_⟩
  refine ha B S σ H os _ st (acc_mono (acc_bind hacc) (fun d S1 q v H1 a1 hd => ?_) fun _ _ _ _ z => z)
  cases d with
  | bool k =>
    cases hd
    refine ⟨k, rfl, ?_⟩
    have q : ((if k = true then pure (.bool true) else mb) S1).acc (PostE c B.mA os H Q) (PostX c B.mA os H) := q
    cases k with
    | false => exact hb B S1 σ H1 os Q (st.step a1) (acc_mono q (fun d S2 q2 v H2 a2 hd2 => q2 v H2 (a1.trans a2) hd2) fun _ _ _ _ z => z.back a1)
    | true => exact (show PostE c B.mA os H Q (.bool true) S1 from q) _ H1 a1 rfl
  | _ => exact q.elim
theorem re_not (ha : RefE c Γ a ma) : RefE c Γ (.UnaryOp .Not a pos) (do let x ← ma; let k ← asB x; pure (.bool (!k))) := by with_unfolding_all
  intro B S σ H os Q st hacc
  refine ⟨tNotV (WE c a), fun X hX => pe_not (pe_W hX a), ?_⟩
  refine ha B S σ H os _ st (acc_mono (acc_bind hacc) (fun d S1 q v H1 a1 hd => ?_) fun _ _ _ _ z => z)
  cases d with
  | bool k =>
    cases hd
    exact ⟨k, rfl, (show PostE c B.mA os H Q (.bool (!k)) S1 from q) _ H1 a1 rfl⟩
  | _ => exact q.elim
/-! ### tests -/
def Plain (e : Expr) : Prop := ∀ env whole, isTrue e env whole = (do let v ← whole; standAt e.pos; holding [v] (truthy v))
theorem rt_val (ha : RefE c Γ a ma) (he : Plain a := by intro _ _; rfl) : RefT c Γ a (do let x ← ma; asB x) := by
  intro B S σ H os Q st hacc
  refine ⟨tB (WE c a), fun X hX => pt_val (pe_W hX a) (he _), ?_⟩
  refine ha B S σ H os _ st (acc_mono (acc_bind hacc) (fun d S1 q v H1 a1 hd => ?_) fun _ _ _ _ z => z)
  cases d with
  | bool k => cases hd; exact ⟨k, rfl, q H1 a1⟩
  | _ => exact q.elim
theorem rt_cmp {g : D → D → Option D} {op : CmpOp} (ho : ∀ X, c.Has X → OpR X (compareOp op) (rD c.K g)) (ha : RefE c Γ a ma) (hb : RefE c Γ b mb) (hm : behindInMarks op b = false := by first | rfl | exact nomark _) :
    RefT c Γ (.Compare a [op] [b] pos) (do let x ← ma; let y ← mb; let z ← lift (g x y); asB z) := by
  intro B S σ H os Q st hacc
  refine ⟨tTest (tOp (rD c.K g) (WE c a) (WE c b)), fun X hX => pt_cmpR (ho X hX) (pe_W hX a) (pe_W hX b) hm, ?_⟩
  refine ha B S σ H os _ st (acc_mono (acc_bind hacc) (fun dx S1 q x H1 a1 hx => ?_) fun _ _ _ _ z => z)
  have st1 := st.step a1
  refine hb B S1 σ H1 os _ st1 (acc_mono (acc_bind q) (fun dy S2 q2 y H2 a2 hy => ?_) fun _ _ _ _ z => z.back a1)
  obtain ⟨z, hz, q3⟩ := acc_lift (acc_bind q2)
  have st2 := st1.step a2
  refine ⟨frz H2 os, dx, dy, z, frz_le, hx.mono (st1.co.frz a2), hy, hz, dem_of st2.co fun v H' a' hd => ?_⟩
  cases z with
  | bool k => cases hd; exact ⟨k, rfl, q3 H' ((a1.trans a2).trans a')⟩
  | _ => exact q3.elim
theorem re_chain {g g' : D → D → Option D} {op op' : CmpOp} (ho : ∀ X, c.Has X → OpR X (compareOp op) (rD c.K g)) (ho' : ∀ X, c.Has X → OpR X (compareOp op') (rD c.K g')) (ha : RefE c Γ a ma) (hb : RefE c Γ b mb) (hd : RefE c Γ d md)
    (hm : lastMarks [op, op'] [b, d] = false := by with_unfolding_all rfl) :
    RefE c Γ (.Compare a [op, op'] [b, d] pos) (do let x ← ma; let y ← mb; let z ← lift (g x y); let k ← asB z; if k = true then (do let w ← md; lift (g' y w)) else pure (.bool false)) := by with_unfolding_all
  intro B S σ H os Q st hacc
  refine ⟨tChain (rD c.K g) (rD c.K g') (WE c a) (WE c b) (WE c d), fun X hX => pe_chain (ho X hX) (ho' X hX) (pe_W hX a) (pe_W hX b) (pe_W hX d) hm, ?_⟩
  refine ha B S σ H os _ st (acc_mono (acc_bind hacc) (fun dx S1 q x H1 a1 hx => ?_) fun _ _ _ _ z => z)
  have st1 := st.step a1
  refine hb B S1 σ H1 os _ st1 (acc_mono (acc_bind q) (fun dy S2 q2 y H2 a2 hy => ?_) fun _ _ _ _ z => z.back a1)
  obtain ⟨z, hz, q3⟩ := acc_lift (acc_bind q2)
  have st2 := st1.step a2
  refine ⟨frz H2 os, dx, dy, z, frz_le, hx.mono (st1.co.frz a2), hy, hz, dem_of (S := S2) st2.co fun v H3 a3 hdv => ?_⟩
  have st3 := st2.step a3
  have a123 := (a1.trans a2).trans a3
  cases z with
  | bool k =>
    cases hdv
    refine ⟨k, rfl, ?_⟩
    have q3 : ((if k = true then (do let w ← md; lift (g' dy w)) else pure (.bool false)) S2).acc (PostE c B.mA os H Q) (PostX c B.mA os H) := q3
    cases k with
    | false => exact (show PostE c B.mA os H Q (.bool false) S2 from q3) _ H3 a123 rfl
    | true =>
      refine hd B S2 σ H3 os _ st3 (acc_mono (acc_bind (show ((do let w ← md; lift (g' dy w)) S2).acc _ _ from q3)) (fun dw S4 q4 w H4 a4 hw => ?_) fun _ _ _ _ z => z.back a123)
      obtain ⟨z', hz', q5⟩ := acc_lift q4
      exact ⟨frz H4 os, dy, dw, z', frz_le, (hy.mono (st2.co.frz a3)).mono (st3.co.frz a4), hw, hz', dem_of (st3.step a4).co fun v' H' a' hd' => q5 v' H' ((a123.trans a4).trans a') hd'⟩
  | _ => exact q3.elim
theorem rt_not (ha : RefT c Γ a ta) : RefT c Γ (.UnaryOp .Not a pos) (do let k ← ta; pure (!k)) := by
  intro B S σ H os Q st hacc
  refine ⟨tNot (WT c a), fun X hX => pt_not (pt_W hX a), ?_⟩
  exact ha B S σ H os _ st (acc_mono (acc_bind hacc) (fun k S1 q H1 a1 => (show ∀ H', Aft c.T B.mA H H' S1 → Q (!k) H' from q) H1 a1) fun _ _ _ _ z => z)
theorem rw_t (ha : RefW c Γ a ta) : RefT c Γ a ta := fun B S σ H os Q st hacc => ⟨_, fun X hX => (pw_W hX a).pt, ha B S σ H os Q st hacc⟩
theorem rw_and1 (ha : RefT c Γ a ta) : RefW c Γ (.BoolOp .And [a] pos) ta := fun B S σ H os Q st hacc => ⟨_, fun X hX => pw_and1 (pt_W hX a), ha B S σ H os Q st hacc⟩
theorem rw_or1 (ha : RefT c Γ a ta) : RefW c Γ (.BoolOp .Or [a] pos) ta := fun B S σ H os Q st hacc => ⟨_, fun X hX => pw_or1 (pt_W hX a), ha B S σ H os Q st hacc⟩
theorem rw_and (ha : RefT c Γ a ta) (hb : RefW c Γ (.BoolOp .And (b :: rest) pos) tb) : RefW c Γ (.BoolOp .And (a :: b :: rest) pos) (do let k ← ta; if k = true then tb else pure false) := by
  intro B S σ H os Q st hacc
  refine ⟨tAnd (WT c a) (WW c _), fun X hX => pw_and (pt_W hX a) (pw_W hX _), ?_⟩
  refine ha B S σ H os _ st (acc_mono (acc_bind hacc) (fun k S1 q H1 a1 => ?_) fun _ _ _ _ z => z)
  cases k with
  | true => exact hb B S1 σ H1 os Q (st.step a1) (acc_mono q (fun d S2 q2 H2 a2 => q2 H2 (a1.trans a2)) fun _ _ _ _ z => z.back a1)
  | false => exact (show ∀ H', Aft c.T B.mA H H' S1 → Q false H' from q) H1 a1
theorem rw_or (ha : RefT c Γ a ta) (hb : RefW c Γ (.BoolOp .Or (b :: rest) pos) tb) : RefW c Γ (.BoolOp .Or (a :: b :: rest) pos) (do let k ← ta; if k = true then pure true else tb) := by
  intro B S σ H os Q st hacc
  refine ⟨tOr (WT c a) (WW c _), fun X hX => pw_or (pt_W hX a) (pw_W hX _), ?_⟩
  refine ha B S σ H os _ st (acc_mono (acc_bind hacc) (fun k S1 q H1 a1 => ?_) fun _ _ _ _ z => z)
  cases k with
  | false => exact hb B S1 σ H1 os Q (st.step a1) (acc_mono q (fun d S2 q2 H2 a2 => q2 H2 (a1.trans a2)) fun _ _ _ _ z => z.back a1)
  | true => exact (show ∀ H', Aft c.T B.mA H H' S1 → Q true H' from q) H1 a1
theorem re_if (hc : RefT c Γ d ta) (ha : RefE c Γ a ma) (hb : RefE c Γ b mb) : RefE c Γ (.IfExp d a b pos) (do let k ← ta; if k = true then ma else mb) := by
  intro B S σ H os Q st hacc
  refine ⟨tIf (WT c d) (WE c a) (WE c b), fun X hX => pe_ifExp (pt_W hX d) (pe_W hX a) (pe_W hX b), ?_⟩
  refine hc B S σ H os _ st (acc_mono (acc_bind hacc) (fun k S1 q H1 a1 => ?_) fun _ _ _ _ z => z)
  cases k with
  | true => exact ha B S1 σ H1 os Q (st.step a1) (acc_mono q (fun d S2 q2 v H2 a2 hd => q2 v H2 (a1.trans a2) hd) fun _ _ _ _ z => z.back a1)
  | false => exact hb B S1 σ H1 os Q (st.step a1) (acc_mono q (fun d S2 q2 v H2 a2 hd => q2 v H2 (a1.trans a2) hd) fun _ _ _ _ z => z.back a1)
/-! ### built-ins called by name -/
theorem re_callB {id : String} {g : List D → Option D} {m : M (List D)} (hc : ∀ X, c.Has X → CallR X (.builtin id) (rDC c.K g)) (hm : c.mg x = none) (ha : RefL c Γ (e :: es) m) (hg : c.sc.names.lookup x = some .globalImplicit := by rfl)
    (hv : bootBuiltins x = some (.builtin id) := by decide +kernel) (hn : x ≠ "__name__" := by decide) (hdb : (x == ("__debug__" : Str)) = false := by decide) (hs : NoStar e es := by intro _; rfl) (hpl : NoStars es := by intro _ _; rfl) :
    RefE c Γ (.Call (.Name x p) (e :: es) [] pos) (do let ds ← m; lift (g ds)) := by
  intro B S σ H os Q st hacc
  refine ⟨tCB (rDC c.K g) (WA c (e :: es)), fun X hX => pe_callB (hc X hX) (gl_of hX hg) (mg_none hX hm) hv (pa_W hX _) hn hdb (hs _) (hpl _ _), ?_⟩
  refine ha B S σ H os _ st (acc_mono (acc_bind hacc) (fun ds S1 q vs H1 a1 hd => ?_) fun _ _ _ _ z => z)
  obtain ⟨z, hz, q3⟩ := acc_lift q
  exact ⟨frz H1 os, ds, z, frz_le, hd, hz, dem_of (st.step a1).co fun v H' a' hd' => q3 v H' (a1.trans a') hd'⟩
theorem re_callTy {T : String} {g : List D → Option D} {m : M (List D)} (hc : ∀ X, c.Has X → CallR X (.type T) (rDC c.K g)) (hm : c.mg x = none) (ha : RefL c Γ (e :: es) m) (hg : c.sc.names.lookup x = some .globalImplicit := by rfl)
    (hv : bootBuiltins x = some (.type T) := by decide +kernel) (hn : x ≠ "__name__" := by decide) (hdb : (x == ("__debug__" : Str)) = false := by decide) (hs : NoStar e es := by intro _; rfl) (hpl : NoStars es := by intro _ _; rfl) :
    RefE c Γ (.Call (.Name x p) (e :: es) [] pos) (do let ds ← m; lift (g ds)) := by
  intro B S σ H os Q st hacc
  refine ⟨tCB (rDC c.K g) (WA c (e :: es)), fun X hX => pe_callTy (hc X hX) (gl_of hX hg) (mg_none hX hm) hv (pa_W hX _) hn hdb (hs _) (hpl _ _), ?_⟩
  refine ha B S σ H os _ st (acc_mono (acc_bind hacc) (fun ds S1 q vs H1 a1 hd => ?_) fun _ _ _ _ z => z)
  obtain ⟨z, hz, q3⟩ := acc_lift q
  exact ⟨frz H1 os, ds, z, frz_le, hd, hz, dem_of (st.step a1).co fun v H' a' hd' => q3 v H' (a1.trans a') hd'⟩
/-! ### isinstance -/
def rIsiD (K : PySem.W.Frag) (T : String) (f : D → Bool) : List V → Hp → VK → Prop := fun vs H Q => ∃ x d, vs = [x, .ty T] ∧ Da K H d x ∧ Q (.bl (f d)) H
theorem re_isi {T : String} {f : D → Bool} {y : Str} {p2 : Pos} (hc : ∀ X, c.Has X → CallR X (.builtin "isinstance") (rIsiD c.K T f)) (hm : c.mg ("isinstance" : Str) = none) (hy : c.mg y = none) (ha : RefE c Γ e ma) (hg : c.sc.names.lookup ("isinstance" : Str) = some .globalImplicit := by rfl)
    (hgy : c.sc.names.lookup y = some .globalImplicit := by rfl) (hvy : bootBuiltins y = some (.type T) := by decide +kernel) (hn : y ≠ "__name__" := by decide) (hdb : (y == ("__debug__" : Str)) = false := by decide) (hs : NoStar e [.Name y p2] := by intro _; rfl) :
    RefE c Γ (.Call (.Name "isinstance" p) [e, .Name y p2] [] pos) (do let d ← ma; pure (.bool (f d))) := by
  intro B S σ H os Q st hacc
  refine ⟨tCB (rIsiD c.K T f) (tCons (WE c e) (tCons (tC (.ty T)) tNil)), fun X hX => pe_callB (hc X hX) (gl_of hX hg) (mg_none hX hm) (by decide +kernel) (pa_cons (pe_W hX e) (pa_cons (pe_bltn (gl_of hX hgy) (mg_none hX hy) hvy rfl hn hdb) pa_nil) (hs _)) (by decide) (by decide) (hs _) (by rfl), ?_⟩
  refine ha B S σ H os _ st (acc_mono (acc_bind hacc) (fun d S1 q v H1 a1 hd => ?_) fun _ _ _ _ z => z)
  exact ⟨v, d, rfl, hd.mono frz_le, (show PostE c B.mA os H Q (.bool (f d)) S1 from q) _ H1 a1 rfl⟩
theorem isi_of {X : Cx} {T : String} {f : D → Bool} (h : ∀ {prog : Program} {w : World} {A : Around} {E : Value → Shared → Prop} {s : Shared} {v : Value} {d : D} {as : List Addr} {Q : Value → Shared → Prop}, Reads s.heap v d as → (∀ tk, s.toks ≤ tk → Q (.bool (f d)) { s with toks := tk }) →
    wpAny (model prog w) A (call (.builtin "isinstance") [v, .type T]) Q E s) : CallR X (.builtin "isinstance") (rIsiD X.K T f) := by
  intro pins s σ H xs us Q I r hh
  obtain ⟨x, d, rfl, hd, q⟩ := hh
  cases r with
  | cons r1 r2 =>
    cases r2 with
    | cons r3 r4 =>
      cases r4
      cases (show _ = Value.type T from r3)
      obtain ⟨as, rd⟩ := Da.reads I d x _ hd r1
      exact h rd fun tk _ => ⟨.bl _, H, I.tok tk, rfl, q⟩
theorem isi_int {X : Cx} : CallR X (.builtin "isinstance") (rIsiD X.K "int" PyData.isInt) := isi_of fun r h => PySem.W.isinstance_int_data r h
theorem isi_bool {X : Cx} : CallR X (.builtin "isinstance") (rIsiD X.K "bool" PyData.isBool) := isi_of fun r h => PySem.W.isinstance_bool_data r h
theorem isi_str {X : Cx} : CallR X (.builtin "isinstance") (rIsiD X.K "str" PyData.isStr) := isi_of fun r h => PySem.W.isinstance_str_data r h
theorem isi_tuple {X : Cx} : CallR X (.builtin "isinstance") (rIsiD X.K "tuple" PyData.isTuple) := isi_of fun r h => PySem.W.isinstance_tuple_data r h
theorem isi_list {X : Cx} : CallR X (.builtin "isinstance") (rIsiD X.K "list" PyData.isList) := isi_of fun r h => PySem.W.isinstance_list_data r h
/-! ### len, abs, int, tuple, list -/
theorem one_da {K : PySem.W.Frag} {G : Hp} {d : D} {vs : List V} (h : DaAll K G [d] vs) : ∃ v, vs = [v] ∧ Da K G d v := by
  obtain ⟨v, r, h1, h2, h3⟩ := h
  cases (show r = [] from h3)
  exact ⟨v, h1, h2⟩
theorem cD_len {X : Cx} : CallR X (.builtin "len") (rDC X.K lenD) := by
  intro pins s σ H xs us Q I r h
  obtain ⟨G, ds, z, sm, hd, hz, dm⟩ := h
  unfold lenD at hz
  split at hz
  · cases hz
    obtain ⟨v, rfl, h1⟩ := one_da hd
    obtain ⟨a, vs, rfl, ha, da⟩ := Da.lstSame sm h1
    exact call_len pins s σ H _ us Q I r ⟨_, _, rfl, .inl ⟨_, SqL.of ha, da.length.symm⟩, dm.old _ rfl⟩
  · cases hz
    obtain ⟨v, rfl, h1⟩ := one_da hd
    obtain ⟨a, vs, rfl, ha, da⟩ := Da.tupSame sm h1
    exact call_len pins s σ H _ us Q I r ⟨_, _, rfl, .inr ⟨_, ha, da.length.symm⟩, dm.old _ rfl⟩
  · split at hz
    · rename_i hl
      cases hz
      obtain ⟨v, rfl, h1⟩ := one_da hd
      cases h1
      exact call_len pins s σ H _ us Q I r ⟨_, _, rfl, ⟨few hl, rfl⟩, dm.old _ rfl⟩
    · cases hz
  · cases hz
theorem cD_abs {X : Cx} : CallR X (.builtin "abs") (rDC X.K absD) := by
  intro pins s σ H xs us Q I r h
  obtain ⟨G, ds, z, sm, hd, hz, dm⟩ := h
  unfold absD at hz
  split at hz
  · cases hz
    obtain ⟨v, rfl, h1⟩ := one_da hd
    cases h1
    exact call_abs pins s σ H _ us Q I r ⟨_, rfl, dm.old _ rfl⟩
  · cases hz
theorem cD_int {X : Cx} : CallR X (.type "int") (rDC X.K intD) := by
  intro pins s σ H xs us Q I r h
  obtain ⟨G, ds, z, sm, hd, hz, dm⟩ := h
  unfold intD at hz
  split at hz
  · cases hz
    obtain ⟨v, rfl, h1⟩ := one_da hd
    cases h1
    exact call_int1 pins s σ H _ us Q I r (.inl ⟨_, rfl, dm.old _ rfl⟩)
  · cases hz
    obtain ⟨v, rfl, h1⟩ := one_da hd
    cases h1
    exact call_int1 pins s σ H _ us Q I r (.inr ⟨_, rfl, dm.old _ rfl⟩)
  · cases hz
theorem cD_tuple {X : Cx} : CallR X (.type "tuple") (rDC X.K tupleD) := by
  intro pins s σ H xs us Q I r h
  obtain ⟨G, ds, z, sm, hd, hz, dm⟩ := h
  unfold tupleD at hz
  split at hz
  · cases hz
    obtain ⟨v, rfl, h1⟩ := one_da hd
    obtain ⟨a, vs, rfl, ha, da⟩ := Da.lstSame sm h1
    exact call_tuple_of pins s σ H _ us Q I r ⟨_, _, rfl, .inl ⟨SqL.of ha, fun l hl => dm.tup _ _ l rfl da hl⟩⟩
  · cases hz
    obtain ⟨v, rfl, h1⟩ := one_da hd
    obtain ⟨a, vs, rfl, ha, da⟩ := Da.tupSame sm h1
    exact call_tuple_of pins s σ H _ us Q I r ⟨_, _, rfl, .inr ⟨ha, dm.old _ h1⟩⟩
  · cases hz
theorem cD_list {X : Cx} : CallR X (.type "list") (rDC X.K listD) := by
  intro pins s σ H xs us Q I r h
  obtain ⟨G, ds, z, sm, hd, hz, dm⟩ := h
  unfold listD at hz
  split at hz
  · cases hz
    obtain ⟨v, rfl, h1⟩ := one_da hd
    obtain ⟨a, vs, rfl, ha, da⟩ := Da.lstSame sm h1
    exact call_list_of pins s σ H _ us Q I r ⟨_, _, rfl, .inl (SqL.of ha), fun l hl => dm.lst _ _ l rfl da hl⟩
  · cases hz
    obtain ⟨v, rfl, h1⟩ := one_da hd
    obtain ⟨a, vs, rfl, ha, da⟩ := Da.tupSame sm h1
    exact call_list_of pins s σ H _ us Q I r ⟨_, _, rfl, .inr ha, fun l hl => dm.lst _ _ l rfl da hl⟩
  · cases hz
/-! ### all, sum, max, min -/
theorem bools_map : ∀ {ds : List D} {bs : List Bool}, asBools ds = some bs → ds = bs.map .bool
  | [], _, h => by cases h; rfl
  | .bool b :: r, bs, h => by
    have h : (asBools r).map (b :: ·) = some bs := h
    cases e : asBools r with
    | none => rw [e] at h; cases h
    | some cs => rw [e] at h; cases h; rw [bools_map e]; rfl
  | .none :: _, _, h => by cases h
  | .int _ :: _, _, h => by cases h
  | .str _ :: _, _, h => by cases h
  | .list _ :: _, _, h => by cases h
  | .tuple _ :: _, _, h => by cases h
  | .dict _ :: _, _, h => by cases h
theorem ints_map : ∀ {ds : List D} {ns : List Int}, asInts ds = some ns → ds = ns.map .int
  | [], _, h => by cases h; rfl
  | .int b :: r, bs, h => by
    have h : (asInts r).map (b :: ·) = some bs := h
    cases e : asInts r with
    | none => rw [e] at h; cases h
    | some cs => rw [e] at h; cases h; rw [ints_map e]; rfl
  | .none :: _, _, h => by cases h
  | .bool _ :: _, _, h => by cases h
  | .str _ :: _, _, h => by cases h
  | .list _ :: _, _, h => by cases h
  | .tuple _ :: _, _, h => by cases h
  | .dict _ :: _, _, h => by cases h
theorem ints_of (ns : List Int) : asInts (ns.map .int) = some ns := by
  induction ns with
  | nil => rfl
  | cons n r ih => show (asInts (r.map .int)).map (n :: ·) = _; rw [ih]; rfl
theorem bools_of (ns : List Bool) : asBools (ns.map .bool) = some ns := by
  induction ns with
  | nil => rfl
  | cons n r ih => show (asBools (r.map .bool)).map (n :: ·) = _; rw [ih]; rfl
theorem DaAll.bools_inv {K : PySem.W.Frag} {G : Hp} : ∀ {ns : List Bool} {vs : List V}, DaAll K G (ns.map .bool) vs → vs = ns.map .bl
  | [], _, h => h
  | n :: ns, _, ⟨v, r, h1, h2, h3⟩ => by
    have h2 : v = .bl n := h2
    rw [h1, h2, DaAll.bools_inv h3]
    rfl
theorem cD_all {X : Cx} (hc : X.calm = true) : CallR X (.builtin "all") (rDC X.K allD) := by
  intro pins s σ H xs us Q I r h
  obtain ⟨G, ds, z, sm, hd, hz, dm⟩ := h
  unfold allD at hz
  split at hz
  · rename_i es
    obtain ⟨v, rfl, h1⟩ := one_da hd
    obtain ⟨a, vs, rfl, ha, da⟩ := Da.lstSame sm h1
    cases e : asBools es with
    | none => rw [e] at hz; cases hz
    | some bs =>
      rw [e] at hz
      cases hz
      rw [bools_map e] at da
      have ev := da.bools_inv
      subst ev
      exact cr_all hc pins s σ H _ us Q I r ⟨_, _, rfl, SqL.of ha, dm.old _ rfl⟩
  · cases hz
end
section
open PySem PySem.Spec PyProof.Rows
theorem sum_tupleG {prog : Program} {w : World} {A : Around} {E : Value → Shared → Prop} {s : Shared} {l : Addr} {xs : Array (Int × Tok)} {Q : Value → Shared → Prop} (hh : A.handled = none) (hl : s.heap.IsTuple l (intItems xs))
    (h : ∀ h' tk t', (∀ b o, s.heap.get? b = some o → h'.get? b = some o) → Q (.int (preSum (numAt xs) xs.size) t') { s with heap := h', toks := tk }) :
    wpAny (model prog w) A (call (.builtin "sum") [.ref l]) Q E s := by
  have hlt : l < s.heap.objs.size := by obtain ⟨_, e, _⟩ := hl; exact Heap.lt_size e
  refine call_sum_walkG (wpAny_pyIter_tuple hl ?_)
  refine ⟨_, _, _, _, _, _, numAt xs, rfl, Walks.tuple (A := A.in1) hh _ l (Nat.ne_of_lt hlt) (intItems xs), ⟨⟨_, Heap.get?_push_size _ rfl, rfl, rfl⟩, hl.push _⟩, fun b hb => ?_, (fun _ _ => intItems_at), fun h' tk t' hk => ?_⟩
  · show b < (s.heap.push _).objs.size
    rw [Heap.size_push]
    rcases List.mem_cons.mp hb with e | hb
    · rw [e]; exact Nat.lt_succ_self _
    · rcases List.mem_cons.mp hb with e | hb
      · rw [e]; exact Nat.lt_succ_of_lt hlt
      · cases hb
  · have := h h' tk t' (fun b o e => hk b o (fun hm => by
      rcases List.mem_cons.mp hm with e1 | hm
      · rw [e1] at e; exact absurd (Heap.lt_size e) (Nat.lt_irrefl _)
      · cases hm) (Heap.get?_push_of_some _ e))
    simpa [intItems] using this
end
section
variable {X : Cx}
def rSumT (K : PySem.W.Frag) : List V → Hp → VK → Prop := fun vs H Q => ∃ (a : Addr) (ns : List Int), vs = [V.ref a] ∧ SqT K H a (ns.map V.int) ∧ Q (.int ns.sum) H
theorem cr_sumT (hc : X.calm = true) : CallR X (.builtin "sum") (rSumT X.K) := by
  intro pins s σ H vs us Q I r h
  obtain ⟨a, ns, rfl, hs, q⟩ := h
  obtain ⟨its, rv, hl, _⟩ := I.tuple hs
  rw [Vals.ref1 r]
  have hi := rv.ints
  obtain ⟨xs, e⟩ := hi.allInts.items
  have hn := hi.numsOf
  have e' : its = (intItems xs).toList := by rw [← e]
  rw [e', nums_intItems] at hn
  rw [e] at hl
  refine sum_tupleG (I.ok.hd hc) hl fun h' tk t' hk => ?_
  rw [preSum_eq, List.take_of_length_le (by simp), hn]
  exact ⟨.int _, H, I.kept hk, ⟨_, rfl⟩, q⟩
theorem cD_sum (hc : X.calm = true) : CallR X (.builtin "sum") (rDC X.K sumD) := by
  intro pins s σ H xs us Q I r h
  obtain ⟨G, ds, z, sm, hd, hz, dm⟩ := h
  unfold sumD at hz
  split at hz
  · rename_i es
    obtain ⟨v, rfl, h1⟩ := one_da hd
    obtain ⟨a, vs, rfl, ha, da⟩ := Da.lstSame sm h1
    cases e : asInts es with
    | none => rw [e] at hz; cases hz
    | some ns =>
      rw [e] at hz
      cases hz
      rw [ints_map e] at da
      have ev := da.ints_inv
      subst ev
      exact cr_sum hc pins s σ H _ us Q I r ⟨_, _, rfl, SqL.of ha, dm.old _ rfl⟩
  · rename_i es
    obtain ⟨v, rfl, h1⟩ := one_da hd
    obtain ⟨a, vs, rfl, ha, da⟩ := Da.tupSame sm h1
    cases e : asInts es with
    | none => rw [e] at hz; cases hz
    | some ns =>
      rw [e] at hz
      cases hz
      rw [ints_map e] at da
      have ev := da.ints_inv
      subst ev
      exact cr_sumT hc pins s σ H _ us Q I r ⟨_, _, rfl, ha, dm.old _ rfl⟩
  · cases hz
/-- the greatest of some asInts, not none -/
theorem maxL_le : ∀ {ns : List Int} {n : Int}, n ∈ ns → n ≤ maxL ns
  | [m], n, h => by simp at h; subst h; exact Int.le_refl _
  | m :: k :: r, n, h => by
    show n ≤ max m (maxL (k :: r))
    rcases List.mem_cons.mp h with e | h
    · subst e; exact Int.le_max_left _ _
    · exact Int.le_trans (maxL_le h) (Int.le_max_right _ _)
theorem maxL_mem : ∀ {ns : List Int}, ns ≠ [] → maxL ns ∈ ns
  | [], h => absurd rfl h
  | [m], _ => List.mem_cons_self
  | m :: k :: r, _ => by
    show max m (maxL (k :: r)) ∈ _
    rcases Int.le_total m (maxL (k :: r)) with h | h
    · rw [Int.max_eq_right h]; exact List.mem_cons_of_mem _ (maxL_mem (by simp))
    · rw [Int.max_eq_left h]; exact List.mem_cons_self
theorem vals_two {x y : V} {us : List Value} (r : Vals [x, y] us) : ∃ u v, us = [u, v] ∧ RelV x u ∧ RelV y v := by
  cases r with
  | cons r1 r2 =>
    cases r2 with
    | cons r3 r4 => cases r4; exact ⟨_, _, rfl, r1, r3⟩
theorem two_da {K : PySem.W.Frag} {G : Hp} {d e : D} {vs : List V} (h : DaAll K G [d, e] vs) : ∃ v u, vs = [v, u] ∧ Da K G d v ∧ Da K G e u := by
  obtain ⟨v, r, h1, h2, u, r', h3, h4, h5⟩ := h
  cases (show r' = [] from h5)
  subst h3
  exact ⟨v, u, h1, h2, h4⟩
theorem cD_max (hc : X.calm = true) : CallR X (.builtin "max") (rDC X.K maxD) := by
  intro pins s σ H xs us Q I r h
  obtain ⟨G, ds, z, sm, hd, hz, dm⟩ := h
  unfold maxD at hz
  split at hz
  · rename_i es
    obtain ⟨v, rfl, h1⟩ := one_da hd
    obtain ⟨a, vs, rfl, ha, da⟩ := Da.lstSame sm h1
    cases e : asInts es with
    | none => rw [e] at hz; cases hz
    | some ns =>
      rw [e] at hz
      have hz : (if ns = [] then none else some (PyData.int (maxL ns))) = some z := hz
      split at hz
      · cases hz
      · rename_i hne
        cases hz
        rw [ints_map e] at da
        have ev := da.ints_inv
        subst ev
        refine cr_max hc pins s σ H _ us Q I r ⟨_, ns, rfl, SqL.of ha, List.length_pos_iff.mpr hne, fun m h1 h2 => dm.old _ ?_⟩
        have e1 := h2 _ (maxL_mem hne)
        have e2 := maxL_le h1
        show V.int m = V.int (maxL ns)
        rw [Int.le_antisymm e2 e1]
  · cases hz
    obtain ⟨v, u, rfl, h1, h2⟩ := two_da hd
    cases h1; cases h2
    rename_i i j
    refine call_max2 hc pins s σ H _ us Q I r ⟨_, _, rfl, dm.old _ ?_⟩
    show V.int _ = V.int _
    congr 1
    by_cases hij : j > i
    · rw [if_pos hij]; exact (Int.max_eq_right (by omega)).symm
    · rw [if_neg hij]; exact (Int.max_eq_left (by omega)).symm
  · cases hz
theorem cD_min (hc : X.calm = true) : CallR X (.builtin "min") (rDC X.K minD) := by
  intro pins s σ H xs us Q I r h
  obtain ⟨G, ds, z, sm, hd, hz, dm⟩ := h
  unfold minD at hz
  split at hz
  · cases hz
    obtain ⟨v, u, rfl, h1, h2⟩ := two_da hd
    cases h1; cases h2
    rename_i i j
    refine call_min2 hc pins s σ H _ us Q I r ⟨_, _, rfl, dm.old _ ?_⟩
    show V.int _ = V.int _
    congr 1
    by_cases hij : j < i
    · rw [if_pos hij]; exact (Int.min_eq_right (by omega)).symm
    · rw [if_neg hij]; exact (Int.min_eq_left (by omega)).symm
  · cases hz
end
end DL
/-! # DL, eighth part: calls of defs. -/
namespace DL
open PySem PySem.Spec L2
/-- a def's promise: over any drawing state, any frozen heap, it answers as its mirror -/
def spD (K : PySem.W.Frag) (mg : Str → Option Value) (T : List (Addr × Str)) (np : Nat) (f : Mr) : Sp := fun vs H Q E => ∃ (mA : MA) (os : List Addr) (S : DS) (as : List Ar), vs.length = np ∧ Mst mA H S ∧ (∀ b ∈ msA mA, b ∈ os) ∧ (∀ b ∈ os, ∃ o, H b = some o ∧ ∀ ps, o ≠ .tbl ps) ∧ LamX.Tabs T H ∧ ArAll K mA os H as vs ∧
  (f as S).acc (fun d S' => ∀ v H', Aft T mA H H' S' → Da K (frz H' os) d v → Q v H') (fun cn n x S' => ∀ C dd vx H', mg cn = some (.ref C) → Aft T mA H H' S' → H' dd = some (.xd [(n, vx)]) → Da K (frz H' os) x vx → E (.ref C) (some dd) H')
/-- the mirror f is stuck but at np arguments -/
def Arity (f : Mr) (np : Nat) : Prop := ∀ as S Φ Ψ, (f as S).acc Φ Ψ → as.length = np
/-- a def that keeps its promise, by name; dD: the defaults that fill up -/
structure Kn (e : Wd) (x : Str) (k np : Nat) (f : Mr) (dD : List D) : Prop where
  ar : Arity f np
  ex : ∃ (fa : Addr) (fd : FuncData) (ps : List Str) (ds : List Value) (dvs : List V), FnOk e.P e.w e.K e.mg e.base (L2.CX e.P e.w) k fa fd ps (spD e.K e.mg e.T np f) ∧ e.mg x = some (.ref fa) ∧ PySem.W.keepIn e.K (.ref fa) = true ∧ Binds e.K fd ps ds ∧ Vals dvs ds ∧ ∀ G, DaAll e.K G dD dvs
/-- by keywords ks alone; g puts them in the parameters' order -/
structure KnK (e : Wd) (x : Str) (k np : Nat) (f : Mr) (ks : List Str) (g : List Ar → List Ar) : Prop where
  ar : Arity f np
  ex : ∃ (fa : Addr) (fd : FuncData) (ps : List Str) (gU : List Value → List Value → List Value) (gV : List V → List V → List V), FnOk e.P e.w e.K e.mg e.base (L2.CX e.P e.w) k fa fd ps (spD e.K e.mg e.T np f) ∧ e.mg x = some (.ref fa) ∧ PySem.W.keepIn e.K (.ref fa) = true ∧ KBn e.K fd ps 0 ks gU gV ∧
    ∀ mA os H bs zs, ArAll e.K mA os H bs zs → zs.length = ks.length → ArAll e.K mA os H (g bs) (gV [] zs) ∧ (gV [] zs).length = np
theorem ar_fg1 {g : List Int → M D} : Arity (fg1 g) 1 := fun as S Φ Ψ h => by
  unfold fg1 at h
  split at h
  · rfl
  · exact h.elim
theorem ar_fn1 {g : D → M D} : Arity (fn1 g) 1 := fun as S Φ Ψ h => by
  unfold fn1 at h
  split at h
  · rfl
  · exact h.elim
theorem ar_fn2 {g : D → D → M D} : Arity (fn2 g) 2 := fun as S Φ Ψ h => by
  unfold fn2 at h
  split at h
  · rfl
  · exact h.elim
theorem ar_fn3 {g : D → D → D → M D} : Arity (fn3 g) 3 := fun as S Φ Ψ h => by
  unfold fn3 at h
  split at h
  · rfl
  · exact h.elim
theorem ar_fm0 {g : M D} : Arity (fm0 g) 1 := fun as S Φ Ψ h => by
  unfold fm0 at h
  split at h
  · rfl
  · exact h.elim
theorem ar_fm1 {g : D → M D} : Arity (fm1 g) 2 := fun as S Φ Ψ h => by
  unfold fm1 at h
  split at h
  · rfl
  · exact h.elim
theorem ar_fm2 {g : D → D → M D} : Arity (fm2 g) 3 := fun as S Φ Ψ h => by
  unfold fm2 at h
  split at h
  · rfl
  · exact h.elim
section
variable {c : CP} {B : Bs} {Γ : List Sl} {S S' S2 : DS} {σ : L2.St} {H H' H2 : Hp} {os : List Addr} {mA : MA} {e a b : Expr} {es : List Expr} {pos p : Pos} {x : Str} {K : PySem.W.Frag}
theorem ArAll.length : ∀ {as : List Ar} {vs : List V}, ArAll K mA os H as vs → vs.length = as.length
  | [], _, h => by
    have h : _ = [] := h
    rw [h]; rfl
  | _ :: _, _, ⟨v, r, h1, _, h3⟩ => by rw [h1, List.length_cons, List.length_cons, ArAll.length h3]
theorem ArAll.append : ∀ {as bs : List Ar} {vs us : List V}, ArAll K mA os H as vs → ArAll K mA os H bs us → ArAll K mA os H (as ++ bs) (vs ++ us)
  | [], _, _, _, h, q => by
    have h : _ = [] := h
    rw [h]
    exact q
  | _ :: _, _, _, _, ⟨v, r, h1, h2, h3⟩, q => ⟨v, _, by rw [h1, List.cons_append], h2, ArAll.append h3 q⟩
theorem ArAll.of_dats : ∀ {ds : List D} {vs : List V}, DaAll K (frz H os) ds vs → ArAll K mA os H (ds.map .dat) vs
  | [], _, h => h
  | _ :: _, _, ⟨v, r, h1, h2, h3⟩ => ⟨v, r, h1, h2, ArAll.of_dats h3⟩
theorem ra_nil : RefA c Γ [] (pure []) := fun B S σ H os Q st h => ⟨tNil, fun X hX => pa_nil, h [] H (.refl st.co) rfl⟩
theorem ra_dat {m : M D} {ms : M (List Ar)} (h1 : RefE c Γ e m) (h2 : RefA c Γ es ms) (hs : NoStar e es := by intro _; rfl) : RefA c Γ (e :: es) (do let x ← m; let xs ← ms; pure (.dat x :: xs)) := by
  intro B S σ H os Q st ha
  refine ⟨tCons (WE c e) (WA c es), fun X hX => pa_cons (pe_W hX e) (pa_W hX es) (hs _), ?_⟩
  refine h1 B S σ H os _ st (acc_mono (acc_bind ha) (fun d S1 q v H1 a1 hd => ?_) fun _ _ _ _ z => z)
  refine h2 B S1 σ H1 os _ (st.step a1) (acc_mono (acc_bind q) (fun ds S2 q2 vs H2 a2 hds => ?_) fun _ _ _ _ z => z.back a1)
  exact q2 (v :: vs) H2 (a1.trans a2) ⟨v, vs, rfl, hd.mono ((st.step a1).co.frz a2), hds⟩
theorem ra_drw (i : Nat) {ms : M (List Ar)} (h2 : RefA c Γ es ms) (hΓ : Γ[i]? = some .drw := by rfl) (hN : c.N[i]? = some x := by rfl) (hv : Vis c.sc x := by first | exact Or.inl rfl | exact Or.inr (Or.inl rfl) | exact Or.inr (Or.inr rfl))
    (hd : (x == ("__debug__" : Str)) = false := by decide) (hcd : (x == ("__classdict__" : Str)) = false := by decide) (hs : NoStar (.Name x pos) es := by intro _; rfl) : RefA c Γ (.Name x pos :: es) (do let xs ← ms; pure (.drw :: xs)) := by
  intro B S σ H os Q st ha
  obtain ⟨m, h1, hm⟩ := st.sl i _ hΓ
  refine ⟨tCons (tVar i) (WA c es), fun X hX => pa_cons (pv i (by rw [hX.N]; exact hN) (by rw [hX.sc]; exact hv) hd hcd) (pa_W hX es) (hs _), _, hm, ?_⟩
  refine h2 B S σ H os _ st (acc_mono (acc_bind ha) (fun ds S2 q2 vs H2 a2 hds => ?_) fun _ _ _ _ z => z)
  exact q2 (V.ref m.1 :: vs) H2 a2 ⟨_, vs, rfl, ⟨m, h1, rfl⟩, hds⟩
theorem ra_giv (i : Nat) {ns : List Int} {ms : M (List Ar)} (h2 : RefA c Γ es ms) (hΓ : Γ[i]? = some (.giv ns) := by rfl) (hN : c.N[i]? = some x := by rfl) (hv : Vis c.sc x := by first | exact Or.inl rfl | exact Or.inr (Or.inl rfl) | exact Or.inr (Or.inr rfl))
    (hd : (x == ("__debug__" : Str)) = false := by decide) (hcd : (x == ("__classdict__" : Str)) = false := by decide) (hs : NoStar (.Name x pos) es := by intro _; rfl) : RefA c Γ (.Name x pos :: es) (do let xs ← ms; pure (.giv ns :: xs)) := by
  intro B S σ H os Q st ha
  obtain ⟨a, h1, hm⟩ := st.sl i _ hΓ
  refine ⟨tCons (tVar i) (WA c es), fun X hX => pa_cons (pv i (by rw [hX.N]; exact hN) (by rw [hX.sc]; exact hv) hd hcd) (pa_W hX es) (hs _), _, h1, ?_⟩
  refine h2 B S σ H os _ st (acc_mono (acc_bind ha) (fun ds S2 q2 vs H2 a2 hds => ?_) fun _ _ _ _ z => z)
  exact q2 (V.ref a :: vs) H2 a2 ⟨_, vs, rfl, ⟨a, rfl, sqL_same (st.co.frz a2) hm⟩, hds⟩
theorem ArAll.one (c : CP) {d : D} {v : V} (h : Da K (frz H os) d v) : ArAll K mA os H [.dat d] [v] := ⟨v, [], rfl, h, rfl⟩
/-- what a callee is handed -/
theorem spD_of {f : Mr} {np : Nat} {as : List Ar} {vs : List V} {Q : VK} (st : Co c.T B S H os) (ar : Arity f np) (h : ArAll c.K B.mA os H as vs) (hacc : (f as S).acc (PostE c B.mA os H Q) (PostX c B.mA os H)) : spD c.K c.mg c.T np f vs H Q c.W :=
  ⟨B.mA, os, S, as, by rw [h.length]; exact ar _ _ _ _ hacc, st.mst, st.mos', st.dom, st.tab, h, hacc⟩
theorem re_call {k np : Nat} {f : Mr} {dD : List D} {ms : M (List Ar)} (kn : Kn c.toWd x k np f dD) (ha : RefA c Γ (e :: es) ms) (hk : k ≤ c.k := by first | exact Nat.le_of_ble_eq_true rfl | exact Nat.le_refl _) (hg : c.sc.names.lookup x = some .globalImplicit := by rfl)
    (hdb : (x == ("__debug__" : Str)) = false := by decide) (hs : NoStar e es := by intro _; rfl) (hpl : NoStars es := by intro _ _; rfl) : RefE c Γ (.Call (.Name x p) (e :: es) [] pos) (do let as ← ms; f (as ++ dD.map .dat)) := by
  intro B S σ H os Q st hacc
  obtain ⟨ar, fa, fd, ps, ds, dvs, F, hm, hkp, hb, hv, hD⟩ := kn
  refine ⟨tCall (spD c.K c.mg c.T np f) dvs c.W (WA c (e :: es)), fun X hX => pe_call (CX := L2.CX X.prog X.w) (f := fa) (fd := fd) (ps := ps) (k := k) ?_ ⟨hX.room.hd, ?_, ?_⟩ (gl_of hX hg) (by rw [hX.mg]; exact hm) (by rw [hX.K]; exact hkp) (by rw [hX.K]; exact hb) hv (passes_call hX.takes fun _ _ _ _ h => h) (pa_W hX (e :: es)) hdb (hs _) (hpl _ _), ?_⟩
  · rw [hX.prog, hX.w, hX.K, hX.mg, hX.base]
    exact F
  · exact (hX.room.mono hk).dp
  · exact (hX.room.mono hk).un
  · refine ha B S σ H os _ st (acc_mono (acc_bind hacc) (fun as S1 q vs H1 a1 has => ?_) fun _ _ _ _ z => z)
    refine spD_of (st.step a1).co ar (has.append (.of_dats (hD _))) (acc_mono q (fun d S2 q2 v H2 a2 hd => q2 v H2 (a1.trans a2) hd) fun _ _ _ _ z => z.back a1)
/-! ### keywords -/
def RefK (c : CP) (Γ : List Sl) (kws : List Keyword) (m : M (List Ar)) : Prop := ∀ (B : Bs) (S : DS) (σ : L2.St) (H : Hp) (os : List Addr) (Q : List V → Hp → Prop), St c B Γ S σ H os →
  (m S).acc (fun as S' => ∀ vs H', Aft c.T B.mA H H' S' → ArAll c.K B.mA os H' as vs → Q vs H') (PostX c B.mA os H) → ∃ t, (∀ X, c.Has X → PK X kws t) ∧ t σ H Q
theorem rk_nil : RefK c Γ [] (pure []) := fun B S σ H os Q st h => ⟨tNil, fun X hX => pk_nil, h [] H (.refl st.co) rfl⟩
def WK (c : CP) (kws : List Keyword) : TA := fun σ H Q => ∃ t, (∀ X, c.Has X → PK X kws t) ∧ t σ H Q
theorem pk_W {X : Cx} (hX : c.Has X) (kws : List Keyword) : PK X kws (WK c kws) := ⟨fun pos pins s σ H Q I ⟨t, ht, h⟩ => (ht X hX).run pos pins s σ H Q I h⟩
theorem rk_cons {nm : Option Str} {kpos : Pos} {kws : List Keyword} {m : M D} {ms : M (List Ar)} (h1 : RefE c Γ e m) (h2 : RefK c Γ kws ms) : RefK c Γ (⟨nm, e, kpos⟩ :: kws) (do let x ← m; let xs ← ms; pure (.dat x :: xs)) := by
  intro B S σ H os Q st ha
  refine ⟨tCons (WE c e) (WK c kws), fun X hX => pk_cons (pe_W hX e) (pk_W hX kws), ?_⟩
  refine h1 B S σ H os _ st (acc_mono (acc_bind ha) (fun d S1 q v H1 a1 hd => ?_) fun _ _ _ _ z => z)
  refine h2 B S1 σ H1 os _ (st.step a1) (acc_mono (acc_bind q) (fun ds S2 q2 vs H2 a2 hds => ?_) fun _ _ _ _ z => z.back a1)
  exact q2 (v :: vs) H2 (a1.trans a2) ⟨v, vs, rfl, hd.mono ((st.step a1).co.frz a2), hds⟩
/-- f(k = v, ..) -/
theorem pe_callK0 {X : Cx} {CX : CXT} {k : Nat} {f : Addr} {fd : FuncData} {ps ks : List Str} {sp : Sp} {E : XK} {kws : List Keyword} {tk : TA} {g : List Value → List Value → List Value} {gV : List V → List V → List V}
    (F : FnOk X.prog X.w X.K X.mg X.base CX k f fd ps sp) (hr : Room k X.A) (hg : Gl X x) (hm : X.mg x = some (.ref f)) (hk : PySem.W.keepIn X.K (.ref f) = true) (hb : KBn X.K fd ps 0 ks g gV) (hx : Passes CX X E)
    (hkw : PK X kws tk) (hall : (backToKw pos (keywordEach kws X.env)).all (·.1.isSome) = true) (hks : (backToKw pos (keywordEach kws X.env)).filterMap (·.1) = ks) (hdb : (x == ("__debug__" : Str)) = false)
    (hpl : ((backTo pos (starEach [] X.env)).any (·.1) || (backToKw pos (keywordEach kws X.env)).any (·.1.isNone)) = false) :
    PE X (.Call (.Name x p) [] kws pos) (fun σ H Q => tk σ H fun zs H2 => zs.length = ks.length ∧ sp (gV [] zs) H2 Q E) := by
  refine ⟨fun pins s σ H Q I h => wpAny_Call_Name_kw (ld_glob I hg hm ?_ hdb)⟩
  refine PySem.W.callWith_KW0 (h₀ := X.base) I.ok.mod.kin hk hall (thn (hkw.run pos pins s σ H _ I h) fun ws s2 ⟨zs, H2, I2, rz, l2, q2⟩ => ⟨I2.kIn, ?_⟩) hpl
  rw [hks]
  exact run_fnN (us := []) (vs := []) F hr hb hx I2 .nil rz rfl l2 q2
structure KwOk (kws : List Keyword) (ks : List Str) : Prop where
  hall : ∀ env pos, (backToKw pos (keywordEach kws env)).all (·.1.isSome) = true
  hks : ∀ env pos, (backToKw pos (keywordEach kws env)).filterMap (·.1) = ks
  hpl : ∀ env pos, ((backTo pos (starEach [] env)).any (·.1) || (backToKw pos (keywordEach kws env)).any (·.1.isNone)) = false
theorem re_callK {k np : Nat} {f : Mr} {ks : List Str} {g : List Ar → List Ar} {kws : List Keyword} {ms : M (List Ar)} (kn : KnK c.toWd x k np f ks g) (ha : RefK c Γ kws ms) (hw : KwOk kws ks := by exact ⟨fun _ _ => rfl, fun _ _ => rfl, fun _ _ => rfl⟩)
    (hl : ∀ S Φ Ψ, (ms S).acc Φ Ψ → (ms S).acc (fun as S' => Φ as S' ∧ as.length = ks.length) Ψ) (hk : k ≤ c.k := by first | exact Nat.le_of_ble_eq_true rfl | exact Nat.le_refl _) (hg : c.sc.names.lookup x = some .globalImplicit := by rfl) (hdb : (x == ("__debug__" : Str)) = false := by decide) :
    RefE c Γ (.Call (.Name x p) [] kws pos) (do let as ← ms; f (g as)) := by
  intro B S σ H os Q st hacc
  obtain ⟨ar, fa, fd, ps, gU, gV, F, hm, hkp, hb, hD⟩ := kn
  refine ⟨_, fun X hX => pe_callK0 (CX := L2.CX X.prog X.w) (f := fa) (fd := fd) (ps := ps) (k := k) (E := c.W) (sp := spD c.K c.mg c.T np f) (g := gU) (gV := gV) ?_ ⟨hX.room.hd, (hX.room.mono hk).dp, (hX.room.mono hk).un⟩ (gl_of hX hg) (by rw [hX.mg]; exact hm) (by rw [hX.K]; exact hkp) (by rw [hX.K]; exact hb) (passes_call hX.takes fun _ _ _ _ h => h) (pk_W hX kws) (hw.hall _ _) (hw.hks _ _) hdb (hw.hpl _ _), ?_⟩
  · rw [hX.prog, hX.w, hX.K, hX.mg, hX.base]
    exact F
  · refine ha B S σ H os _ st (acc_mono (hl _ _ _ (acc_bind hacc)) (fun as S1 q vs H1 a1 has => ?_) fun _ _ _ _ z => z)
    have hz : vs.length = ks.length := by rw [has.length]; exact q.2
    refine ⟨hz, spD_of (st.step a1).co ar (hD _ _ _ _ _ has hz).1 (acc_mono q.1 (fun d S2 q2 v H2 a2 hd => q2 v H2 (a1.trans a2) hd) fun _ _ _ _ z => z.back a1)⟩
end
end DL
/-! # DL, ninth part: slots, targets, what is walked. -/
namespace DL
open PySem PySem.Spec L2
/-! ### wiping -/
theorem wipe_get {σ : L2.St} {i : Nat} : ∀ {vs : List Nat}, (wipe σ vs)[i]? = if i ∈ vs then (if i < σ.length then some none else none) else σ[i]?
  | [] => by simp [wipe]
  | v :: vs => by
    unfold wipe
    rw [List.getElem?_set, wipe_get (vs := vs), wipe_length]
    by_cases h : v = i
    · subst h
      simp
    · rw [if_neg h]
      have h' : i ≠ v := fun z => h z.symm
      simp [h']
theorem wipe_eq {σ2 σ : L2.St} {vs : List Nat} (hl : σ2.length = σ.length) (h : ∀ i, i ∉ vs → σ2[i]? = σ[i]?) : wipe σ2 vs = wipe σ vs := by
  apply List.ext_getElem?
  intro i
  rw [wipe_get, wipe_get, hl]
  by_cases q : i ∈ vs
  · rw [if_pos q, if_pos q]
  · rw [if_neg q, if_neg q, h i q]
def wipeG (Γ : List Sl) : List Nat → List Sl
  | [] => Γ
  | v :: vs => (wipeG Γ vs).set v .un
theorem wipeG_get {Γ : List Sl} {i : Nat} : ∀ {vs : List Nat}, (wipeG Γ vs)[i]? = if i ∈ vs then (if i < Γ.length then some .un else none) else Γ[i]?
  | [] => by simp [wipeG]
  | v :: vs => by
    have hlen : ∀ (vs : List Nat), (wipeG Γ vs).length = Γ.length := fun vs => by
      induction vs with
      | nil => rfl
      | cons u us ih => unfold wipeG; rw [List.length_set, ih]
    unfold wipeG
    rw [List.getElem?_set, wipeG_get (vs := vs), hlen]
    by_cases h : v = i
    · subst h
      simp
    · rw [if_neg h]
      have h' : i ≠ v := fun z => h z.symm
      simp [h']
theorem wipeG_length {Γ : List Sl} : ∀ {vs : List Nat}, (wipeG Γ vs).length = Γ.length
  | [] => rfl
  | v :: vs => by unfold wipeG; rw [List.length_set, wipeG_length]
/-- the context of a comprehension's block -/
def CP.blk (c : CP) (scope : Scope) : CP := { c with sc := relS scope c.sc, W := fun _ _ _ => False, fnb := fun x => scope.names.lookup x == some .cell, lam := none }
section
variable {c : CP} {B : Bs} {Γ Γ' : List Sl} {S S' S2 : DS} {σ : L2.St} {H H' H1 H2 : Hp} {os : List Addr} {mA : MA} {e a b : Expr} {es : List Expr} {pos p : Pos} {x : Str} {K : PySem.W.Frag} {X : Cx}
theorem has_blk {scope : Scope} (hX : c.Has X) (s : Shared) (H : Hp) (cl : List (Str × Addr)) (C : Addr) (fp : List Addr) : (c.blk scope).Has (X.blk s H scope (compEnvC scope cl C X.env) fp) :=
  ⟨hX.prog, hX.w, hX.K, hX.mg, hX.base, hX.N, hX.nd, by show relS scope X.env.scope = relS scope c.sc; rw [hX.sc], hX.room, hX.calm, .never, takes0, fun x h => h, fun q h => by cases h⟩
/-- the slots that the pattern Γ' knows less of -/
def Wk : List Sl → List Sl → Prop
  | [], [] => True
  | a :: r, b :: s => (b = .un ∨ b = a) ∧ Wk r s
  | _, _ => False
theorem Wk.get : ∀ {Γ Γ' : List Sl} {i : Nat} {s : Sl}, Wk Γ Γ' → Γ'[i]? = some s → s = .un ∨ Γ[i]? = some s
  | [], [], _, _, _, e => by simp at e
  | a :: r, b :: t, 0, s, h, e => by
    have e' : b = s := Option.some.inj e
    subst e'
    exact h.1.imp id fun z => by rw [z]; rfl
  | a :: r, b :: t, i + 1, s, h, e => by
    have := Wk.get (i := i) h.2 (by simpa using e)
    simpa using this
  | [], _ :: _, _, _, h, _ => h.elim
  | _ :: _, [], _, _, h, _ => h.elim
theorem Wk.length : ∀ {Γ Γ' : List Sl}, Wk Γ Γ' → Γ.length = Γ'.length
  | [], [], _ => rfl
  | _ :: _, _ :: _, h => by rw [List.length_cons, List.length_cons, Wk.length h.2]
  | [], _ :: _, h => h.elim
  | _ :: _, [], h => h.elim
theorem Wk.refl : ∀ {Γ : List Sl}, Wk Γ Γ
  | [] => trivial
  | _ :: _ => ⟨.inr rfl, Wk.refl⟩
theorem St.wk (st : St c B Γ S σ H os) (h : Wk Γ Γ') : St c B Γ' S σ H os :=
  ⟨st.co, by rw [← h.length]; exact st.len, fun i s e => by
    rcases h.get e with z | z
    · subst z; trivial
    · exact st.sl i s z, fun i j ds es a e1 e2 => by
    rcases h.get e1 with z | z
    · cases z
    · rcases h.get e2 with z' | z'
      · cases z'
      · exact st.nd i j ds es a z z'⟩
theorem St.wipe {scope : Scope} (st : St c B Γ S σ H os) (vs : List Nat) : St (c.blk scope) B (wipeG Γ vs) S (L2.wipe σ vs) H os :=
  ⟨st.co, by rw [wipeG_length, wipe_length]; exact st.len, fun i s e => by
    rw [wipeG_get] at e
    rw [wipe_get]
    by_cases q : i ∈ vs
    · rw [if_pos q] at e
      split at e
      · cases e; trivial
      · cases e
    · rw [if_neg q] at e
      rw [if_neg q]
      exact st.sl i s e, fun i j ds es a e1 e2 e3 e4 => by
    rw [wipeG_get] at e1 e2
    rw [wipe_get] at e3 e4
    by_cases q : i ∈ vs
    · rw [if_pos q] at e1
      split at e1 <;> cases e1
    · by_cases q2 : j ∈ vs
      · rw [if_pos q2] at e2
        split at e2 <;> cases e2
      · rw [if_neg q] at e1 e3
        rw [if_neg q2] at e2 e4
        exact st.nd i j ds es a e1 e2 e3 e4⟩
/-- a name gets a datum -/
theorem St.setd (st : St c B Γ S σ H os) {i : Nat} {d : D} {v : V} (h : Da c.K (frz H os) d v) : St c B (Γ.set i (.dat d)) S (σ.set i (some v)) H os := by
  refine ⟨st.co, by rw [List.length_set, List.length_set]; exact st.len, fun j s e => ?_, fun j k ds es a e1 e2 e3 e4 => ?_⟩
  · rw [List.getElem?_set] at e ⊢
    by_cases q : i = j
    · subst q
      rw [if_pos rfl] at e ⊢
      split at e
      · rename_i hl
        cases e
        rw [if_pos (by rw [← st.len]; exact hl)]
        exact ⟨v, rfl, h⟩
      · cases e
    · rw [if_neg q] at e ⊢
      exact st.sl j s e
  · rw [List.getElem?_set] at e1 e2 e3 e4
    by_cases q : i = j
    · rw [if_pos q] at e1
      split at e1 <;> cases e1
    · by_cases q2 : i = k
      · rw [if_pos q2] at e2
        split at e2 <;> cases e2
      · rw [if_neg q] at e1 e3
        rw [if_neg q2] at e2 e4
        exact st.nd j k ds es a e1 e2 e3 e4
theorem frz_none {b : Addr} (h : H b = none) : frz H os b = none := by
  unfold frz
  split
  · rfl
  · rw [h]
theorem frz_nil {b : Addr} {o : HO} (h : H b = some o) (ho : ∀ ps, o ≠ .tbl ps) : frz H [] b = some o := frz_of h ho (by simp)
/-- what is new now was not there at the entry -/
theorem Co.mine0 (h : Co c.T B S H os) {p : Addr} (hp : DL.frz H [] p = none) (hm : p ∉ msA B.mA) : DL.frz B.H0 [] p = none := by
  cases e : DL.frz B.H0 [] p with
  | none => rfl
  | some o =>
    obtain ⟨e1, e2, _⟩ := of_frz e
    rw [frz_nil (h.nx _ _ e1 e2 hm) e2] at hp
    cases hp
theorem frz_more {p : Addr} {o : HO} (hp : H p = none) : Same (frz H os) (frz (upd H p o) (p :: os)) := fun b u e => by
  obtain ⟨e1, e2, e3⟩ := of_frz e
  have hb : b ≠ p := ne_of_none e1 hp
  refine frz_of (by rw [upd_ne hb]; exact e1) e2 fun z => ?_
  rcases List.mem_cons.mp z with z | z
  · exact hb z
  · exact e3 z
theorem Co.more (h : Co c.T B S H os) {p : Addr} {xs : List V} (hl : H p = some (.lst xs)) (hn : p ∉ os) (h0 : DL.frz B.H0 [] p = none) : Co c.T B S H (p :: os) :=
  ⟨fun a ha => List.mem_cons_of_mem _ (h.sub a ha), fun a ha hb => by
    rcases List.mem_cons.mp ha with z | z
    · rw [z]; exact h0
    · exact h.mine a z hb, h.nx, h.mst, h.mos, fun b hb => by
    rcases List.mem_cons.mp hb with z | z
    · rw [z]; exact ⟨_, hl, fun _ z => by cases z⟩
    · exact h.dom b z, h.tab⟩
/-- an own list changes -/
theorem Co.bump (h : Co c.T B S H os) {p : Addr} {xs ys : List V} (hl : H p = some (.lst xs)) (hm : p ∈ os) (h0 : p ∉ B.os0) : Co c.T B S (upd H p (.lst ys)) os :=
  ⟨h.sub, h.mine, fun b o e n m => by
    have hb : b ≠ p := fun z => by
      have := h.mine p hm h0
      rw [← z, frz_nil e n] at this
      cases this
    rw [upd_ne hb]
    exact h.nx b o e n m, h.mst.upd fun z => h0 (h.mos p z), h.mos, fun b hb => by
    by_cases q : b = p
    · subst q; exact ⟨_, upd_same, fun _ z => by cases z⟩
    · rw [upd_ne q]; exact h.dom b hb, tabs_upd h.tab ⟨(fun _ z => by rw [hl] at z; cases z), (fun _ z => by rw [hl] at z; cases z)⟩⟩
/-- an address is no own slot's -/
def NoOwn (Γ : List Sl) (σ : L2.St) (p : Addr) : Prop := ∀ (i : Nat) ds, Γ[i]? = some (.own ds) → σ[i]? ≠ some (some (.ref p))
theorem St.noOwn (st : St c B Γ S σ H os) {p : Addr} (hp : p ∉ os) : NoOwn Γ σ p := fun i ds e z => by
  obtain ⟨a, q1, q2, _⟩ := st.sl i _ e
  rw [z] at q1
  cases q1
  exact hp q2
/-- a new list, kept apart -/
theorem St.more (st : St c B Γ S σ H os) {p : Addr} {xs : List V} (hl : H p = some (.lst xs)) (hn : p ∉ os) (h0 : frz B.H0 [] p = none) (hs : ∀ (i : Nat) s, Γ[i]? = some s → SlOk c.K B H (p :: os) σ[i]? s) : St c B Γ S σ H (p :: os) :=
  ⟨st.co.more hl hn h0, st.len, hs, st.nd⟩
theorem St.new (st : St c B Γ S σ H os) {p : Addr} {xs : List V} (hp : H p = none) : St c B Γ S σ (upd H p (.lst xs)) (p :: os) := by
  have a1 := Aft.new (o := .lst xs) st.co hp
  have hn := st.co.fresh hp
  refine ⟨(st.co.step a1).more upd_same hn (st.co.mine0 (frz_none hp) fun z => hn (st.co.mos' p z)), st.len, fun i s e => ?_, st.nd⟩
  have q := st.sl i s e
  cases s with
  | un => trivial
  | drw => exact q
  | mem b => exact q
  | giv ns => obtain ⟨b, q1, q2⟩ := q; exact ⟨b, q1, sqL_same (frz_more hp) q2⟩
  | dat d =>
    obtain ⟨v, q1, q2⟩ := q
    exact ⟨v, q1, q2.mono (frz_more hp)⟩
  | own ds =>
    obtain ⟨a, q1, q2, q3, vs, q4, q5⟩ := q
    refine ⟨a, q1, List.mem_cons_of_mem _ q2, q3, vs, ?_, q5.mono (frz_more hp)⟩
    rw [upd_ne fun z => hn (by rw [← z]; exact q2)]
    exact q4
theorem St.bump (st : St c B Γ S σ H os) {p : Addr} {xs ys : List V} (hl : H p = some (.lst xs)) (hm : p ∈ os) (h0 : p ∉ B.os0) (hn : NoOwn Γ σ p) : St c B Γ S σ (upd H p (.lst ys)) os := by
  refine ⟨st.co.bump hl hm h0, st.len, fun i s e => ?_, st.nd⟩
  have q := st.sl i s e
  cases s with
  | un => trivial
  | drw => exact q
  | mem b => exact q
  | giv ns => obtain ⟨b, q1, q2⟩ := q; exact ⟨b, q1, by rw [frz_upd_own hm]; exact q2⟩
  | dat d =>
    obtain ⟨v, q1, q2⟩ := q
    exact ⟨v, q1, by rw [frz_upd_own hm]; exact q2⟩
  | own ds =>
    obtain ⟨a, q1, q2, q3, vs, q4, q5⟩ := q
    refine ⟨a, q1, q2, q3, vs, ?_, by rw [frz_upd_own hm]; exact q5⟩
    rw [upd_ne fun z => hn i ds e (by rw [← z]; exact q1)]
    exact q4
/-! ### targets -/
structure TgOk (c : CP) (tg : Expr) (ix : List Nat) (sl : List Sl → D → Option (List Sl)) : Prop where
  ex : ∃ g : TG, (∀ X, c.Has X → PG X tg g) ∧ ∀ (B : Bs) (Γ : List Sl) (S : DS) (σ : L2.St) (H : Hp) (os : List Addr) (d : D) (x : V) (R : L2.St → Hp → Prop) (Γ' : List Sl), St c B Γ S σ H os → Da c.K (frz H os) d x → sl Γ d = some Γ' →
    (∀ σ', St c B Γ' S σ' H os → σ'.length = σ.length → (∀ i, i ∉ ix → σ'[i]? = σ[i]?) → R σ' H) → g x σ H R
def CanSet (c : CP) (x : Str) : Prop := Loc c.sc x ∧ (c.fnb x = true ∨ c.sc.names.lookup x = some .local)
theorem pg_cs {X : Cx} (hX : c.Has X) {i : Nat} (hi : c.N[i]? = some x) (h : CanSet c x) : PG X (.Name x pos) (gName i) :=
  pg_name hX.nd (by rw [hX.N]; exact hi) (by rw [hX.sc]; exact h.1) (h.2.imp (hX.fn x) fun z => by rw [hX.sc]; exact z)
theorem tg_name (i : Nat) (hi : c.N[i]? = some x := by rfl) (h : CanSet c x := by first | exact ⟨.inl rfl, .inl rfl⟩ | exact ⟨.inl rfl, .inr rfl⟩ | exact ⟨.inr rfl, .inl rfl⟩) : TgOk c (.Name x pos) [i] (fun Γ d => some (Γ.set i (.dat d))) :=
  ⟨gName i, fun X hX => pg_cs hX hi h, fun B Γ S σ H os d x R Γ' st hd e k => by
    cases e
    exact k _ (st.setd hd) (by rw [List.length_set]) fun j hj => by
      rw [List.getElem?_set, if_neg fun z => hj (by rw [z]; exact List.mem_singleton_self _)]⟩
/-- the slots behind a pair's two names -/
def sl2 (i j : Nat) (Γ : List Sl) : D → Option (List Sl)
  | .tuple [a, b] => some ((Γ.set i (.dat a)).set j (.dat b))
  | _ => none
theorem tg_two (i j : Nat) {x y : Str} {p q : Pos} {k : Nat} (hi : c.N[i]? = some x := by rfl) (hj : c.N[j]? = some y := by rfl)
    (h : CanSet c x := by first | exact ⟨.inl rfl, .inl rfl⟩ | exact ⟨.inl rfl, .inr rfl⟩ | exact ⟨.inr rfl, .inl rfl⟩) (h' : CanSet c y := by first | exact ⟨.inl rfl, .inl rfl⟩ | exact ⟨.inl rfl, .inr rfl⟩ | exact ⟨.inr rfl, .inl rfl⟩) :
    TgOk c (.Tuple [.Name x p, .Name y q] k pos) [i, j] (sl2 i j) := by
  refine ⟨gTup c.K 2 (gCons (gName i) (gCons (gName j) gNil)), fun X hX => by rw [← hX.K]; exact pg_tup hX.calm (pgs_cons (pg_cs hX hi h) (pgs_cons (pg_cs hX hj h') pgs_nil)), fun B Γ S σ H os d x R Γ' st hd e kk => ?_⟩
  unfold sl2 at e
  split at e
  · rename_i a b
    cases e
    obtain ⟨t, vs, rfl, h1, h2⟩ := hd
    obtain ⟨v, u, rfl, q1, q2⟩ := two_da h2
    refine ⟨t, _, rfl, sqT_same frz_le h1, rfl, v, _, rfl, u, _, rfl, rfl, kk _ ((st.setd q1).setd q2) (by rw [List.length_set, List.length_set]) fun l hl => ?_⟩
    have l1 : i ≠ l := fun z => hl (by rw [z]; exact List.mem_cons_self)
    have l2 : j ≠ l := fun z => hl (by rw [z]; exact List.mem_cons_of_mem _ List.mem_cons_self)
    rw [List.getElem?_set, if_neg l2, List.getElem?_set, if_neg l1]
  · cases e
/-! ### what is walked -/
structure ItD (c : CP) (B : Bs) (ds : List D) (J : It) (G0 : Hp) : Prop where
  go : ∀ i H os, i < ds.length → Same G0 (frz H os) → J.go i H
  stop : ∀ H os, Same G0 (frz H os) → J.stop ds.length H
  yld : ∀ i H x H' S os, Same G0 (frz H os) → Co c.T B S H os → J.yld i H x H' → i < ds.length → Aft c.T B.mA H H' S ∧ ∃ d, ds[i]? = some d ∧ Da c.K (frz H' os) d x
def RefI (c : CP) (Γ : List Sl) (tg iter : Expr) (m : M (List D)) : Prop := ∀ (B : Bs) (S : DS) (σ : L2.St) (H : Hp) (os : List Addr) (R : It → Hp → Prop), St c B Γ S σ H os →
  (m S).acc (fun ds S' => ∀ J H', Aft c.T B.mA H H' S' → ItD c B ds J (frz H' os) → R J H') (PostX c B.mA os H) → WI c tg iter σ H R
theorem itd_list {G0 : Hp} {ds : List D} {vs : List V} {a : Addr} (ha : SqL c.K G0 a vs) (hd : DaAll c.K G0 ds vs) : ItD c B ds (Itl c.K a) G0 where
  go := fun i H os hi s => by
    obtain ⟨v, hv, _⟩ := hd.get (List.getElem?_eq_getElem hi)
    exact ⟨vs, v, sqL_same frz_le (sqL_same s ha), hv⟩
  stop := fun H os s => ⟨vs, sqL_same frz_le (sqL_same s ha), by rw [hd.length]; exact Nat.le_refl _⟩
  yld := fun i H x H' S os s co h hi => by
    obtain ⟨rfl, h⟩ := h
    obtain ⟨d, h1, h2⟩ := hd.get' (h vs (sqL_same frz_le (sqL_same s ha)))
    exact ⟨.refl co, d, h1, h2.mono s⟩
theorem itd_tup {G0 : Hp} {ds : List D} {vs : List V} {a : Addr} (ha : SqT c.K G0 a vs) (hd : DaAll c.K G0 ds vs) : ItD c B ds (Itt c.K a) G0 where
  go := fun i H os hi s => by
    obtain ⟨v, hv, _⟩ := hd.get (List.getElem?_eq_getElem hi)
    exact ⟨vs, v, sqT_same frz_le (sqT_same s ha), hv⟩
  stop := fun H os s => ⟨vs, sqT_same frz_le (sqT_same s ha), by rw [hd.length]; exact Nat.le_refl _⟩
  yld := fun i H x H' S os s co h hi => by
    obtain ⟨rfl, h⟩ := h
    obtain ⟨d, h1, h2⟩ := hd.get' (h vs (sqT_same frz_le (sqT_same s ha)))
    exact ⟨.refl co, d, h1, h2.mono s⟩
def iSq (K : PySem.W.Frag) (tl : TE) : TI := fun σ H R => tl σ H fun x H1 => ∃ a, x = .ref a ∧ ((∃ xs, SqL K H1 a xs ∧ R (Itl K a) H1) ∨ ∃ xs, SqT K H1 a xs ∧ R (Itt K a) H1)
theorem pi_sq {tg l : Expr} {tl : TE} (hl : PE X l tl) : PI X tg l (iSq X.K tl) := by
  refine ⟨fun pins s σ H R I h => thn (hl.run pins s σ H _ I h) fun v s1 ⟨x, H1, I1, r1, a, e, q⟩ => ?_⟩
  subst e
  cases r1
  have fp : ∀ b ∈ [s1.heap.objs.size], FpOk X pins H1 b := fun b hb => by
    rw [List.mem_singleton.mp hb]; exact I1.fpOk (Nat.le_refl _) (I1.hok.fresh (Nat.le_refl _))
  rcases q with ⟨xs, hq, q⟩ | ⟨xs, hq, q⟩
  · obtain ⟨its, rv, p, hz⟩ := I1.list hq
    exact wpAny_pyIter_list p.isList ⟨s1.heap.objs.size, [s1.heap.objs.size], _, _, H1, rfl, I1.kept (t' := s1.toks) fun b o e => Heap.get?_push_of_some _ e, turn_list a _, ⟨_, Heap.get?_push_size _ rfl, rfl, rfl⟩, fp, q⟩
  · obtain ⟨its, rv, p, hz⟩ := I1.tuple hq
    exact wpAny_pyIter_tuple (show s1.heap.IsTuple a its.toArray from p) ⟨s1.heap.objs.size, [s1.heap.objs.size], _, _, H1, rfl, I1.kept (t' := s1.toks) fun b o e => Heap.get?_push_of_some _ e, turn_tuple a _, ⟨_, Heap.get?_push_size _ rfl, rfl, rfl⟩, fp, q⟩
theorem ri_sq {tg : Expr} {m : M D} (h : RefE c Γ e m) : RefI c Γ tg e (do let x ← m; asSq x) := by
  intro B S σ H os R st hacc
  refine ⟨iSq c.K (WE c e), fun X hX => by rw [← hX.K]; exact pi_sq (pe_W hX e), ?_⟩
  refine h B S σ H os _ st (acc_mono (acc_bind hacc) (fun d S1 q v H1 a1 hd => ?_) fun _ _ _ _ z => z)
  cases d with
  | list ds =>
    obtain ⟨a, vs, rfl, h1, h2⟩ := hd
    exact ⟨a, rfl, .inl ⟨vs, SqL.of (frz_le _ _ h1), q _ H1 a1 (itd_list (SqL.of h1) h2)⟩⟩
  | tuple ds =>
    obtain ⟨a, vs, rfl, h1, h2⟩ := hd
    exact ⟨a, rfl, .inr ⟨vs, sqT_same frz_le h1, q _ H1 a1 (itd_tup h1 h2)⟩⟩
  | _ => exact q.elim
theorem itd_rng {G0 : Hp} {lo : Int} {n : Nat} : ItD c B (rngL lo n) (Itr lo n) G0 where
  go := fun i H os hi s => by
    unfold rngL at hi
    rw [List.length_map, List.length_range] at hi
    exact hi
  stop := fun H os s => by
    unfold rngL
    rw [List.length_map, List.length_range]
    exact Nat.le_refl n
  yld := fun i H x H' S os s co h hi => by
    obtain ⟨rfl, rfl⟩ := h
    have hn : i < n := by
      unfold rngL at hi
      rwa [List.length_map, List.length_range] at hi
    refine ⟨.refl co, .int (lo + i), ?_, rfl⟩
    unfold rngL
    rw [List.getElem?_map, List.getElem?_range hn]
    rfl
/-- bounds of a range -/
theorem asN_acc {d : D} {Φ : Int → DS → Prop} {Ψ : Str → Str → D → DS → Prop} (h : (asN d S).acc Φ Ψ) : ∃ i, d = .int i ∧ -1000000 ≤ i ∧ i ≤ 1000000 ∧ Φ i S := by
  unfold asN at h
  split at h
  · split at h
    · rename_i q
      exact ⟨_, rfl, q.1, q.2, h⟩
    · exact h.elim
  · exact h.elim
theorem ri_rng1 {tg : Expr} {m : M D} (h : RefE c Γ a m) (hg : c.sc.names.lookup ("range" : Str) = some .globalImplicit := by rfl) (hm : c.mg ("range" : Str) = none) (hs : NoStar a [] := by intro _; rfl) :
    RefI c Γ tg (.Call (.Name "range" p) [a] [] pos) (do let x ← m; let n ← asN x; pure (rngL 0 n.toNat)) := by
  intro B S σ H os R st hacc
  refine ⟨iRng1 (tCons (WE c a) tNil), fun X hX => pi_range1 (gl_of hX hg) (mg_none hX hm) (pa_cons (pe_W hX a) pa_nil (hs _)) (hs _), ?_⟩
  refine h B S σ H os _ st (acc_mono (acc_bind hacc) (fun d S1 q v H1 a1 hd => ?_) fun _ _ _ _ z => z)
  obtain ⟨i, rfl, q1, q2, q3⟩ := asN_acc (acc_bind q)
  cases hd
  exact ⟨i, rfl, by omega, by omega, q3 _ H1 a1 itd_rng⟩
theorem ri_rng2 {tg : Expr} {ma mb : M D} (ha : RefE c Γ a ma) (hb : RefE c Γ b mb) (hg : c.sc.names.lookup ("range" : Str) = some .globalImplicit := by rfl) (hm : c.mg ("range" : Str) = none) (hs : NoStar a [b] := by intro _; rfl) (hs2 : NoStar b [] := by intro _; rfl) :
    RefI c Γ tg (.Call (.Name "range" p) [a, b] [] pos) (do let x ← ma; let y ← mb; let i ← asN x; let j ← asN y; pure (rngL i (j - i).toNat)) := by
  intro B S σ H os R st hacc
  refine ⟨iRng2 (tCons (WE c a) (tCons (WE c b) tNil)), fun X hX => pi_range2 (gl_of hX hg) (mg_none hX hm) (pa_cons (pe_W hX a) (pa_cons (pe_W hX b) pa_nil (hs2 _)) (hs _)) (by rw [hs, hs2]; rfl) (hs2 _), ?_⟩
  refine ha B S σ H os _ st (acc_mono (acc_bind hacc) (fun d S1 q v H1 a1 hd => ?_) fun _ _ _ _ z => z)
  refine hb B S1 σ H1 os _ (st.step a1) (acc_mono (acc_bind q) (fun d2 S2 q2 v2 H2 a2 hd2 => ?_) fun _ _ _ _ z => z.back a1)
  obtain ⟨i, rfl, i1, i2, q3⟩ := asN_acc (acc_bind q2)
  obtain ⟨j, rfl, j1, j2, q4⟩ := asN_acc (acc_bind q3)
  cases hd
  cases hd2
  exact ⟨i, j, rfl, ⟨by omega, by omega, by omega, by omega⟩, q4 _ H2 (a1.trans a2) itd_rng⟩
/-- pairs -/
theorem zipL_get : ∀ {xs ys : List D} {i : Nat}, (zipL xs ys)[i]? = match xs[i]?, ys[i]? with
    | some a, some b => some (.tuple [a, b])
    | _, _ => none
  | [], _, i => by simp [zipL]
  | a :: r, [], i => by
    simp only [zipL]
    cases h : (a :: r)[i]? <;> simp
  | a :: r, b :: t, 0 => rfl
  | a :: r, b :: t, i + 1 => by
    simp only [zipL, List.getElem?_cons_succ]
    exact zipL_get
theorem zipL_length : ∀ {xs ys : List D}, (zipL xs ys).length = min xs.length ys.length
  | [], _ => by simp [zipL]
  | _ :: _, [] => by simp [zipL]
  | _ :: r, _ :: t => by simp only [zipL, List.length_cons, zipL_length]; omega
theorem pair_new (co : Co c.T B S H os) {T : Addr} {x y : V} {d e : D} (hT : H T = none) (h1 : Da c.K (frz H os) d x) (h2 : Da c.K (frz H os) e y) : Aft c.T B.mA H (upd H T (.tup [x, y])) S ∧ Da c.K (frz (upd H T (.tup [x, y])) os) (.tuple [d, e]) (.ref T) := by
  have a1 := Aft.new (o := .tup [x, y]) co hT
  exact ⟨a1, T, _, rfl, SqT.of (frz_upd_new hT (co.fresh hT) fun _ z => by cases z), x, _, rfl, h1.mono (co.frz a1), y, _, rfl, h2.mono (co.frz a1), rfl⟩
theorem itd_zip {G0 : Hp} {ds es : List D} {vs us : List V} {a b : Addr} (ha : G0 a = some (.lst vs)) (hd : DaAll c.K G0 ds vs) (hb : G0 b = some (.lst us)) (he : DaAll c.K G0 es us) : ItD c B (zipL ds es) (Itz c.K a b) G0 where
  go := fun i H os hi s => by
    rw [zipL_length] at hi
    obtain ⟨v, hv, _⟩ := hd.get (List.getElem?_eq_getElem (show i < ds.length by omega))
    obtain ⟨u, hu, _⟩ := he.get (List.getElem?_eq_getElem (show i < es.length by omega))
    exact ⟨vs, us, v, u, SqL.of (frz_le _ _ (s _ _ ha)), SqL.of (frz_le _ _ (s _ _ hb)), hv, hu⟩
  stop := fun H os s => ⟨vs, us, SqL.of (frz_le _ _ (s _ _ ha)), SqL.of (frz_le _ _ (s _ _ hb)), by rw [zipL_length, hd.length, he.length]; omega⟩
  yld := fun i H x H' S os s co h hi => by
    obtain ⟨T, v, u, rfl, hT, rfl, h1, h2⟩ := h
    obtain ⟨d, e1, e2⟩ := hd.get' (h1 vs (SqL.of (frz_le _ _ (s _ _ ha))))
    obtain ⟨d', e3, e4⟩ := he.get' (h2 us (SqL.of (frz_le _ _ (s _ _ hb))))
    obtain ⟨q1, q2⟩ := pair_new co hT (e2.mono s) (e4.mono s)
    exact ⟨q1, _, by rw [zipL_get, e1, e3], q2⟩
theorem itd_zipT {G0 : Hp} {ds es : List D} {vs us : List V} {a b : Addr} (ha : SqT c.K G0 a vs) (hd : DaAll c.K G0 ds vs) (hb : SqT c.K G0 b us) (he : DaAll c.K G0 es us) : ItD c B (zipL ds es) (RZ.ItzT c.K a b) G0 where
  go := fun i H os hi s => by
    rw [zipL_length] at hi
    obtain ⟨v, hv, _⟩ := hd.get (List.getElem?_eq_getElem (show i < ds.length by omega))
    obtain ⟨u, hu, _⟩ := he.get (List.getElem?_eq_getElem (show i < es.length by omega))
    exact ⟨vs, us, v, u, sqT_same frz_le (sqT_same s ha), sqT_same frz_le (sqT_same s hb), hv, hu⟩
  stop := fun H os s => ⟨vs, us, sqT_same frz_le (sqT_same s ha), sqT_same frz_le (sqT_same s hb), by rw [zipL_length, hd.length, he.length]; omega⟩
  yld := fun i H x H' S os s co h hi => by
    obtain ⟨T, v, u, rfl, hT, rfl, h1, h2⟩ := h
    obtain ⟨d, e1, e2⟩ := hd.get' (h1 vs (sqT_same frz_le (sqT_same s ha)))
    obtain ⟨d', e3, e4⟩ := he.get' (h2 us (sqT_same frz_le (sqT_same s hb)))
    obtain ⟨q1, q2⟩ := pair_new co hT (e2.mono s) (e4.mono s)
    exact ⟨q1, _, by rw [zipL_get, e1, e3], q2⟩
theorem ri_zip {ma mb : M D} {elts : List Expr} {kk : Nat} {tpos : Pos} (ha : RefE c Γ a ma) (hb : RefE c Γ b mb) (hg : c.sc.names.lookup ("zip" : Str) = some .globalImplicit := by rfl) (hm : c.mg ("zip" : Str) = none) (hs : NoStar a [b] := by intro _; rfl) (hs2 : NoStar b [] := by intro _; rfl) (hpl : NoStars [b] := by intro _ _; rfl) :
    RefI c Γ (.Tuple elts kk tpos) (.Call (.Name "zip" p) [a, b] [] pos) (do let x ← ma; let y ← mb; asZip x y) := by
  intro B S σ H os R st hacc
  refine ⟨RZ.iZipA c.K (tCons (WE c a) (tCons (WE c b) tNil)), fun X hX => by rw [← hX.K]; exact RZ.pi_zipA (gl_of hX hg) (mg_none hX hm) (pa_cons (pe_W hX a) (pa_cons (pe_W hX b) pa_nil (hs2 _)) (hs _)) (hs _) (hpl _ _), ?_⟩
  refine ha B S σ H os _ st (acc_mono (acc_bind hacc) (fun d S1 q v H1 a1 hd => ?_) fun _ _ _ _ z => z)
  refine hb B S1 σ H1 os _ (st.step a1) (acc_mono (acc_bind q) (fun d2 S2 q2 v2 H2 a2 hd2 => ?_) fun _ _ _ _ z => z.back a1)
  have hd := hd.mono ((st.step a1).co.frz a2)
  unfold asZip at q2
  split at q2
  · obtain ⟨l, vs, rfl, h1, h2⟩ := hd
    obtain ⟨l', us, rfl, h3, h4⟩ := hd2
    exact ⟨l, l', vs, us, rfl, .inl ⟨SqL.of (frz_le _ _ h1), SqL.of (frz_le _ _ h3), q2 _ H2 (a1.trans a2) (itd_zip h1 h2 h3 h4)⟩⟩
  · obtain ⟨l, vs, rfl, h1, h2⟩ := hd
    obtain ⟨l', us, rfl, h3, h4⟩ := hd2
    exact ⟨l, l', vs, us, rfl, .inr ⟨sqT_same frz_le h1, sqT_same frz_le h3, q2 _ H2 (a1.trans a2) (itd_zipT h1 h2 h3 h4)⟩⟩
  · exact q2.elim
/-! ### reversed -/
theorem rev_get {α : Type} {xs : List α} {i : Nat} (h : i < xs.length) : xs.reverse[i]? = xs[xs.length - 1 - i]? := by
  rw [List.getElem?_reverse h]
theorem itd_rev {G0 : Hp} {ds : List D} {vs : List V} {a : Addr} (ha : G0 a = some (.lst vs)) (hd : DaAll c.K G0 ds vs) : ItD c B ds.reverse (Itv c.K a vs.length) G0 where
  go := fun i H os hi s => by
    rw [List.length_reverse] at hi
    have hl := hd.length
    obtain ⟨v, hv, _⟩ := hd.get (List.getElem?_eq_getElem (show vs.length - 1 - i < ds.length by omega))
    exact ⟨by omega, vs, v, SqL.of (frz_le _ _ (s _ _ ha)), hv⟩
  stop := fun H os s => by
    show vs.length ≤ _
    rw [List.length_reverse, hd.length]
    exact Nat.le_refl _
  yld := fun i H x H' S os s co h hi => by
    obtain ⟨rfl, h⟩ := h
    rw [List.length_reverse] at hi
    obtain ⟨d, h1, h2⟩ := hd.get' (h vs (SqL.of (frz_le _ _ (s _ _ ha))))
    exact ⟨.refl co, d, by rw [rev_get hi, ← hd.length]; exact h1, h2.mono s⟩
theorem itd_revT {G0 : Hp} {ds : List D} {vs : List V} {a : Addr} (ha : SqT c.K G0 a vs) (hd : DaAll c.K G0 ds vs) : ItD c B ds.reverse (RT.ItvT c.K a vs.length) G0 where
  go := fun i H os hi s => by
    rw [List.length_reverse] at hi
    have hl := hd.length
    obtain ⟨v, hv, _⟩ := hd.get (List.getElem?_eq_getElem (show vs.length - 1 - i < ds.length by omega))
    exact ⟨by omega, vs, v, sqT_same frz_le (sqT_same s ha), hv⟩
  stop := fun H os s => by
    show vs.length ≤ _
    rw [List.length_reverse, hd.length]
    exact Nat.le_refl _
  yld := fun i H x H' S os s co h hi => by
    obtain ⟨rfl, h⟩ := h
    rw [List.length_reverse] at hi
    obtain ⟨d, h1, h2⟩ := hd.get' (h vs (sqT_same frz_le (sqT_same s ha)))
    exact ⟨.refl co, d, by rw [rev_get hi, ← hd.length]; exact h1, h2.mono s⟩
theorem ri_rev {tg : Expr} {m : M D} (h : RefE c Γ e m) (hg : c.sc.names.lookup ("reversed" : Str) = some .globalImplicit := by rfl) (hm : c.mg ("reversed" : Str) = none) (hs : NoStar e [] := by intro _; rfl) :
    RefI c Γ tg (.Call (.Name "reversed" p) [e] [] pos) (do let x ← m; let ds ← asSq x; pure ds.reverse) := by with_unfolding_all
  intro B S σ H os R st hacc
  refine ⟨RT.iRevA c.K (WE c e), fun X hX => by rw [← hX.K]; exact RT.pi_revA (gl_of hX hg) (mg_none hX hm) (pe_W hX e) (hs _), ?_⟩
  refine h B S σ H os _ st (acc_mono (acc_bind hacc) (fun d S1 q v H1 a1 hd => ?_) fun _ _ _ _ z => z)
  cases d with
  | list ds =>
    obtain ⟨a, vs, rfl, h1, h2⟩ := hd
    exact ⟨a, vs, rfl, .inl ⟨SqL.of (frz_le _ _ h1), q _ H1 a1 (itd_rev h1 h2)⟩⟩
  | tuple ds =>
    obtain ⟨a, vs, rfl, h1, h2⟩ := hd
    exact ⟨a, vs, rfl, .inr ⟨sqT_same frz_le h1, q _ H1 a1 (itd_revT h1 h2)⟩⟩
  | _ => exact q.elim
/-! ### enumerate -/
theorem enumL_get : ∀ {n : Nat} {xs : List D} {i : Nat} {d : D}, xs[i]? = some d → (enumL n xs)[i]? = some (.tuple [.int ((n + i : Nat) : Int), d])
  | n, [], i, d, h => by simp at h
  | n, x :: r, 0, d, h => by
    cases h
    rfl
  | n, x :: r, i + 1, d, h => by
    simp only [enumL, List.getElem?_cons_succ]
    rw [enumL_get (n := n + 1) (by simpa using h)]
    rw [show n + 1 + i = n + (i + 1) by omega]
theorem enumL_length : ∀ {n : Nat} {xs : List D}, (enumL n xs).length = xs.length
  | _, [] => rfl
  | n, _ :: r => by simp only [enumL, List.length_cons, enumL_length]
theorem itd_enum {G0 : Hp} {ds : List D} {vs : List V} {a : Addr} (ha : SqL c.K G0 a vs) (hd : DaAll c.K G0 ds vs) : ItD c B (enumL 0 ds) (Ite c.K a) G0 where
  go := fun i H os hi s => by
    rw [enumL_length] at hi
    obtain ⟨v, hv, _⟩ := hd.get (List.getElem?_eq_getElem hi)
    exact ⟨vs, v, sqL_same frz_le (sqL_same s ha), hv⟩
  stop := fun H os s => ⟨vs, sqL_same frz_le (sqL_same s ha), by rw [enumL_length, hd.length]; exact Nat.le_refl _⟩
  yld := fun i H x H' S os s co h hi => by
    obtain ⟨T, v, rfl, hT, rfl, h1⟩ := h
    obtain ⟨d, e1, e2⟩ := hd.get' (h1 vs (sqL_same frz_le (sqL_same s ha)))
    obtain ⟨q1, q2⟩ := pair_new co hT (show Da c.K (frz H os) (.int ((i : Nat) : Int)) (.int ((i : Nat) : Int)) from rfl) (e2.mono s)
    exact ⟨q1, _, by rw [enumL_get e1, Nat.zero_add], q2⟩
theorem ri_enum {elts : List Expr} {kk : Nat} {tpos : Pos} {m : M D} (h : RefE c Γ e m) (hg : c.sc.names.lookup ("enumerate" : Str) = some .globalImplicit := by rfl) (hm : c.mg ("enumerate" : Str) = none) (hs : NoStar e [] := by intro _; rfl) :
    RefI c Γ (.Tuple elts kk tpos) (.Call (.Name "enumerate" p) [e] [] pos) (do let x ← m; let ds ← asLs x; pure (enumL 0 ds)) := by with_unfolding_all
  intro B S σ H os R st hacc
  refine ⟨iEnum c.K (tCons (WE c e) tNil), fun X hX => by rw [← hX.K]; exact pi_enum (gl_of hX hg) (mg_none hX hm) (pa_cons (pe_W hX e) pa_nil (hs _)) (hs _), ?_⟩
  refine h B S σ H os _ st (acc_mono (acc_bind hacc) (fun d S1 q v H1 a1 hd => ?_) fun _ _ _ _ z => z)
  cases d with
  | list ds =>
    obtain ⟨a, vs, rfl, h1, h2⟩ := hd
    exact ⟨a, vs, rfl, SqL.of (frz_le _ _ h1), q _ H1 a1 (itd_enum (SqL.of h1) h2)⟩
  | _ => exact q.elim
/-- a given list, walked -/
theorem ri_giv {tg : Expr} (i : Nat) {ns : List Int} (hΓ : Γ[i]? = some (.giv ns) := by rfl) (hN : c.N[i]? = some x := by rfl) (hv : Vis c.sc x := by first | exact Or.inl rfl | exact Or.inr (Or.inl rfl) | exact Or.inr (Or.inr rfl))
    (hd : (x == ("__debug__" : Str)) = false := by decide) (hcd : (x == ("__classdict__" : Str)) = false := by decide) : RefI c Γ tg (.Name x p) (pure (ns.map .int)) := by
  intro B S σ H os R st hacc
  obtain ⟨a, h1, h2⟩ := st.sl i _ hΓ
  refine ⟨iSq c.K (tVar i), fun X hX => by rw [← hX.K]; exact pi_sq (pv i (by rw [hX.N]; exact hN) (by rw [hX.sc]; exact hv) hd hcd), _, h1, a, rfl, .inl ⟨_, sqL_same frz_le h2, ?_⟩⟩
  exact (show ∀ J H', Aft c.T B.mA H H' S → ItD c B (ns.map PyData.int) J (frz H' os) → R J H' from hacc) _ H (.refl st.co) (itd_list h2 (DaAll.ints _))
theorem ri_givEnum {elts : List Expr} {kk : Nat} {tpos q : Pos} (i : Nat) {ns : List Int} (hm : c.mg ("enumerate" : Str) = none) (hΓ : Γ[i]? = some (.giv ns) := by rfl) (hN : c.N[i]? = some x := by rfl) (hv : Vis c.sc x := by first | exact Or.inl rfl | exact Or.inr (Or.inl rfl) | exact Or.inr (Or.inr rfl))
    (hd : (x == ("__debug__" : Str)) = false := by decide) (hcd : (x == ("__classdict__" : Str)) = false := by decide) (hg : c.sc.names.lookup ("enumerate" : Str) = some .globalImplicit := by rfl) (hs : NoStar (.Name x q) [] := by intro _; rfl) :
    RefI c Γ (.Tuple elts kk tpos) (.Call (.Name "enumerate" p) [.Name x q] [] pos) (pure (enumL 0 (ns.map .int))) := by
  intro B S σ H os R st hacc
  obtain ⟨a, h1, h2⟩ := st.sl i _ hΓ
  refine ⟨iEnum c.K (tCons (tVar i) tNil), fun X hX => by rw [← hX.K]; exact pi_enum (gl_of hX hg) (mg_none hX hm) (pa_cons (pv i (by rw [hX.N]; exact hN) (by rw [hX.sc]; exact hv) hd hcd) pa_nil (hs _)) (hs _), _, h1, a, _, rfl, sqL_same frz_le h2, ?_⟩
  exact (show ∀ J H', Aft c.T B.mA H H' S → ItD c B (enumL 0 (ns.map PyData.int)) J (frz H' os) → R J H' from hacc) _ H (.refl st.co) (itd_enum h2 (DaAll.ints _))
end
end DL
/-! # DL, tenth part: new lists, comprehensions, own lists read. -/
namespace DL
open PySem PySem.Spec L2
/-- what must follow a new list -/
def PostN (c : CP) (mA : MA) (os : List Addr) (H : Hp) (Q : VK) : List D → DS → Prop := fun ds S' => ∀ p vs H2, Aft c.T mA H H2 S' → p ∉ os → frz H [] p = none → H2 p = some (.lst vs) → DaAll c.K (frz H2 (p :: os)) ds vs → Q (.ref p) H2
/-- e makes a new list -/
def RefN (c : CP) (Γ : List Sl) (e : Expr) (m : M (List D)) : Prop := ∀ (B : Bs) (S : DS) (σ : L2.St) (H : Hp) (os : List Addr) (Q : VK), St c B Γ S σ H os → (m S).acc (PostN c B.mA os H Q) (PostX c B.mA os H) → WE c e σ H Q
/-- a comprehension's elements -/
def RefIf (c : CP) (Γ : List Sl) (ifs : List Expr) (m : M Bool) : Prop := ∀ (B : Bs) (S : DS) (σ : L2.St) (H : Hp) (os : List Addr) (Q : Bool → Hp → Prop), St c B Γ S σ H os →
  (m S).acc (fun b S' => ∀ H', Aft c.T B.mA H H' S' → Q b H') (PostX c B.mA os H) → ∃ t, (∀ X, c.Has X → PTs X ifs t) ∧ t σ H Q
section
variable {c : CP} {B : Bs} {Γ Γ' : List Sl} {S S' S2 : DS} {σ : L2.St} {H H' H1 H2 : Hp} {os : List Addr} {mA : MA} {e a b : Expr} {es : List Expr} {pos p : Pos} {x : Str} {K : PySem.W.Frag} {X : Cx}
theorem quiet_acc {α : Type} {m : M α} {Φ : α → DS → Prop} {Ψ Ψ' : Str → Str → D → DS → Prop} (h : (quiet m S).acc Φ Ψ) : (m S).acc Φ Ψ' := by
  unfold quiet at h
  cases e : m S with
  | ok a S' => rw [e] at h; exact h
  | exc c n x S' => rw [e] at h; exact h.elim
  | stuck => rw [e] at h; exact h.elim
theorem rif_nil : RefIf c Γ [] (pure true) := fun B S σ H os Q st h => ⟨tYes, fun X hX => pts_nil, h H (.refl st.co)⟩
theorem rif_one {m : M Bool} (h : RefT c Γ e m) : RefIf c Γ [e] m := fun B S σ H os Q st ha => ⟨WT c e, fun X hX => pts_one (pt_W hX e), h B S σ H os Q st ha⟩
theorem newF (co : Co c.T B S H os) {q : Addr} (hq : H q = none) : q ∉ os ∧ frz H [] q = none := ⟨co.fresh hq, frz_none hq⟩
/-- from a new list to a datum -/
theorem re_new {m : M (List D)} (h : RefN c Γ e m) : RefE c Γ e (do let ds ← m; pure (.list ds)) := by
  intro B S σ H os Q st ha
  refine h B S σ H os Q st (acc_mono (acc_bind ha) (fun ds S1 q p vs H2 a1 hn _ hl hd => ?_) fun _ _ _ _ z => z)
  refine (show PostE c B.mA os H Q (.list ds) S1 from q) _ H2 a1 ⟨p, vs, rfl, frz_of hl (fun _ z => by cases z) hn, hd.mono (frz_sub fun b hb => List.mem_cons_of_mem _ hb)⟩
/-- a list laid at the end of an expression -/
theorem postN_new {ds : List D} {vs : List V} {Q : VK} {q : Addr} (co : Co c.T B S1 H1 os) (a1 : Aft c.T B.mA H H1 S1) (hm : ∀ b ∈ msA B.mA, b ∈ os) (hq : H1 q = none) (hd : DaAll c.K (frz H1 os) ds vs) (k : PostN c B.mA os H Q ds S1) : Q (.ref q) (upd H1 q (.lst vs)) := by
  have hn := co.fresh hq
  refine k q vs _ (a1.trans (Aft.new co hq)) hn ?_ upd_same (hd.mono (frz_more hq))
  cases e : frz H [] q with
  | none => rfl
  | some o =>
    obtain ⟨e1, e2, _⟩ := of_frz e
    rw [a1.nx _ _ e1 e2 fun z => hn (hm q z)] at hq
    cases hq
theorem rn_lst {m : M (List D)} (h : RefL c Γ es m) : RefN c Γ (.List es pos) (do let ds ← m; okLen ds) := by
  intro B S σ H os Q st ha
  refine ⟨tLst (WA c es), fun X hX => pe_lst (pa_W hX es), ?_⟩
  refine h B S σ H os _ st (acc_mono (acc_bind ha) (fun ds S1 q vs H1 a1 hd => ?_) fun _ _ _ _ z => z)
  unfold okLen at q
  split at q
  · rename_i hl
    exact ⟨by rw [hd.length]; exact few (by omega), fun q' hq => postN_new (st.step a1).co a1 st.co.mos' hq hd q⟩
  · exact q.elim
/-- an if of new lists -/
theorem rn_if {d : Expr} {ta : M Bool} {ma mb : M (List D)} (hc : RefT c Γ d ta) (ha : RefN c Γ a ma) (hb : RefN c Γ b mb) : RefN c Γ (.IfExp d a b pos) (do let k ← ta; if k = true then ma else mb) := by
  intro B S σ H os Q st hacc
  refine ⟨tIf (WT c d) (WE c a) (WE c b), fun X hX => pe_ifExp (pt_W hX d) (pe_W hX a) (pe_W hX b), ?_⟩
  refine hc B S σ H os _ st (acc_mono (acc_bind hacc) (fun k S1 q H1 a1 => ?_) fun _ _ _ _ z => z)
  have back : ∀ {m : M (List D)}, (m S1).acc (PostN c B.mA os H Q) (PostX c B.mA os H) → (m S1).acc (PostN c B.mA os H1 Q) (PostX c B.mA os H1) := fun h => acc_mono h (fun ds S2 q2 p vs H2 a2 h1 h2 h3 h4 => q2 p vs H2 (a1.trans a2) h1 (by
    cases e : frz H [] p with
    | none => rfl
    | some o =>
      obtain ⟨e1, e2, _⟩ := of_frz e
      rw [frz_nil (a1.nx _ _ e1 e2 fun z => h1 (st.co.mos' p z)) e2] at h2
      cases h2) h3 h4) fun _ _ _ _ z => z.back a1
  cases k with
  | true => exact ha B S1 σ H1 os Q (st.step a1) (back q)
  | false => exact hb B S1 σ H1 os Q (st.step a1) (back q)

/-- list(x) -/
def rListN (K : PySem.W.Frag) : List V → Hp → VK → Prop := fun xs H Q => ∃ p ys, xs = [V.ref p] ∧ (SqL K H p ys ∨ SqT K H p ys) ∧ ∀ l, H l = none → Q (.ref l) (upd H l (.lst ys))
theorem rn_list {m : M D} (h : RefE c Γ e m) (hm : c.mg ("list" : Str) = none) (hg : c.sc.names.lookup ("list" : Str) = some .globalImplicit := by rfl) (hs : NoStar e [] := by intro _; rfl) (hpl : NoStars [] := by intro _ _; rfl) :
    RefN c Γ (.Call (.Name "list" p) [e] [] pos) (do let x ← m; asSq x) := by
  intro B S σ H os Q st hacc
  refine ⟨tCB (rListN c.K) (tCons (WE c e) tNil), fun X hX => pe_callTy (T := "list") (by rw [← hX.K]; exact call_list_of (X := X)) (gl_of hX hg) (mg_none hX hm) (by decide +kernel) (pa_cons (pe_W hX e) pa_nil (hs _)) (by decide) (by decide) (hs _) (hpl _ _), ?_⟩
  refine h B S σ H os _ st (acc_mono (acc_bind hacc) (fun d S1 q v H1 a1 hd => ?_) fun _ _ _ _ z => z)
  cases d with
  | list ds =>
    obtain ⟨a, vs, rfl, h1, h2⟩ := hd
    exact ⟨a, vs, rfl, .inl (SqL.of (frz_le _ _ h1)), fun l hl => postN_new (st.step a1).co a1 st.co.mos' hl h2 q⟩
  | tuple ds =>
    obtain ⟨a, vs, rfl, h1, h2⟩ := hd
    exact ⟨a, vs, rfl, .inr (sqT_same frz_le h1), fun l hl => postN_new (st.step a1).co a1 st.co.mos' hl h2 q⟩
  | _ => exact q.elim
/-- list(range(n)) -/
theorem rn_listRg {m : M D} {p2 pos2 : Pos} (h : RefE c Γ e m) (hm : c.mg ("list" : Str) = none) (hm2 : c.mg ("range" : Str) = none) (hg : c.sc.names.lookup ("list" : Str) = some .globalImplicit := by rfl) (hg2 : c.sc.names.lookup ("range" : Str) = some .globalImplicit := by rfl) (hs : NoStar e [] := by intro _; rfl)
    (hs2 : NoStar (.Call (.Name "range" p2) [e] [] pos2) [] := by intro _; rfl) : RefN c Γ (.Call (.Name "list" p) [.Call (.Name "range" p2) [e] [] pos2] [] pos) (do let x ← m; let n ← asN x; pure (rngL 0 n.toNat)) := by
  intro B S σ H os Q st hacc
  refine ⟨tLstRg (tRg1 (WE c e)), fun X hX => pe_listRg hX.calm (gl_of hX hg) (mg_none hX hm) (prg_1 (gl_of hX hg2) (mg_none hX hm2) (pe_W hX e) (hs _)) (hs2 _), ?_⟩
  refine h B S σ H os _ st (acc_mono (acc_bind hacc) (fun d S1 q v H1 a1 hd => ?_) fun _ _ _ _ z => z)
  obtain ⟨i, rfl, q1, q2, q3⟩ := asN_acc (acc_bind q)
  cases hd
  refine ⟨i, rfl, ⟨by omega, by omega, by omega, by omega, by omega⟩, fun l hl => ?_⟩
  refine postN_new (ds := rngL 0 i.toNat) (st.step a1).co a1 st.co.mos' hl ?_ q3
  have e1 : rgV 0 i = (rngL 0 i.toNat).map fun d => match d with
    | .int k => V.int k
    | _ => V.non := by
    unfold rgV rngL
    rw [List.map_map, Int.sub_zero]
    rfl
  rw [e1]
  unfold rngL
  rw [List.map_map]
  generalize List.range i.toNat = ns
  induction ns with
  | nil => rfl
  | cons n r ih => exact ⟨_, _, rfl, rfl, ih⟩
/-- a list times an int -/
theorem rn_rep {ma mb : M D} (ha : RefE c Γ a ma) (hb : RefE c Γ b mb) : RefN c Γ (.BinOp a .Mult b pos) (do let x ← ma; let y ← mb; repL x y) := by
  intro B S σ H os Q st hacc
  refine ⟨tOp rRep (WE c a) (WE c b), fun X hX => pe_op op_rep (pe_W hX a) (pe_W hX b), ?_⟩
  refine ha B S σ H os _ st (acc_mono (acc_bind hacc) (fun d S1 q v H1 a1 hd => ?_) fun _ _ _ _ z => z)
  refine hb B S1 σ H1 os _ (st.step a1) (acc_mono (acc_bind q) (fun d2 S2 q2 v2 H2 a2 hd2 => ?_) fun _ _ _ _ z => z.back a1)
  have hd := hd.mono ((st.step a1).co.frz a2)
  match d, d2, hd, hd2, q2 with
  | .list xs, .int k, hd, hd2, q2 =>
    have q2 : ((if 0 ≤ k ∧ k ≤ 1000 ∧ xs.length ≤ 1000 then pure (List.replicate k.toNat xs).flatten else stuck : M (List D)) S2).acc (PostN c B.mA os H Q) (PostX c B.mA os H) := q2
    split at q2
    · rename_i hc
      obtain ⟨l, vs, rfl, h1, h2⟩ := hd
      cases hd2
      refine ⟨l, k, vs, rfl, rfl, frz_le _ _ h1, by omega, by omega, ?_, fun q' hq => postN_new ((st.step a1).step a2).co (a1.trans a2) st.co.mos' hq (h2.rep _) q2⟩
      rw [h2.length]
      exact few (Nat.le_trans (Nat.mul_le_mul hc.2.2 (show _ ≤ 1000 by omega)) (by decide))
    · exact q2.elim
  | .none, _, _, _, q2 => exact q2.elim
  | .bool _, _, _, _, q2 => exact q2.elim
  | .int _, _, _, _, q2 => exact q2.elim
  | .str _, _, _, _, q2 => exact q2.elim
  | .tuple _, _, _, _, q2 => exact q2.elim
  | .dict _, _, _, _, q2 => exact q2.elim
  | .list _, .none, _, _, q2 => exact q2.elim
  | .list _, .bool _, _, _, q2 => exact q2.elim
  | .list _, .str _, _, _, q2 => exact q2.elim
  | .list _, .tuple _, _, _, q2 => exact q2.elim
  | .list _, .list _, _, _, q2 => exact q2.elim
  | .list _, .dict _, _, _, q2 => exact q2.elim
/-! ### comprehensions -/
theorem compM_acc {f : D → M (Option D)} {d : D} {ds : List D} {Φ : List D → DS → Prop} {Ψ Ψ' : Str → Str → D → DS → Prop} (h : (compM f (d :: ds) S).acc Φ Ψ) : (f d S).acc (fun o S' => (compM f ds S').acc (fun r S'' => Φ (o.toList ++ r) S'') Ψ) Ψ' :=
  quiet_acc (Ψ := Ψ) (acc_mono (acc_bind (m := quiet (f d)) (k := fun o => do let r ← compM f ds; pure (o.toList ++ r)) h) (fun o S' q => acc_mono (acc_bind q) (fun _ _ z => z) fun _ _ _ _ z => z) fun _ _ _ _ z => z)
theorem St.sub (st : St c B Γ S σ H os) (d : List Addr) (Γ2 : List Sl) (σ2 : L2.St) (h1 : Γ2.length = σ2.length) (h2 : ∀ (i : Nat) s, Γ2[i]? = some s → SlOk c.K B H os σ2[i]? s) (h3 : ∀ (i j : Nat) (ds es : List D) (a : Addr), Γ2[i]? = some (.own ds) → Γ2[j]? = some (.own es) → σ2[i]? = some (some (.ref a)) → σ2[j]? = some (some (.ref a)) → i = j) : St c B Γ2 S σ2 H os := ⟨st.co, h1, h2, h3⟩
/-- a block's element: tests, then the value -/
structure ElOk (c : CP) (Γ : List Sl) (ifs : List Expr) (elt : Expr) (m : M (Option D)) : Prop where
  ex : ∃ (mt : M Bool) (me : M D), RefIf c Γ ifs mt ∧ RefE c Γ elt me ∧ m = elM mt me
/-- the reading of a comprehension -/
theorem lc_read {scope : Scope} {own : List (Str × Nat)} {tg iter elt : Expr} {ifs : List Expr} {mi : M (List D)} {f : D → M (Option D)} {ix : List Nat} {sl : D → Option (List Sl)} {tt : TT} {te : TE} {g : TG} {Q : VK}
    (hi : RefI c Γ tg iter mi) (htg : ∀ (B : Bs) (S : DS) (σ : L2.St) (H : Hp) (os : List Addr) (d : D) (x : V) (R : L2.St → Hp → Prop) (Γ' : List Sl), St (c.blk scope) B (wipeG Γ (own.map (·.2))) S σ H os → Da c.K (frz H os) d x → sl d = some Γ' →
      (∀ σ', St (c.blk scope) B Γ' S σ' H os → σ'.length = σ.length → (∀ i, i ∉ ix → σ'[i]? = σ[i]?) → R σ' H) → g x σ H R)
    (hix : ∀ i ∈ ix, i ∈ own.map (·.2)) (hst : ∀ d, sl d = none → f d = stuck)
    (hel : ∀ (d : D) (Γ' : List Sl) (B : Bs) (S : DS) (σ : L2.St) (H : Hp) (os : List Addr) (Q : Option V → Hp → Prop), sl d = some Γ' → St (c.blk scope) B Γ' S σ H os →
      (f d S).acc (fun o S' => ∀ H', Aft c.T B.mA H H' S' → match o with
        | none => Q none H'
        | some z => ∀ v, Da c.K (frz H' os) z v → Q (some v) H') (fun _ _ _ _ => False) → tt σ H fun k H3 => if k = true then te σ H3 fun y H4 => Q (some y) H4 else Q none H3)
    (st : St c B Γ S σ H os) (hacc : ((do let ds ← mi; lcM f ds) S).acc (PostN c B.mA os H Q) (PostX c B.mA os H)) : tLc (WI c tg iter) g tt te (own.map (·.2)) σ H Q := by
  refine hi B S σ H os _ st (acc_mono (acc_bind hacc) (fun ds S1 q J H1 a1 hJ D0 hD => ?_) fun _ _ _ _ z => z)
  unfold lcM at q
  split at q
  · rename_i hlen
    have st1 := st.step a1
    have hDo : D0 ∉ os := st1.co.fresh hD
    have hD0 : frz H [] D0 = none := by
      cases e : frz H [] D0 with
      | none => rfl
      | some o =>
        obtain ⟨e1, e2, _⟩ := of_frz e
        rw [a1.nx _ _ e1 e2 fun z => hDo (st.co.mos' D0 z)] at hD
        cases hD
    have hD00 : D0 ∉ B.os0 := fun z => hDo (st1.co.sub _ z)
    have hno : NoOwn Γ σ D0 := st1.noOwn hDo
    refine ⟨fun i m H2 => m = ds.length - i ∧ i ≤ ds.length ∧ ∃ es S2 acc, St c B Γ S2 σ H2 (D0 :: os) ∧ Aft c.T B.mA H1 H2 S2 ∧ H2 D0 = some (.lst acc) ∧ DaAll c.K (frz H2 (D0 :: os)) es acc ∧ es.length ≤ i ∧ Same (frz H1 os) (frz H2 (D0 :: os)) ∧
      (compM f (ds.drop i) S2).acc (fun r S' => PostN c B.mA os H Q (es ++ r) S') (PostX c B.mA os H), ⟨_, rfl, Nat.zero_le _, [], S1, [], st1.new hD, .new st1.co hD, upd_same, rfl, Nat.le_refl _, frz_more hD, ?_⟩, ?_⟩
    · simpa using q
    rintro i m H2 ⟨rfl, hile, es, S2, acc, st2, a2, hacc2, hes, hel2, sm, q2⟩
    by_cases hlt : i < ds.length
    · refine .inr ⟨hJ.go i H2 (D0 :: os) hlt sm, fun H' => ∃ es S2 acc, St c B Γ S2 σ H' (D0 :: os) ∧ Aft c.T B.mA H1 H' S2 ∧ H' D0 = some (.lst acc) ∧ DaAll c.K (frz H' (D0 :: os)) es acc ∧ es.length ≤ i + 1 ∧ Same (frz H1 os) (frz H' (D0 :: os)) ∧
        (compM f (ds.drop (i + 1)) S2).acc (fun r S' => PostN c B.mA os H Q (es ++ r) S') (PostX c B.mA os H), fun H' p' => ⟨ds.length - (i + 1), by omega, rfl, hlt, p'⟩, fun x H3 y => ?_⟩
      obtain ⟨a3, d, hd1, hd2⟩ := hJ.yld i H2 x H3 S2 (D0 :: os) sm st2.co y hlt
      have st3 := st2.step a3
      have sm3 : Same (frz H1 os) (frz H3 (D0 :: os)) := fun b o e => st2.co.frz a3 b o (sm b o e)
      have hdrop : ds.drop i = d :: ds.drop (i + 1) := by
        rw [List.drop_eq_getElem_cons hlt]
        rw [List.getElem?_eq_getElem hlt] at hd1
        rw [Option.some.inj hd1]
      rw [hdrop] at q2
      have hDm : D0 ∉ msA B.mA := fun z => hDo (st.co.mos' D0 z)
      have hD3 : H3 D0 = some (.lst acc) := a3.nx _ _ hacc2 (fun _ z => by cases z) hDm
      have hes3 := hes.mono (st2.co.frz a3)
      cases hsl : sl d with
      | none =>
        have z := compM_acc (Ψ' := fun _ _ _ _ => False) q2
        rw [hst d hsl] at z
        exact z.elim
      | some Γ' =>
        refine htg B S2 (wipe σ (own.map (·.2))) H3 (D0 :: os) d x _ Γ' (st3.wipe _) hd2 hsl ?_
        intro σ' st4 hσl hσ
        refine ⟨?_, ?_⟩
        · exact (wipe_eq (by rw [hσl, wipe_length]) fun j hj => by rw [hσ j fun z => hj (hix j z), wipe_get, if_neg hj])
        · refine hel d Γ' B S2 σ' H3 (D0 :: os) (fun o H4 => match o with
            | some y => ∃ acc, H4 D0 = some (.lst acc) ∧ acc.length < sizeLine ∧ ∃ es S2 acc', St c B Γ S2 σ (upd H4 D0 (.lst (acc ++ [y]))) (D0 :: os) ∧ Aft c.T B.mA H1 (upd H4 D0 (.lst (acc ++ [y]))) S2 ∧ upd H4 D0 (.lst (acc ++ [y])) D0 = some (.lst acc') ∧
                DaAll c.K (frz (upd H4 D0 (.lst (acc ++ [y]))) (D0 :: os)) es acc' ∧ es.length ≤ i + 1 ∧ Same (frz H1 os) (frz (upd H4 D0 (.lst (acc ++ [y]))) (D0 :: os)) ∧ (compM f (ds.drop (i + 1)) S2).acc (fun r S' => PostN c B.mA os H Q (es ++ r) S') (PostX c B.mA os H)
            | none => ∃ es S2 acc', St c B Γ S2 σ H4 (D0 :: os) ∧ Aft c.T B.mA H1 H4 S2 ∧ H4 D0 = some (.lst acc') ∧ DaAll c.K (frz H4 (D0 :: os)) es acc' ∧ es.length ≤ i + 1 ∧ Same (frz H1 os) (frz H4 (D0 :: os)) ∧ (compM f (ds.drop (i + 1)) S2).acc (fun r S' => PostN c B.mA os H Q (es ++ r) S') (PostX c B.mA os H))
            hsl st4 (acc_mono (compM_acc q2) (fun o S4 q4 H4 a4 => ?_) fun _ _ _ _ z => z)
          have st5 := st3.step a4
          have a5 := (a2.trans a3).trans a4
          have hD4 : H4 D0 = some (.lst acc) := a4.nx _ _ hD3 (fun _ z => by cases z) hDm
          have hes4 := hes3.mono (st3.co.frz a4)
          have sm4 : Same (frz H1 os) (frz H4 (D0 :: os)) := fun b o e => st3.co.frz a4 b o (sm3 b o e)
          cases o with
          | none => exact ⟨es, S4, acc, st5, a5, hD4, hes4, by omega, sm4, by simpa using q4⟩
          | some z =>
            intro v hz
            have st6 := st5.bump (ys := acc ++ [v]) hD4 (List.mem_cons_self) hD00 hno
            have el : acc.length = es.length := hes4.length
            refine ⟨acc, hD4, by have := few (n := 1000) (by omega); rw [sizeLine_eq]; omega, es ++ [z], S4, acc ++ [v], st6, ⟨fun b o e n m => ?_, st6.co.mst, st6.co.tab⟩, upd_same, ?_, by rw [List.length_append, List.length_singleton]; omega, ?_, ?_⟩
            · have hb : b ≠ D0 := ne_of_none e hD
              rw [upd_ne hb]
              exact a5.nx b o e n m
            · rw [frz_upd_own List.mem_cons_self]
              exact hes4.append (.one hz)
            · rw [frz_upd_own List.mem_cons_self]
              exact sm4
            · simpa [List.append_assoc] using q4
    · have e : i = ds.length := by omega
      subst e
      refine .inl ⟨hJ.stop H2 (D0 :: os) sm, ?_⟩
      rw [List.drop_length] at q2
      have q3 : PostN c B.mA os H Q (es ++ []) S2 := q2
      rw [List.append_nil] at q3
      exact q3 D0 acc H2 (a1.trans a2) hDo hD0 hacc2 hes
  · exact q.elim

def WIf (c : CP) (ifs : List Expr) : TT := fun σ H Q => ∃ t, (∀ X, c.Has X → PTs X ifs t) ∧ t σ H Q
theorem pts_W {X : Cx} (hX : c.Has X) (ifs : List Expr) : PTs X ifs (WIf c ifs) := ⟨fun pins s σ H Q I ⟨t, ht, h⟩ => (ht X hX).run pins s σ H Q I h⟩
theorem el_read {ifs : List Expr} {elt : Expr} {mt : M Bool} {me : M D} (ht : RefIf c Γ ifs mt) (he : RefE c Γ elt me) (hW : c.W = fun _ _ _ => False) {Q : Option V → Hp → Prop} (st : St c B Γ S σ H os)
    (hacc : (elM mt me S).acc (fun o S' => ∀ H', Aft c.T B.mA H H' S' → match o with
        | none => Q none H'
        | some z => ∀ v, Da c.K (frz H' os) z v → Q (some v) H') (fun _ _ _ _ => False)) : WIf c ifs σ H fun k H3 => if k = true then WE c elt σ H3 fun y H4 => Q (some y) H4 else Q none H3 := by
  refine ht B S σ H os _ st (acc_mono (acc_bind hacc) (fun k S1 q H1 a1 => ?_) fun _ _ _ _ z => z.elim)
  cases k with
  | true =>
    refine he B S1 σ H1 os _ (st.step a1) (acc_mono (acc_bind (k := fun x => pure (some x)) q) (fun d S2 q2 v H2 a2 hd => ?_) fun _ _ _ _ z => z.elim)
    exact (show ∀ H', Aft c.T B.mA H H' S2 → ∀ v, Da c.K (frz H' os) d v → Q (some v) H' from q2) H2 (a1.trans a2) v hd
  | false => exact (show ∀ H', Aft c.T B.mA H H' S1 → Q none H' from q) H1 a1
def FoldsNot (e : Expr) : Prop := ∀ env x, foldedSetIterable e env x = pure x
/-- what a comprehension needs -/
structure LcOk (c : CP) (Γ : List Sl) (tg iter elt : Expr) (ifs : List Expr) (scope : Scope) (own : List (Str × Nat)) (mi : M (List D)) (f : D → M (Option D)) : Prop where
  hi : RefI c Γ tg iter mi
  ok : BlkOk c.N c.sc scope own
  fs : FoldsNot iter
  ex : ∃ (ix : List Nat) (sl : List Sl → D → Option (List Sl)), TgOk (c.blk scope) tg ix sl ∧ (∀ i ∈ ix, i ∈ own.map (·.2)) ∧ (∀ d, sl (wipeG Γ (own.map (·.2))) d = none → f d = stuck) ∧
    ∀ d Γ', sl (wipeG Γ (own.map (·.2))) d = some Γ' → ∃ mt me, RefIf (c.blk scope) Γ' ifs mt ∧ RefE (c.blk scope) Γ' elt me ∧ f d = elM mt me
section
variable {tg iter elt : Expr} {ifs : List Expr} {scope : Scope} {own : List (Str × Nat)} {mi : M (List D)} {f : D → M (Option D)}
/-- the pieces and the reading -/
theorem LcOk.go (L : LcOk c Γ tg iter elt ifs scope own mi f) : ∃ g : TG, (∀ X, (c.blk scope).Has X → PG X tg g) ∧ ∀ (B : Bs) (S : DS) (σ : L2.St) (H : Hp) (os : List Addr) (Q : VK), St c B Γ S σ H os →
    ((do let ds ← mi; lcM f ds) S).acc (PostN c B.mA os H Q) (PostX c B.mA os H) → tLc (WI c tg iter) g (WIf (c.blk scope) ifs) (WE (c.blk scope) elt) (own.map (·.2)) σ H Q := by
  obtain ⟨ix, sl, ⟨g, hg, htg⟩, hix, hst, hel⟩ := L.ex
  refine ⟨g, hg, fun B S σ H os Q st hacc => lc_read (ifs := ifs) (elt := elt) (sl := sl (wipeG Γ (own.map (·.2)))) L.hi (fun B S σ H os d x R Γ' h1 h2 h3 h4 => htg B _ S σ H os d x R Γ' h1 h2 h3 h4) hix hst (fun d Γ' B S σ H os Q hs st ha => ?_) st hacc⟩
  obtain ⟨mt, me, h1, h2, e⟩ := hel d Γ' hs
  rw [e] at ha
  exact el_read h1 h2 rfl st ha
theorem LcOk.parts (L : LcOk c Γ tg iter elt ifs scope own mi f) {g : TG} (hg : ∀ X, (c.blk scope).Has X → PG X tg g) {X : Cx} (hX : c.Has X) : PI X tg iter (WI c tg iter) ∧ BlkOk X.N X.env.scope scope own ∧
    (∀ (s : Shared) (H : Hp) (C : Addr) (cl : List (Str × Addr)) (fp : List Addr), PG (X.blk s H scope (compEnvC scope cl C X.env) fp) tg g) ∧ (∀ (s : Shared) (H : Hp) (C : Addr) (cl : List (Str × Addr)) (fp : List Addr), PTs (X.blk s H scope (compEnvC scope cl C X.env) fp) ifs (WIf (c.blk scope) ifs)) ∧
    ∀ (s : Shared) (H : Hp) (C : Addr) (cl : List (Str × Addr)) (fp : List Addr), PE (X.blk s H scope (compEnvC scope cl C X.env) fp) elt (WE (c.blk scope) elt) :=
  ⟨pi_W hX tg iter, by rw [hX.N, hX.sc]; exact L.ok, fun s H C cl fp => hg _ (has_blk hX s H cl C fp), fun s H C cl fp => pts_W (has_blk hX s H cl C fp) ifs, fun s H C cl fp => pe_W (has_blk hX s H cl C fp) elt⟩
theorem rn_lc (L : LcOk c Γ tg iter elt ifs scope own mi f) : RefN c Γ (.ListComp elt [⟨tg, iter, ifs, 0⟩] scope pos) (do let ds ← mi; lcM f ds) := by
  intro B S σ H os Q st hacc
  obtain ⟨g, hg, hr⟩ := L.go
  refine ⟨_, fun X hX => ?_, hr B S σ H os Q st hacc⟩
  obtain ⟨h1, h2, h3, h4, h5⟩ := L.parts hg hX
  exact pe_lc hX.calm hX.nd h1 h2 h3 h4 h5 (L.fs _)
theorem lc_one {tt : D → M Bool} {me : D → M D} {px : Pos} (i : Nat) (hi : RefI c Γ (.Name x px) iter mi) (hel : ∀ d, RefIf (c.blk scope) ((wipeG Γ (own.map (·.2))).set i (.dat d)) ifs (tt d) ∧ RefE (c.blk scope) ((wipeG Γ (own.map (·.2))).set i (.dat d)) elt (me d))
    (hb : blkC c.N c.sc scope own = true := by kernel_rfl) (ho : i ∈ own.map (·.2) := by decide) (hx : c.N[i]? = some x := by rfl) (hs : CanSet (c.blk scope) x := by first | exact ⟨.inl rfl, .inr rfl⟩ | exact ⟨.inr rfl, .inl rfl⟩) (fs : FoldsNot iter := by intro _ _; rfl) :
    LcOk c Γ (.Name x px) iter elt ifs scope own mi (fun d => elM (tt d) (me d)) := by
  refine ⟨hi, blkOk_by hb, fs, [i], _, tg_name (c := c.blk scope) i hx hs, fun j hj => (by rw [List.mem_singleton.mp hj]; exact ho), fun d h => (by cases h), fun d Γ' h => ?_⟩
  cases h
  exact ⟨_, _, (hel d).1, (hel d).2, rfl⟩
theorem lc_two {tt : D → D → M Bool} {me : D → D → M D} {y : Str} {px py pt : Pos} {k : Nat} (i j : Nat) (hi : RefI c Γ (.Tuple [.Name x px, .Name y py] k pt) iter mi)
    (hel : ∀ d e, RefIf (c.blk scope) (((wipeG Γ (own.map (·.2))).set i (.dat d)).set j (.dat e)) ifs (tt d e) ∧ RefE (c.blk scope) (((wipeG Γ (own.map (·.2))).set i (.dat d)).set j (.dat e)) elt (me d e))
    (hb : blkC c.N c.sc scope own = true := by kernel_rfl) (ho : i ∈ own.map (·.2) := by decide) (ho' : j ∈ own.map (·.2) := by decide) (hx : c.N[i]? = some x := by rfl) (hy : c.N[j]? = some y := by rfl)
    (hs : CanSet (c.blk scope) x := by first | exact ⟨.inl rfl, .inr rfl⟩ | exact ⟨.inr rfl, .inl rfl⟩) (hs' : CanSet (c.blk scope) y := by first | exact ⟨.inl rfl, .inr rfl⟩ | exact ⟨.inr rfl, .inl rfl⟩) (fs : FoldsNot iter := by intro _ _; rfl) :
    LcOk c Γ (.Tuple [.Name x px, .Name y py] k pt) iter elt ifs scope own mi (two fun d e => elM (tt d e) (me d e)) := by
  refine ⟨hi, blkOk_by hb, fs, [i, j], _, tg_two (c := c.blk scope) i j hx hy hs hs', fun l hl => ?_, fun d h => ?_, fun d Γ' h => ?_⟩
  · simp only [List.mem_cons, List.not_mem_nil, or_false] at hl
    rcases hl with e | e
    · rw [e]; exact ho
    · rw [e]; exact ho'
  · unfold sl2 at h
    split at h
    · cases h
    · rename_i hn
      show two _ d = stuck
      unfold two
      split
      · rename_i a b
        exact absurd rfl (hn a b)
      · rfl
  · unfold sl2 at h
    split at h
    · cases h
      exact ⟨_, _, (hel _ _).1, (hel _ _).2, rfl⟩
    · cases h
end
/-! ### own lists, read -/
theorem re_ixOwn (i : Nat) {ds : List D} {mb : M D} (hb : RefE c Γ b mb) (hΓ : Γ[i]? = some (.own ds) := by rfl) (hN : c.N[i]? = some x := by rfl) (hv : Vis c.sc x := by first | exact Or.inl rfl | exact Or.inr (Or.inl rfl) | exact Or.inr (Or.inr rfl)) (hs : PlainIx b := by exact fun _ _ => rfl)
    (hd : (x == ("__debug__" : Str)) = false := by decide) (hcd : (x == ("__classdict__" : Str)) = false := by decide) : RefE c Γ (.Subscript (.Name x p) b pos) (do let y ← mb; lift (ixD (.list ds) y)) := by
  intro B S σ H os Q st hacc
  obtain ⟨a, h1, h2, h3, vs, h4, h5⟩ := st.sl i _ hΓ
  refine ⟨tOp (rIxL c.K) (tVar i) (WE c b), fun X hX => pe_ix (by rw [← hX.K]; exact ix_list) (pv i (by rw [hX.N]; exact hN) (by rw [hX.sc]; exact hv) hd hcd) (pe_W hX b) hs, _, h1, ?_⟩
  refine hb B S σ H os _ st (acc_mono (acc_bind hacc) (fun d S1 q v H1 a1 hd => ?_) fun _ _ _ _ z => z)
  obtain ⟨z, hz, q3⟩ := acc_lift q
  have hz : ixD (.list ds) d = some z := hz
  cases d with
  | int j =>
    cases hd
    obtain ⟨u, hu, hdu⟩ := atI_da h5 (show atI ds j = some z from hz)
    exact ⟨a, vs, j, u, rfl, rfl, SqL.of (a1.nx _ _ h4 (fun _ z => by cases z) fun z => h3 (st.co.mos a z)), hu, q3 u H1 a1 (hdu.mono (st.co.frz a1))⟩
  | _ => cases hz
/-- the frozen heap and one own list -/
def plus (G : Hp) (a : Addr) (vs : List V) : Hp := fun b => if b = a then some (.lst vs) else G b
theorem plus_le {a : Addr} {vs : List V} (h : H a = some (.lst vs)) : Same (plus (frz H os) a vs) H := fun b o e => by
  unfold plus at e
  split at e
  · rename_i hb
    rw [hb, h]
    exact e
  · exact frz_le b o e
theorem plus_da {a : Addr} {vs : List V} (ha : a ∈ os) : Same (frz H os) (plus (frz H os) a vs) := fun b o e => by
  unfold plus
  rw [if_neg fun z => (of_frz e).2.2 (by rw [z]; exact ha)]
  exact e
theorem da_own {a : Addr} {vs : List V} {ds : List D} (ha : a ∈ os) (hd : DaAll K (frz H os) ds vs) : Da K (plus (frz H os) a vs) (.list ds) (.ref a) := ⟨a, vs, rfl, by unfold plus; rw [if_pos rfl], hd.mono (plus_da ha)⟩
theorem dem_bool {G : Hp} {k : Bool} {Q : VK} (h : Q (.bl k) H) : Dem K G H (.bool k) Q := ⟨fun v hv => by cases hv; exact h, fun _ _ _ e => (by cases e), fun _ _ _ e => (by cases e)⟩
theorem dem_int {G : Hp} {k : Int} {Q : VK} (h : Q (.int k) H) : Dem K G H (.int k) Q := ⟨fun v hv => by cases hv; exact h, fun _ _ _ e => (by cases e), fun _ _ _ e => (by cases e)⟩
theorem re_lenOwn (i : Nat) {ds : List D} {p2 : Pos} (hm : c.mg ("len" : Str) = none) (hΓ : Γ[i]? = some (.own ds) := by rfl) (hN : c.N[i]? = some x := by rfl) (hv : Vis c.sc x := by first | exact Or.inl rfl | exact Or.inr (Or.inl rfl) | exact Or.inr (Or.inr rfl)) (hg : c.sc.names.lookup ("len" : Str) = some .globalImplicit := by rfl)
    (hd : (x == ("__debug__" : Str)) = false := by decide) (hcd : (x == ("__classdict__" : Str)) = false := by decide) : RefE c Γ (.Call (.Name "len" p) [.Name x p2] [] pos) (pure (.int ds.length)) := by
  intro B S σ H os Q st hacc
  obtain ⟨a, h1, h2, h3, vs, h4, h5⟩ := st.sl i _ hΓ
  refine ⟨tCB (rDC c.K lenD) (tCons (tVar i) tNil), fun X hX => pe_callB (id := "len") (by rw [← hX.K]; exact cD_len) (gl_of hX hg) (mg_none hX hm) (by decide +kernel) (pa_cons (pv i (by rw [hX.N]; exact hN) (by rw [hX.sc]; exact hv) hd hcd) pa_nil (by rfl)) (by decide) (by decide) (by rfl) (by rfl), _, h1, ?_⟩
  exact ⟨plus (frz H os) a vs, [.list ds], .int ds.length, plus_le h4, ⟨_, [], rfl, da_own h2 h5, rfl⟩, rfl, dem_int ((show PostE c B.mA os H Q (.int ds.length) S from hacc) _ H (.refl st.co) rfl)⟩
/-- an own list beside []: its emptiness -/
theorem rt_ownNe (i : Nat) {ds : List D} {p2 p3 : Pos} (hΓ : Γ[i]? = some (.own ds) := by rfl) (hN : c.N[i]? = some x := by rfl) (hv : Vis c.sc x := by first | exact Or.inl rfl | exact Or.inr (Or.inl rfl) | exact Or.inr (Or.inr rfl))
    (hd : (x == ("__debug__" : Str)) = false := by decide) (hcd : (x == ("__classdict__" : Str)) = false := by decide) : RefT c Γ (.Compare (.Name x p2) [.NotEq] [.List [] p3] pos) (do let z ← lift (neD' (.list ds) (.list [])); asB z) := by
  intro B S σ H os Q st hacc
  obtain ⟨a, h1, h2, h3, vs, h4, h5⟩ := st.sl i _ hΓ
  obtain ⟨zz, hzz, hacc⟩ := acc_lift (acc_bind hacc)
  have hpl : ((PyData.list ds).plain = true ∧ (PyData.list []).plain = true ∧ (PyData.list ds).depth ≤ 60 ∧ (PyData.list []).depth ≤ 60) ∧ zz = .bool (!PyData.eqv (.list ds) (.list [])) := by
    unfold neD' at hzz
    split at hzz
    · rename_i hc; cases hzz; exact ⟨hc, rfl⟩
    · cases hzz
  obtain ⟨hpl, rfl⟩ := hpl
  refine ⟨tTest (tOp (rD c.K neD') (tVar i) (tLst tNil)), fun X hX => pt_cmpR (by rw [← hX.K]; exact opD_ne hX.room.units) (pv i (by rw [hX.N]; exact hN) (by rw [hX.sc]; exact hv) hd hcd) (pe_lst pa_nil) (by first | rfl | exact nomark _), _, h1, Nat.zero_le _, fun q hq => ?_⟩
  have a1 := Aft.new (o := .lst []) st.co hq
  have h4' : (upd H q (.lst [])) a = some (.lst vs) := by rw [upd_ne fun z => st.co.fresh hq (by rw [← z]; exact h2)]; exact h4
  refine ⟨plus (frz (upd H q (.lst [])) os) a vs, .list ds, .list [], .bool (!PyData.eqv (.list ds) (.list [])), plus_le h4', da_own h2 (h5.mono (st.co.frz a1)), ⟨q, [], rfl, ?_, rfl⟩, ?_, dem_bool ⟨_, rfl, (show ∀ H', Aft c.T B.mA H H' S → Q _ H' from hacc) _ a1⟩⟩
  · exact plus_da h2 _ _ (frz_upd_new hq (st.co.fresh hq) fun _ z => by cases z)
  · unfold neD'
    rw [if_pos hpl]
end
end DL
/-! # DL, eleventh part: statements. -/
namespace DL
open PySem PySem.Spec L2
/-- the statement st, over Γ, is m; behind it the slots are Γs of what m gives -/
def RefS (c : CP) (Γ : List Sl) (st : Stmt) {α : Type} (m : M α) (Γs : α → List Sl) : Prop := ∀ (B : Bs) (S : DS) (σ : L2.St) (H : Hp) (os : List Addr) (D : Ends), St c B Γ S σ H os →
  (m S).acc (fun a S' => ∀ σ' H' os', St c B (Γs a) S' σ' H' os' → Same (frz H os) (frz H' os') → D.nx σ' H') (PostX c B.mA os H) → WS c st D σ H
/-- statements to the end of the def; Kt: what may go on where they end -/
def RefB (c : CP) (Γ : List Sl) (sts : List Stmt) (Kt : List Sl → M D → Prop) (m : M D) : Prop := ∀ (B : Bs) (S : DS) (σ : L2.St) (H : Hp) (os : List Addr) (D : Ends) (Φ : PyData → DS → Prop) (Ψ : Str → Str → PyData → DS → Prop), St c B Γ S σ H os → (m S).acc Φ Ψ →
  (∀ d S' v H', Φ d S' → Aft c.T B.mA B.H0 H' S' → Da c.K (frz H' B.os0) d v → D.rt v H') →
  (∀ cn n x S' C dd vx H', Ψ cn n x S' → c.mg cn = some (.ref C) → Aft c.T B.mA B.H0 H' S' → H' dd = some (.xd [(n, vx)]) → Da c.K (frz H' B.os0) x vx → c.W (.ref C) (some dd) H') →
  (∀ Γ' m' S' σ' H' os', Kt Γ' m' → St c B Γ' S' σ' H' os' → Same (frz H os) (frz H' os') → (m' S').acc Φ Ψ → D.nx σ' H') → WSs c sts D σ H
section
variable {c : CP} {B : Bs} {Γ Γ' : List Sl} {S S' S1 S2 : DS} {σ : L2.St} {H H' H1 H2 : Hp} {os : List Addr} {mA : MA} {e a b : Expr} {es : List Expr} {pos p : Pos} {x y : Str} {K : PySem.W.Frag} {X : Cx} {sts rest : List Stmt} {Kt : List Sl → M D → Prop}
theorem strans {H H1 H2 : Hp} (a : Same H H1) (b : Same H1 H2) : Same H H2 := fun p o e => b p o (a p o e)
/-- from the whole def's wish to a statement's -/
theorem postX_of {Ψ : Str → Str → D → DS → Prop} (h : ∀ cn n x S' C dd vx H', Ψ cn n x S' → c.mg cn = some (.ref C) → Aft c.T B.mA B.H0 H' S' → H' dd = some (.xd [(n, vx)]) → Da c.K (frz H' B.os0) x vx → c.W (.ref C) (some dd) H') (co : Co c.T B S H os) :
    ∀ cn n x S', Ψ cn n x S' → PostX c B.mA os H cn n x S' := fun cn n x S' z C dd vx H' h1 h2 h3 h4 => h cn n x S' C dd vx H' z h1 ⟨co.nx.trans h2.nx, h2.mst, h2.tab⟩ h3 (h4.mono (frz_sub co.sub))
theorem rb_nil {m : M D} (h : Kt Γ m) : RefB c Γ [] Kt m := fun B S σ H os D Φ Ψ st ha hr hx hn => ⟨tNext, fun X hX => pss_nil, hn Γ m S σ H os h st (fun _ _ z => z) ha⟩
theorem rb_cons {α : Type} {st : Stmt} {m : M α} {k : α → M D} {Γs : α → List Sl} (h : RefS c Γ st m Γs) (hk : ∀ a, RefB c (Γs a) rest Kt (k a)) : RefB c Γ (st :: rest) Kt (do let a ← m; k a) := by
  intro B S σ H os D Φ Ψ st' ha hr hx hn
  refine ⟨tSeq (WS c st) (WSs c rest), fun X hX => pss_cons (ps_W hX st) (pss_W hX rest), ?_⟩
  refine h B S σ H os { D with nx := WSs c rest D } st' (acc_mono (acc_bind ha) (fun a S1 q σ1 H1 os1 st1 sm => ?_) (postX_of hx st'.co))
  exact hk a B S1 σ1 H1 os1 D Φ Ψ st1 q hr hx fun Γ' m' S' σ' H' os' h1 h2 h3 h4 => hn Γ' m' S' σ' H' os' h1 h2 (strans sm h3) h4
/-! ### names -/
theorem rs_set (i : Nat) {m : M D} {p2 : Pos} (h : RefE c Γ e m) (hi : c.N[i]? = some x := by rfl) (hs : CanSet c x := by first | exact ⟨.inl rfl, .inl rfl⟩ | exact ⟨.inl rfl, .inr rfl⟩ | exact ⟨.inr rfl, .inl rfl⟩)
    (hw : ∀ X, c.Has X → swapsWith e (some (.Name x p2)) pos.line X.env = pure false := by intro _ _; rfl) : RefS c Γ (.Assign [.Name x p2] e pos) m (fun d => Γ.set i (.dat d)) := by
  intro B S σ H os D st ha
  refine ⟨tAsg (WE c e) (gName i), fun X hX => ps_set hX.nd (by rw [hX.N]; exact hi) (by rw [hX.sc]; exact hs.1) (pe_W hX e) (hw X hX) (hs.2.imp (hX.fn x) fun z => by rw [hX.sc]; exact z), ?_⟩
  exact h B S σ H os _ st (acc_mono ha (fun d S1 q v H1 a1 hd => q _ H1 os ((st.step a1).setd hd) (st.co.frz a1)) fun _ _ _ _ z => z)
/-- behind a new list at p -/
theorem frz_newP {p : Addr} (st : St c B Γ S σ H os) (a : Aft c.T B.mA H H1 S1) (hf : frz H [] p = none) : Same (frz H os) (frz H1 (p :: os)) := fun b o e => by
  obtain ⟨e1, e2, e3⟩ := of_frz (st.co.frz a b o e)
  refine frz_of e1 e2 fun z => ?_
  rcases List.mem_cons.mp z with z | z
  · obtain ⟨q1, q2, _⟩ := of_frz e
    rw [z] at q1
    rw [frz_nil q1 q2] at hf
    cases hf
  · exact e3 z
theorem St.stepN (st : St c B Γ S σ H os) (a : Aft c.T B.mA H H1 S1) {p : Addr} {vs : List V} (hn : p ∉ os) (hf : frz H [] p = none) (hl : H1 p = some (.lst vs)) : St c B Γ S1 σ H1 (p :: os) := by
  have st1 := st.step a
  refine ⟨st1.co.more hl hn (st.co.mine0 hf fun z => hn (st.co.mos' p z)), st.len, fun i s e => ?_, st.nd⟩
  have q := st.sl i s e
  cases s with
  | un => trivial
  | drw => exact q
  | mem b => exact q
  | giv ns => obtain ⟨b, q1, q2⟩ := q; exact ⟨b, q1, sqL_same (frz_newP st a hf) q2⟩
  | dat d =>
    obtain ⟨v, q1, q2⟩ := q
    exact ⟨v, q1, q2.mono (frz_newP st a hf)⟩
  | own ds =>
    obtain ⟨l, q1, q2, q3, vs, q4, q5⟩ := q
    exact ⟨l, q1, List.mem_cons_of_mem _ q2, q3, vs, a.nx _ _ q4 (fun _ z => by cases z) fun z => q3 (st.co.mos l z), q5.mono (frz_newP st a hf)⟩
/-- a name gets an own list -/
theorem St.seto (st : St c B Γ S σ H os) {i : Nat} {p : Addr} {vs : List V} {ds : List D} (hp : p ∈ os) (h0 : p ∉ B.os0) (hl : H p = some (.lst vs)) (hd : DaAll c.K (frz H os) ds vs) (hno : NoOwn Γ σ p) : St c B (Γ.set i (.own ds)) S (σ.set i (some (.ref p))) H os := by
  refine ⟨st.co, by rw [List.length_set, List.length_set]; exact st.len, fun j s e => ?_, fun j k ds' es a e1 e2 e3 e4 => ?_⟩
  · rw [List.getElem?_set] at e ⊢
    by_cases q : i = j
    · subst q
      rw [if_pos rfl] at e ⊢
      split at e
      · rename_i hl'
        cases e
        rw [if_pos (by rw [← st.len]; exact hl')]
        exact ⟨p, rfl, hp, h0, vs, hl, hd⟩
      · cases e
    · rw [if_neg q] at e ⊢
      exact st.sl j s e
  · rw [List.getElem?_set] at e1 e2 e3 e4
    by_cases q : i = j
    · by_cases q2 : i = k
      · rw [← q, ← q2]
      · rw [if_pos q] at e1 e3
        rw [if_neg q2] at e2 e4
        split at e3
        · cases e3
          exact absurd e4 (hno k es e2)
        · cases e3
    · rw [if_neg q] at e1 e3
      by_cases q2 : i = k
      · rw [if_pos q2] at e2 e4
        split at e4
        · cases e4
          exact absurd e3 (hno j ds' e1)
        · cases e4
      · rw [if_neg q2] at e2 e4
        exact st.nd j k ds' es a e1 e2 e3 e4
theorem St.setN (st : St c B Γ S σ H os) (a : Aft c.T B.mA H H1 S1) {i : Nat} {p : Addr} {vs : List V} {ds : List D} (hn : p ∉ os) (hf : frz H [] p = none) (hl : H1 p = some (.lst vs)) (hd : DaAll c.K (frz H1 (p :: os)) ds vs) :
    St c B (Γ.set i (.own ds)) S1 (σ.set i (some (.ref p))) H1 (p :: os) := (st.stepN a hn hf hl).seto List.mem_cons_self (fun z => hn (st.co.sub _ z)) hl hd (st.noOwn hn)
theorem rs_setN (i : Nat) {m : M (List D)} {p2 : Pos} (h : RefN c Γ e m) (hi : c.N[i]? = some x := by rfl) (hs : CanSet c x := by first | exact ⟨.inl rfl, .inl rfl⟩ | exact ⟨.inl rfl, .inr rfl⟩ | exact ⟨.inr rfl, .inl rfl⟩)
    (hw : ∀ X, c.Has X → swapsWith e (some (.Name x p2)) pos.line X.env = pure false := by intro _ _; rfl) : RefS c Γ (.Assign [.Name x p2] e pos) m (fun ds => Γ.set i (.own ds)) := by
  intro B S σ H os D st ha
  refine ⟨tAsg (WE c e) (gName i), fun X hX => ps_set hX.nd (by rw [hX.N]; exact hi) (by rw [hX.sc]; exact hs.1) (pe_W hX e) (hw X hX) (hs.2.imp (hX.fn x) fun z => by rw [hX.sc]; exact z), ?_⟩
  exact h B S σ H os _ st (acc_mono ha (fun ds S1 q p vs H1 a1 hn hf hl hd => q _ H1 (p :: os) (st.setN a1 hn hf hl hd) (frz_newP st a1 hf)) fun _ _ _ _ z => z)
/-- x = [..] on one line -/
theorem lc_set {tg iter elt : Expr} {ifs : List Expr} {scope : Scope} {own : List (Str × Nat)} {mi : M (List D)} {f : D → M (Option D)} {py pos' : Pos} (i : Nat) (L : LcOk c Γ tg iter elt ifs scope own mi f) (st : St c B Γ S σ H os) {D : Ends}
    (hi : c.N[i]? = some y) (hl : c.sc.names.lookup y = some .local) (hk : c.sc.kind = .function) (hln : (py.line == pos'.line) = true) (ha : (scope.names.any fun (n, k) => n == y && (k == .local || k == .cell)) = false)
    (h : ((do let ds ← mi; lcM f ds) S).acc (PostN c B.mA os H fun v H' => D.nx (σ.set i (some v)) H') (PostX c B.mA os H)) : WS c (.Assign [.Name y py] (.ListComp elt [⟨tg, iter, ifs, 0⟩] scope pos') pos) D σ H := by
  obtain ⟨g, hg, hr⟩ := L.go
  refine ⟨tAsg (tLc (WI c tg iter) g (WIf (c.blk scope) ifs) (WE (c.blk scope) elt) (own.map Prod.snd)) (gName i), fun X hX => ?_, hr B S σ H os _ st h⟩
  obtain ⟨h1, h2, h3, h4, h5⟩ := L.parts hg hX
  exact ps_setLc hX.calm hX.nd (by rw [hX.N]; exact hi) (by rw [hX.sc]; exact hl) (sw_true (by rw [hX.sc]; exact hk) (by rw [hX.sc]; exact hl) hln ha) h1 h2 h3 h4 h5 (L.fs _)
section
variable {tg iter elt : Expr} {ifs : List Expr} {scope : Scope} {own : List (Str × Nat)} {mi : M (List D)} {f : D → M (Option D)} {py pos' : Pos}
theorem rs_setLc (i : Nat) (L : LcOk c Γ tg iter elt ifs scope own mi f) (hi : c.N[i]? = some y := by rfl) (hl : c.sc.names.lookup y = some .local := by rfl) (hk : c.sc.kind = .function := by rfl) (hln : (py.line == pos'.line) = true := by rfl)
    (ha : (scope.names.any fun (n, k) => n == y && (k == .local || k == .cell)) = false := by rfl) : RefS c Γ (.Assign [.Name y py] (.ListComp elt [⟨tg, iter, ifs, 0⟩] scope pos') pos) (do let ds ← mi; lcM f ds) (fun ds => Γ.set i (.dat (.list ds))) := by
  intro B S σ H os D st h
  refine lc_set i L st hi hl hk hln ha (acc_mono h (fun ds S1 q p vs H1 a1 hn hf hp hd => ?_) fun _ _ _ _ z => z)
  exact q _ H1 os ((st.step a1).setd ⟨p, vs, rfl, frz_of hp (fun _ z => by cases z) hn, hd.mono (frz_sub fun b hb => List.mem_cons_of_mem _ hb)⟩) (st.co.frz a1)
theorem rs_setLcO (i : Nat) (L : LcOk c Γ tg iter elt ifs scope own mi f) (hi : c.N[i]? = some y := by rfl) (hl : c.sc.names.lookup y = some .local := by rfl) (hk : c.sc.kind = .function := by rfl) (hln : (py.line == pos'.line) = true := by rfl)
    (ha : (scope.names.any fun (n, k) => n == y && (k == .local || k == .cell)) = false := by rfl) : RefS c Γ (.Assign [.Name y py] (.ListComp elt [⟨tg, iter, ifs, 0⟩] scope pos') pos) (do let ds ← mi; lcM f ds) (fun ds => Γ.set i (.own ds)) := by
  intro B S σ H os D st h
  refine lc_set i L st hi hl hk hln ha (acc_mono h (fun ds S1 q p vs H1 a1 hn hf hp hd => ?_) fun _ _ _ _ z => z)
  exact q _ H1 (p :: os) (st.setN a1 hn hf hp hd) (frz_newP st a1 hf)
end
/-! ### two names at once -/
def SwapTo (c : CP) (tg e : Expr) (o : Option (List Str)) : Prop := ∀ env : Env, env.scope = c.sc → swappedStores [tg] e env = pure o
theorem rs_par (i j : Nat) {ma mb : M D} {p1 p2 p3 : Pos} {k1 k2 p4} (ha : RefE c Γ a ma) (hb : RefE c Γ b mb) (hij : i ≠ j := by decide) (hi : c.N[i]? = some x := by rfl) (hj : c.N[j]? = some y := by rfl) (hx : c.sc.names.lookup x = some .local := by rfl) (hy : c.sc.names.lookup y = some .local := by rfl)
    (hw : SwapTo c (.Tuple [.Name x p1, .Name y p2] k1 p3) (.Tuple [a, b] k2 p4) (some [x, y]) := by intro env h; cases env; cases h; rfl) (hs : NoStar a [b] := by intro _; rfl) (hs2 : NoStar b [] := by intro _; rfl) :
    RefS c Γ (.Assign [.Tuple [.Name x p1, .Name y p2] k1 p3] (.Tuple [a, b] k2 p4) pos) (do let u ← ma; let v ← mb; pure (u, v)) (fun q => (Γ.set i (.dat q.1)).set j (.dat q.2)) := by
  intro B S σ H os D st hacc
  refine ⟨tPar i j (tCons (WE c a) (tCons (WE c b) tNil)), fun X hX => ps_par hX.calm hX.nd (by rw [hX.N]; exact hi) (by rw [hX.N]; exact hj) hij (by rw [hX.sc]; exact hx) (by rw [hX.sc]; exact hy) (pa_cons (pe_W hX a) (pa_cons (pe_W hX b) pa_nil (hs2 _)) (hs _)) (hw _ hX.sc), ?_⟩
  refine ha B S σ H os _ st (acc_mono (acc_bind hacc) (fun d S1 q v H1 a1 hd => ?_) fun _ _ _ _ z => z)
  refine hb B S1 σ H1 os _ (st.step a1) (acc_mono (acc_bind q) (fun d2 S2 q2 v2 H2 a2 hd2 => ?_) fun _ _ _ _ z => z.back a1)
  refine ⟨v, v2, rfl, (show ∀ σ' H' os', St c B ((Γ.set i (.dat d)).set j (.dat d2)) S2 σ' H' os' → Same (frz H os) (frz H' os') → D.nx σ' H' from q2) _ H2 os ((((st.step a1).step a2).setd (hd.mono ((st.step a1).co.frz a2))).setd hd2) (st.co.frz (a1.trans a2))⟩
/-- both new lists -/
theorem rs_parNN (i j : Nat) {ma mb : M (List D)} {p1 p2 p3 : Pos} {k1 k2 p4} (ha : RefN c Γ a ma) (hb : RefN c Γ b mb) (hij : i ≠ j := by decide) (hi : c.N[i]? = some x := by rfl) (hj : c.N[j]? = some y := by rfl) (hx : c.sc.names.lookup x = some .local := by rfl) (hy : c.sc.names.lookup y = some .local := by rfl)
    (hw : SwapTo c (.Tuple [.Name x p1, .Name y p2] k1 p3) (.Tuple [a, b] k2 p4) (some [x, y]) := by intro env h; cases env; cases h; rfl) (hs : NoStar a [b] := by intro _; rfl) (hs2 : NoStar b [] := by intro _; rfl) :
    RefS c Γ (.Assign [.Tuple [.Name x p1, .Name y p2] k1 p3] (.Tuple [a, b] k2 p4) pos) (do let u ← ma; let v ← mb; pure (u, v)) (fun q => (Γ.set i (.own q.1)).set j (.own q.2)) := by
  intro B S σ H os D st hacc
  refine ⟨tPar i j (tCons (WE c a) (tCons (WE c b) tNil)), fun X hX => ps_par hX.calm hX.nd (by rw [hX.N]; exact hi) (by rw [hX.N]; exact hj) hij (by rw [hX.sc]; exact hx) (by rw [hX.sc]; exact hy) (pa_cons (pe_W hX a) (pa_cons (pe_W hX b) pa_nil (hs2 _)) (hs _)) (hw _ hX.sc), ?_⟩
  refine ha B S σ H os _ st (acc_mono (acc_bind hacc) (fun ds S1 q l vs H1 a1 hn hf hl hd => ?_) fun _ _ _ _ z => z)
  have st1 := st.stepN a1 hn hf hl
  refine hb B S1 σ H1 (l :: os) _ st1 (acc_mono (acc_bind q) (fun es S2 q2 l2 us H2 a2 hn2 hf2 hl2 hd2 => ?_) fun cn n x S' z C dd vx H' h1 h2 h3 h4 => z C dd vx H' h1 (a1.trans h2) h3 (h4.mono (frz_sub fun b hb => List.mem_cons_of_mem _ hb)))
  have st2 := st1.stepN a2 hn2 hf2 hl2
  have hl' : H2 l = some (.lst vs) := a2.nx _ _ hl (fun _ z => by cases z) fun z => hn (st.co.mos' l z)
  have hne : l ≠ l2 := fun z => hn2 (by rw [← z]; exact List.mem_cons_self)
  have st3 := st2.seto (i := i) (p := l) (List.mem_cons_of_mem _ List.mem_cons_self) (fun z => hn (st.co.sub _ z)) hl' (hd.mono (frz_newP st1 a2 hf2)) (st.noOwn hn)
  have no2 : NoOwn (Γ.set i (.own ds)) (σ.set i (some (.ref l))) l2 := fun k es' e1 e2 => by
    rw [List.getElem?_set] at e1 e2
    by_cases q : i = k
    · rw [if_pos q] at e1 e2
      split at e2
      · cases e2; exact hne rfl
      · cases e2
    · rw [if_neg q] at e1 e2
      exact st1.noOwn hn2 k es' e1 e2
  have st4 := st3.seto (i := j) (p := l2) List.mem_cons_self (fun z => hn2 (st1.co.sub _ z)) hl2 hd2 no2
  exact ⟨_, _, rfl, (show ∀ σ' H' os', St c B ((Γ.set i (.own ds)).set j (.own es)) S2 σ' H' os' → Same (frz H os) (frz H' os') → D.nx σ' H' from q2) _ H2 _ st4 (strans (frz_newP st a1 hf) (frz_newP st1 a2 hf2))⟩
/-- x, y = [new], e where x is captured: over a pair -/
theorem rs_parC (i j : Nat) {ma : M (List D)} {mb : M D} {p1 p2 p3 : Pos} {k1 k2 p4} (ha : RefN c Γ a ma) (hb : RefE c Γ b mb) (hij : i ≠ j := by decide) (hi : c.N[i]? = some x := by rfl) (hj : c.N[j]? = some y := by rfl)
    (h : CanSet c x := by first | exact ⟨.inl rfl, .inl rfl⟩ | exact ⟨.inl rfl, .inr rfl⟩ | exact ⟨.inr rfl, .inl rfl⟩) (h' : CanSet c y := by first | exact ⟨.inl rfl, .inl rfl⟩ | exact ⟨.inl rfl, .inr rfl⟩ | exact ⟨.inr rfl, .inl rfl⟩)
    (hw : SwapTo c (.Tuple [.Name x p1, .Name y p2] k1 p3) (.Tuple [a, b] k2 p4) none := by intro env h; cases env; cases h; rfl) (hs : NoStar a [b] := by intro _; rfl) (hs2 : NoStar b [] := by intro _; rfl) :
    RefS c Γ (.Assign [.Tuple [.Name x p1, .Name y p2] k1 p3] (.Tuple [a, b] k2 p4) pos) (do let u ← ma; let v ← mb; pure (u, v)) (fun q => (Γ.set i (.own q.1)).set j (.dat q.2)) := by
  intro B S σ H os D st hacc
  refine ⟨tAsg (tTup (tCons (WE c a) (tCons (WE c b) tNil))) (gTup c.K 2 (gCons (gName i) (gCons (gName j) gNil))), fun X hX => ps_asg (pe_tup (pa_cons (pe_W hX a) (pa_cons (pe_W hX b) pa_nil (hs2 _)) (hs _))) (by rw [← hX.K]; exact pg_tup hX.calm (pgs_cons (pg_cs hX hi h) (pgs_cons (pg_cs hX hj h') pgs_nil))) (by rfl) (hw _ hX.sc), ?_⟩
  refine ha B S σ H os _ st (acc_mono (acc_bind hacc) (fun ds S1 q l vs H1 a1 hn hf hl hd => ?_) fun _ _ _ _ z => z)
  have st1 := st.stepN a1 hn hf hl
  refine hb B S1 σ H1 (l :: os) _ st1 (acc_mono (acc_bind q) (fun d S2 q2 v H2 a2 hd2 => ?_) fun cn n x S' z C dd vx H' h1 h2 h3 h4 => z C dd vx H' h1 (a1.trans h2) h3 (h4.mono (frz_sub fun b hb => List.mem_cons_of_mem _ hb)))
  have st2 := st1.step a2
  refine ⟨by show 2 ≤ sizeLine; exact few (by omega), fun t ht => ?_⟩
  have a3 := Aft.new (o := .tup [.ref l, v]) st2.co ht
  have st3 := st2.step a3
  have hl3 : (upd H2 t (.tup [.ref l, v])) l = some (.lst vs) := by
    have hl' : H2 l = some (.lst vs) := a2.nx _ _ hl (fun _ z => by cases z) fun z => hn (st.co.mos' l z)
    rw [upd_ne (ne_of_none hl' ht)]; exact hl'
  have st4 := st3.seto (i := i) (p := l) List.mem_cons_self (fun z => hn (st.co.sub _ z)) hl3 (hd.mono (strans (st1.co.frz a2) (st2.co.frz a3))) (st.noOwn hn)
  have st5 := st4.setd (i := j) (hd2.mono (st2.co.frz a3))
  refine ⟨t, [.ref l, v], rfl, SqT.of upd_same, rfl, _, _, rfl, _, _, rfl, rfl, ?_⟩
  exact (show ∀ σ' H' os', St c B ((Γ.set i (.own ds)).set j (.dat d)) S2 σ' H' os' → Same (frz H os) (frz H' os') → D.nx σ' H' from q2) _ _ _ st5 (strans (frz_newP st a1 hf) (strans (st1.co.frz a2) (st2.co.frz a3)))
/-! ### own lists, written -/
theorem setL_acc {ds : List D} {i v : D} {Φ : List D → DS → Prop} {Ψ : Str → Str → D → DS → Prop} (h : (setL ds i v S).acc Φ Ψ) : ∃ k j, i = .int k ∧ ixN ds.length k = some j ∧ Φ (ds.set j v) S := by
  cases i with
  | int k =>
    have h : (setAt ds v (ixN ds.length k) S).acc Φ Ψ := h
    cases e : ixN ds.length k with
    | some j => rw [e] at h; exact ⟨k, j, rfl, e, h⟩
    | none => rw [e] at h; exact h.elim
  | _ => exact h.elim
theorem DaAll.set {G : Hp} : ∀ {ds : List D} {vs : List V} {d : D} {v : V} (j : Nat), DaAll K G ds vs → Da K G d v → DaAll K G (ds.set j d) (vs.set j v)
  | [], _, _, _, _, h, _ => by cases (show _ = [] from h); rfl
  | _ :: _, _, _, _, 0, ⟨w, r, h1, h2, h3⟩, q => by subst h1; exact ⟨_, _, rfl, q, h3⟩
  | _ :: _, _, _, _, j + 1, ⟨w, r, h1, h2, h3⟩, q => by subst h1; exact ⟨_, _, rfl, h2, DaAll.set j h3 q⟩
/-- an own slot's list is another one -/
theorem St.reown (st : St c B Γ S σ H os) {i : Nat} {ds es : List D} {a : Addr} {vs us : List V} (hΓ : Γ[i]? = some (.own ds)) (hσ : σ[i]? = some (some (.ref a))) (hm : a ∈ os) (h0 : a ∉ B.os0) (hl : H a = some (.lst vs)) (hd : DaAll c.K (frz H os) es us) :
    St c B (Γ.set i (.own es)) S σ (upd H a (.lst us)) os := by
  refine ⟨st.co.bump hl hm h0, by rw [List.length_set]; exact st.len, fun j s e => ?_, fun j k ds' es' l e1 e2 e3 e4 => ?_⟩
  · rw [List.getElem?_set] at e
    by_cases q : i = j
    · subst q
      rw [if_pos rfl] at e
      split at e
      · cases e
        exact ⟨a, hσ, hm, h0, us, upd_same, by rw [frz_upd_own hm]; exact hd⟩
      · cases e
    · rw [if_neg q] at e
      have z := st.sl j s e
      cases s with
      | un => trivial
      | drw => exact z
      | mem b => exact z
      | giv ns => obtain ⟨b, q1, q2⟩ := z; exact ⟨b, q1, by rw [frz_upd_own hm]; exact q2⟩
      | dat d =>
        obtain ⟨v, q1, q2⟩ := z
        exact ⟨v, q1, by rw [frz_upd_own hm]; exact q2⟩
      | own ds' =>
        obtain ⟨l, q1, q2, q3, vs', q4, q5⟩ := z
        refine ⟨l, q1, q2, q3, vs', ?_, by rw [frz_upd_own hm]; exact q5⟩
        rw [upd_ne fun z => q (st.nd i j ds ds' a hΓ e hσ (by rw [← z]; exact q1))]
        exact q4
  · rw [List.getElem?_set] at e1 e2
    by_cases q : i = j
    · by_cases q2 : i = k
      · rw [← q, ← q2]
      · rw [if_neg q2] at e2
        rw [← q] at e3 ⊢
        exact st.nd i k ds es' l hΓ e2 e3 e4
    · rw [if_neg q] at e1
      by_cases q2 : i = k
      · rw [← q2] at e4 ⊢
        exact st.nd j i ds' ds l e1 hΓ e3 e4
      · rw [if_neg q2] at e2
        exact st.nd j k ds' es' l e1 e2 e3 e4
/-- x[i] = e -/
theorem rs_setI (i : Nat) {ds : List D} {ix : Expr} {me mi : M D} {p2 p3 : Pos} (he : RefE c Γ e me) (hix : RefE c Γ ix mi) (hΓ : Γ[i]? = some (.own ds) := by rfl) (hN : c.N[i]? = some x := by rfl) (hv : Vis c.sc x := by first | exact Or.inl rfl | exact Or.inr (Or.inl rfl) | exact Or.inr (Or.inr rfl))
    (hd : (x == ("__debug__" : Str)) = false := by decide) (hcd : (x == ("__classdict__" : Str)) = false := by decide) (hw : ∀ X, c.Has X → swapsWithSole [.Subscript (.Name x p2) ix p3] e pos.line X.env = pure false := by intro _ _; rfl)
    (hw2 : ∀ X, c.Has X → swappedStores [.Subscript (.Name x p2) ix p3] e X.env = pure none := by intro _ _; rfl)
    (ha : ∀ env v, assign (.Subscript (.Name x p2) ix p3) env v = (do
      let ov ← holding [v] (eval (.Name x p2) env)
      let iv ← holding [v, ov] (eval ix env)
      standAt p3
      holding [v, ov, iv] (setItem ov iv v)
      release [v, ov, iv] []) := by intro _ _; rfl) :
    RefS c Γ (.Assign [.Subscript (.Name x p2) ix p3] e pos) (do let v ← me; let k ← mi; setL ds k v) (fun ds' => Γ.set i (.own ds')) := by
  intro B S σ H os D st hacc
  refine ⟨tAsg (WE c e) (gSub (tVar i) (WE c ix) rSetL), fun X hX => ps_asg (pe_W hX e) (pg_sub (pv i (by rw [hX.N]; exact hN) (by rw [hX.sc]; exact hv) hd hcd) (pe_W hX ix) set_list (ha _)) (hw X hX) (hw2 X hX), ?_⟩
  refine he B S σ H os _ st (acc_mono (acc_bind hacc) (fun d S1 q v H1 a1 hd => ?_) fun _ _ _ _ z => z)
  have st1 := st.step a1
  obtain ⟨a, h1, h2, h3, vs, h4, h5⟩ := st1.sl i _ hΓ
  refine ⟨_, h1, hix B S1 σ H1 os _ st1 (acc_mono (acc_bind q) (fun k S2 q2 w H2 a2 hk => ?_) fun _ _ _ _ z => z.back a1)⟩
  obtain ⟨n, j, rfl, hj, q3⟩ := setL_acc q2
  cases hk
  have st2 := st1.step a2
  have h4' : H2 a = some (.lst vs) := a2.nx _ _ h4 (fun _ z => by cases z) fun z => h3 (st.co.mos a z)
  refine ⟨a, vs, n, j, rfl, rfl, h4', by rw [h5.length]; exact hj, q3 σ _ os (st2.reown hΓ h1 h2 h3 h4' ((h5.mono (st1.co.frz a2)).set j (hd.mono (st1.co.frz a2)))) ?_⟩
  rw [frz_upd_own h2]
  exact st.co.frz (a1.trans a2)
/-- x[i], x[j] = e1, e2 -/
theorem rs_swap (i : Nat) {ds : List D} {e1 e2 ix jx : Expr} {m1 m2 mi : M D} {mj : List D → M D} {p1 p2 p3 p4 p5 p6 : Pos} {k1 k2} (h1 : RefE c Γ e1 m1) (h2 : RefE c Γ e2 m2) (hi : RefE c Γ ix mi) (hj : ∀ ds', RefE c (Γ.set i (.own ds')) jx (mj ds')) (hΓ : Γ[i]? = some (.own ds) := by rfl) (hN : c.N[i]? = some x := by rfl)
    (hv : Vis c.sc x := by first | exact Or.inl rfl | exact Or.inr (Or.inl rfl) | exact Or.inr (Or.inr rfl)) (hd : (x == ("__debug__" : Str)) = false := by decide) (hcd : (x == ("__classdict__" : Str)) = false := by decide) (hs : NoStar e1 [e2] := by intro _; rfl) (hs2 : NoStar e2 [] := by intro _; rfl)
    (hw : SwapTo c (.Tuple [.Subscript (.Name x p1) ix p2, .Subscript (.Name x p3) jx p4] k1 p5) (.Tuple [e1, e2] k2 p6) none := by intro env h; cases env; cases h; rfl)
    (hai : ∀ env v, assign (.Subscript (.Name x p1) ix p2) env v = (do
      let ov ← holding [v] (eval (.Name x p1) env)
      let iv ← holding [v, ov] (eval ix env)
      standAt p2
      holding [v, ov, iv] (setItem ov iv v)
      release [v, ov, iv] []) := by intro _ _; rfl)
    (haj : ∀ env v, assign (.Subscript (.Name x p3) jx p4) env v = (do
      let ov ← holding [v] (eval (.Name x p3) env)
      let iv ← holding [v, ov] (eval jx env)
      standAt p4
      holding [v, ov, iv] (setItem ov iv v)
      release [v, ov, iv] []) := by intro _ _; rfl) :
    RefS c Γ (.Assign [.Tuple [.Subscript (.Name x p1) ix p2, .Subscript (.Name x p3) jx p4] k1 p5] (.Tuple [e1, e2] k2 p6) pos) (do let u ← m1; let v ← m2; let n ← mi; let ds1 ← setL ds n u; let l ← quiet (mj ds1); setL ds1 l v) (fun ds' => Γ.set i (.own ds')) := by
  intro B S σ H os D st hacc
  have hvar : ∀ X, c.Has X → ∀ {p : Pos}, PE X (.Name x p) (tVar i) := fun X hX p => pv i (by rw [hX.N]; exact hN) (by rw [hX.sc]; exact hv) hd hcd
  refine ⟨tAsg (tTup (tCons (WE c e1) (tCons (WE c e2) tNil))) (gTup c.K 2 (gCons (gSub (tVar i) (WE c ix) rSetL) (gCons (gSub (tVar i) (WE c jx) rSetL) gNil))), fun X hX => ps_asg (pe_tup (pa_cons (pe_W hX e1) (pa_cons (pe_W hX e2) pa_nil (hs2 _)) (hs _)))
    (by rw [← hX.K]; exact pg_tup hX.calm (pgs_cons (pg_sub (hvar X hX) (pe_W hX ix) set_list (hai _)) (pgs_cons (pg_sub (hvar X hX) (pe_W hX jx) set_list (haj _)) pgs_nil))) (by rfl) (hw _ hX.sc), ?_⟩
  refine h1 B S σ H os _ st (acc_mono (acc_bind hacc) (fun d S1 q v H1 a1 hd1 => ?_) fun _ _ _ _ z => z)
  have st1 := st.step a1
  refine h2 B S1 σ H1 os _ st1 (acc_mono (acc_bind q) (fun d2 S2 q2 v2 H2 a2 hd2 => ?_) fun _ _ _ _ z => z.back a1)
  have st2 := st1.step a2
  refine ⟨by show 2 ≤ sizeLine; exact few (by omega), fun t ht => ?_⟩
  have a3 := Aft.new (o := .tup [v, v2]) st2.co ht
  have st3 := st2.step a3
  obtain ⟨a, g1, g2, g3, vs, g4, g5⟩ := st3.sl i _ hΓ
  refine ⟨t, [v, v2], rfl, SqT.of upd_same, rfl, _, _, rfl, _, g1, ?_⟩
  refine hi B S2 σ _ os _ st3 (acc_mono (acc_bind q2) (fun k S3 q3 w H3 a4 hk => ?_) fun _ _ _ _ z => z.back ((a1.trans a2).trans a3))
  obtain ⟨n, j, rfl, hj1, q4⟩ := setL_acc (acc_bind q3)
  cases hk
  have st4 := st3.step a4
  have hd1' := hd1.mono (strans (st1.co.frz a2) (strans (st2.co.frz a3) (st3.co.frz a4)))
  have g4' : H3 a = some (.lst vs) := a4.nx _ _ g4 (fun _ z => by cases z) fun z => g3 (st.co.mos a z)
  have st5 := st4.reown hΓ g1 g2 g3 g4' ((g5.mono (st3.co.frz a4)).set j hd1')
  refine ⟨a, vs, n, j, rfl, rfl, g4', by rw [g5.length]; exact hj1, _, _, rfl, _, g1, ?_⟩
  refine hj _ B S3 σ _ os _ st5 (quiet_acc (Ψ := PostX c B.mA os H) (acc_mono (acc_bind q4) (fun k2 S4 q5 w2 H4 a5 hk2 => ?_) fun _ _ _ _ z => z))
  obtain ⟨n2, j2, rfl, hj2, q6⟩ := setL_acc q5
  cases hk2
  have st6 := st5.step a5
  obtain ⟨a', f1, f2, f3, us, f4, f5⟩ := st6.sl i (.own (ds.set j d)) (by rw [List.getElem?_set, if_pos rfl, if_pos (List.getElem?_eq_some_iff.mp hΓ).1])
  rw [g1] at f1
  cases f1
  have hd2' := hd2.mono (strans (st2.co.frz a3) (strans (st3.co.frz a4) (fun b o z => st5.co.frz a5 b o (by rw [frz_upd_own g2]; exact z))))
  have f5l : (DaAll.length f5) = f5.length := rfl
  refine ⟨a, us, n2, j2, rfl, rfl, f4, by rw [f5.length]; exact hj2, rfl, ?_⟩
  have st7 := st6.reown (i := i) (ds := ds.set j d) (by rw [List.getElem?_set, if_pos rfl, if_pos (List.getElem?_eq_some_iff.mp hΓ).1]) g1 f2 f3 f4 (f5.set j2 hd2')
  rw [List.set_set] at st7
  refine q6 σ _ os st7 ?_
  rw [frz_upd_own g2]
  exact strans (st.co.frz (a1.trans a2)) (strans (st2.co.frz a3) (strans (st3.co.frz a4) (fun b o z => st5.co.frz a5 b o (by rw [frz_upd_own g2]; exact z))))
end
end DL
/-! # DL, twelfth part: growing lists, return, if, loops. -/
namespace DL
open PySem PySem.Spec L2
section
variable {c : CP} {B : Bs} {Γ Γ' : List Sl} {S S' S1 S2 : DS} {σ : L2.St} {H H' H1 H2 : Hp} {os : List Addr} {mA : MA} {e a b : Expr} {es : List Expr} {pos p : Pos} {x y : Str} {K : PySem.W.Frag} {X : Cx} {sts rest : List Stmt} {Kt : List Sl → M D → Prop}
/-- an expression for its effect -/
theorem rs_expr {m : M D} (h : RefE c Γ e m) (hs : ∀ X, c.Has X → swapsWith e none pos.line X.env = pure false := by intro _ _; rfl) : RefS c Γ (.Expr e pos) m (fun _ => Γ) := by
  intro B S σ H os D st ha
  refine ⟨_, fun X hX => ps_expr (pe_W hX e) (hs X hX), ?_⟩
  exact h B S σ H os _ st (acc_mono ha (fun d S1 q v H1 a1 hd => q _ H1 os (st.step a1) (st.co.frz a1)) fun _ _ _ _ z => z)
theorem rs_pass : RefS c Γ (.Pass pos) (pure ()) (fun _ => Γ) := fun B S σ H os D st ha => ⟨_, fun X hX => ps_pass, ha σ H os st (fun _ _ z => z)⟩
def MethOk (o : Expr) (name : Str) (apos : Pos) (es : List Expr) (cpos : Pos) : Prop := ∀ env, attributeBase o name env (eval o env) = eval o env ∧ ((backTo cpos (starEach es env)).all (fun x => !x.1) && (backToKw cpos (keywordEach [] env)).all (fun x => x.1.isSome)
      && decide (es.length + ([] : List Keyword).length + (if ([] : List Keyword).isEmpty then 0 else 1) < 30)) = true ∧ (apos.endLine == cpos.line) = true
/-- x.append(e) -/
theorem rs_append (i : Nat) {ds : List D} {m : M D} {p2 apos cpos : Pos} (h : RefE c Γ e m) (hΓ : Γ[i]? = some (.own ds) := by rfl) (hN : c.N[i]? = some x := by rfl) (hv : Vis c.sc x := by first | exact Or.inl rfl | exact Or.inr (Or.inl rfl) | exact Or.inr (Or.inr rfl))
    (hd : (x == ("__debug__" : Str)) = false := by decide) (hcd : (x == ("__classdict__" : Str)) = false := by decide) (hm : MethOk (.Name x p2) "append" apos [e] cpos := by intro _; exact ⟨rfl, rfl, rfl⟩) (hs : NoStar e [] := by intro _; rfl)
    (hw : ∀ X, c.Has X → swapsWith (.Call (.Attribute (.Name x p2) "append" apos) [e] [] cpos) none pos.line X.env = pure false := by intro _ _; rfl) :
    RefS c Γ (.Expr (.Call (.Attribute (.Name x p2) "append" apos) [e] [] cpos) pos) (do let d ← m; pushL ds d) (fun ds' => Γ.set i (.own ds')) := by
  intro B S σ H os D st hacc
  obtain ⟨a, h1, h2, h3, vs, h4, h5⟩ := st.sl i _ hΓ
  refine ⟨tDrop (tBM c.K "list" rAppend (tVar i) (tCons (WE c e) tNil)), fun X hX => ps_expr (by rw [← hX.K]; exact pe_bm PySem.F.plainAttrs_list PySem.F.slot_list_append PySem.F.type_list_append mt_append (pv i (by rw [hX.N]; exact hN) (by rw [hX.sc]; exact hv) hd hcd) (pa_cons (pe_W hX e) pa_nil (hs _)) (hm X.env).1 (hm X.env).2.1 (hm X.env).2.2 (hs _) (by rfl)) (hw X hX), ?_⟩
  refine ⟨_, h1, .inl ⟨rfl, _, SqL.of h4⟩, h B S σ H os _ st (acc_mono (acc_bind hacc) (fun d S1 q v H1 a1 hd => ?_) fun _ _ _ _ z => z)⟩
  have h4' : H1 a = some (.lst vs) := a1.nx _ _ h4 (fun _ z => by cases z) fun z => h3 (st.co.mos a z)
  unfold pushL at q
  split at q
  · rename_i hl
    have st1 := st.step a1
    refine ⟨a, vs, v, rfl, rfl, h4', by rw [h5.length, sizeLine_eq]; omega, ?_⟩
    refine (show ∀ σ' H' os', St c B (Γ.set i (.own (ds ++ [d]))) S1 σ' H' os' → Same (frz H os) (frz H' os') → D.nx σ' H' from q) σ _ os (st1.reown hΓ h1 h2 h3 h4' ((h5.mono (st.co.frz a1)).append (.one hd))) ?_
    rw [frz_upd_own h2]
    exact st.co.frz a1
  · exact q.elim
/-- pop at a place -/
theorem popL_acc {ds : List D} {i : D} {Φ : D × List D → DS → Prop} {Ψ : Str → Str → D → DS → Prop} (h : (popL ds i S).acc Φ Ψ) : ∃ k : Int, ∃ d, i = .int k ∧ 0 ≤ k ∧ k < 1000000 ∧ ds[k.toNat]? = some d ∧ Φ (d, ds.eraseIdx k.toNat) S := by
  cases i with
  | int k =>
    unfold popL at h
    dsimp only at h
    split at h
    · rename_i hk
      cases e : ds[k.toNat]? with
      | some d => rw [e] at h; exact ⟨k, d, rfl, hk.1, hk.2, e, h⟩
      | none => rw [e] at h; exact h.elim
    · exact h.elim
  | _ => exact h.elim
theorem DaAll.erase {G : Hp} : ∀ {ds : List D} {vs : List V} (j : Nat), DaAll K G ds vs → DaAll K G (ds.eraseIdx j) (vs.eraseIdx j)
  | [], _, _, h => by cases (show _ = [] from h); rfl
  | _ :: _, _, 0, ⟨w, r, h1, h2, h3⟩ => by subst h1; exact h3
  | _ :: _, _, j + 1, ⟨w, r, h1, h2, h3⟩ => by subst h1; exact ⟨_, _, rfl, h2, DaAll.erase j h3⟩
/-- x.append(y.pop(e)), two own lists -/
theorem rs_appPop (i j : Nat) {ds es' : List D} {m : M D} {p2 p3 apos cpos apos2 cpos2 : Pos} (hij : i ≠ j) (h : RefE c Γ e m) (hΓ : Γ[i]? = some (.own ds) := by rfl) (hN : c.N[i]? = some x := by rfl) (hv : Vis c.sc x := by first | exact Or.inl rfl | exact Or.inr (Or.inl rfl) | exact Or.inr (Or.inr rfl))
    (hΓ2 : Γ[j]? = some (.own es') := by rfl) (hN2 : c.N[j]? = some y := by rfl) (hv2 : Vis c.sc y := by first | exact Or.inl rfl | exact Or.inr (Or.inl rfl) | exact Or.inr (Or.inr rfl))
    (hd : (x == ("__debug__" : Str)) = false := by decide) (hcd : (x == ("__classdict__" : Str)) = false := by decide) (hd2 : (y == ("__debug__" : Str)) = false := by decide) (hcd2 : (y == ("__classdict__" : Str)) = false := by decide)
    (hm2 : MethOk (.Name y p3) "pop" apos2 [e] cpos2 := by intro _; exact ⟨rfl, rfl, rfl⟩) (hm : MethOk (.Name x p2) "append" apos [.Call (.Attribute (.Name y p3) "pop" apos2) [e] [] cpos2] cpos := by intro _; exact ⟨rfl, rfl, rfl⟩) (hs : NoStar e [] := by intro _; rfl) (hs2 : NoStar (.Call (.Attribute (.Name y p3) "pop" apos2) [e] [] cpos2) [] := by intro _; rfl)
    (hw : ∀ X, c.Has X → swapsWith (.Call (.Attribute (.Name x p2) "append" apos) [.Call (.Attribute (.Name y p3) "pop" apos2) [e] [] cpos2] [] cpos) none pos.line X.env = pure false := by intro _ _; rfl) :
    RefS c Γ (.Expr (.Call (.Attribute (.Name x p2) "append" apos) [.Call (.Attribute (.Name y p3) "pop" apos2) [e] [] cpos2] [] cpos) pos) (do let k ← m; let q ← popL es' k; let ds' ← pushL ds q.1; pure (ds', q.2)) (fun q => (Γ.set j (.own q.2)).set i (.own q.1)) := by
  intro B S σ H os D st hacc
  obtain ⟨a, h1, h2, h3, vs, h4, h5⟩ := st.sl i _ hΓ
  obtain ⟨b, g1, g2, g3, us, g4, g5⟩ := st.sl j _ hΓ2
  have hab : a ≠ b := fun z => hij (st.nd i j ds es' a hΓ hΓ2 h1 (by rw [z]; exact g1))
  have hvar : ∀ X, c.Has X → PE X (.Name x p2) (tVar i) := fun X hX => pv i (by rw [hX.N]; exact hN) (by rw [hX.sc]; exact hv) hd hcd
  have hvar2 : ∀ X, c.Has X → PE X (.Name y p3) (tVar j) := fun X hX => pv j (by rw [hX.N]; exact hN2) (by rw [hX.sc]; exact hv2) hd2 hcd2
  refine ⟨tDrop (tBM c.K "list" rAppend (tVar i) (tCons (tBM c.K "list" rPopAt (tVar j) (tCons (WE c e) tNil)) tNil)), fun X hX => ps_expr (by
    rw [← hX.K]
    exact pe_bm PySem.F.plainAttrs_list PySem.F.slot_list_append PySem.F.type_list_append mt_append (hvar X hX) (pa_cons (pe_bm PySem.F.plainAttrs_list PySem.F.slot_list_pop PySem.F.type_list_pop mt_popAt (hvar2 X hX) (pa_cons (pe_W hX e) pa_nil (hs _)) (hm2 X.env).1 (hm2 X.env).2.1 (hm2 X.env).2.2 (hs _) (by rfl)) pa_nil (hs2 _)) (hm X.env).1 (hm X.env).2.1 (hm X.env).2.2 (hs2 _) (by rfl)) (hw X hX), ?_⟩
  refine ⟨_, h1, .inl ⟨rfl, _, SqL.of h4⟩, _, g1, .inl ⟨rfl, _, SqL.of g4⟩, h B S σ H os _ st (acc_mono (acc_bind hacc) (fun d S1 q v H1 a1 hd => ?_) fun _ _ _ _ z => z)⟩
  obtain ⟨k, z, rfl, k0, k1, hz, q2⟩ := popL_acc (acc_bind q)
  cases hd
  have st1 := st.step a1
  have h4' : H1 a = some (.lst vs) := a1.nx _ _ h4 (fun _ z => by cases z) fun z => h3 (st.co.mos a z)
  have g4' : H1 b = some (.lst us) := a1.nx _ _ g4 (fun _ z => by cases z) fun z => g3 (st.co.mos b z)
  have h5' := h5.mono (st.co.frz a1)
  have g5' := g5.mono (st.co.frz a1)
  obtain ⟨w, hw1, hw2⟩ := g5'.get hz
  have hlt : k.toNat < us.length := (List.getElem?_eq_some_iff.mp hw1).1
  refine ⟨b, us, k, k.toNat, w, rfl, rfl, g4', by omega, by omega, seqIndex_of k0 (by omega), hw1, ?_⟩
  have st2 := st1.reown hΓ2 g1 g2 g3 g4' (g5'.erase k.toNat)
  have q3 : (pushL ds z S1).acc (fun ds' S' => ∀ σ' H' os', St c B ((Γ.set j (.own (es'.eraseIdx k.toNat))).set i (.own ds')) S' σ' H' os' → Same (frz H os) (frz H' os') → D.nx σ' H') (PostX c B.mA os H) := acc_mono (acc_bind q2) (fun _ _ z => z) fun _ _ _ _ z => z
  unfold pushL at q3
  split at q3
  · rename_i hl
    have h4'' : (upd H1 b (.lst (us.eraseIdx k.toNat))) a = some (.lst vs) := by rw [upd_ne hab]; exact h4'
    refine ⟨a, vs, w, rfl, rfl, h4'', by rw [h5.length, sizeLine_eq]; omega, ?_⟩
    have hΓ3 : (Γ.set j (.own (es'.eraseIdx k.toNat)))[i]? = some (.own ds) := by rw [List.getElem?_set, if_neg fun z => hij z.symm]; exact hΓ
    refine (show ∀ σ' H' os', St c B ((Γ.set j (.own (es'.eraseIdx k.toNat))).set i (.own (ds ++ [z]))) S1 σ' H' os' → Same (frz H os) (frz H' os') → D.nx σ' H' from q3) σ _ os (st2.reown hΓ3 h1 h2 h3 h4'' ?_) ?_
    · rw [frz_upd_own g2]
      exact h5'.append (.one hw2)
    · rw [frz_upd_own h2, frz_upd_own g2]
      exact st.co.frz a1
  · exact q3.elim
/-- an own list is data from here on -/
theorem rb_frz (i : Nat) {ds : List D} {m : M D} (h : RefB c (Γ.set i (.dat (.list ds))) sts Kt m) (hΓ : Γ[i]? = some (.own ds) := by rfl) : RefB c Γ sts Kt m := by
  intro B S σ H os D Φ Ψ st ha hr hx hn
  obtain ⟨a, h1, h2, h3, vs, h4, h5⟩ := st.sl i _ hΓ
  have sm : Same (frz H os) (frz H (os.filter fun b => b != a)) := frz_sub fun b hb => (List.mem_filter.mp hb).1
  have na : a ∉ os.filter fun b => b != a := fun z => by
    have := (List.mem_filter.mp z).2
    simp at this
  have st' : St c B (Γ.set i (.dat (.list ds))) S σ H (os.filter fun b => b != a) := by
    refine ⟨⟨fun b hb => List.mem_filter.mpr ⟨st.co.sub b hb, ?_⟩, fun b hb => st.co.mine b (List.mem_filter.mp hb).1, st.co.nx, st.co.mst, st.co.mos, fun b hb => st.co.dom b (List.mem_filter.mp hb).1, st.co.tab⟩, by rw [List.length_set]; exact st.len, fun j s e => ?_, fun j k ds' es l e1 e2 e3 e4 => ?_⟩
    · have : b ≠ a := fun z => h3 (by rw [← z]; exact hb)
      simpa using this
    · rw [List.getElem?_set] at e
      by_cases q : i = j
      · subst q
        rw [if_pos rfl] at e
        split at e
        · cases e
          exact ⟨_, h1, a, vs, rfl, frz_of h4 (fun _ z => by cases z) na, h5.mono sm⟩
        · cases e
      · rw [if_neg q] at e
        have z := st.sl j s e
        cases s with
        | un => trivial
        | drw => exact z
        | mem b => exact z
        | giv ns => obtain ⟨b, q1, q2⟩ := z; exact ⟨b, q1, sqL_same sm q2⟩
        | dat d =>
          obtain ⟨v, q1, q2⟩ := z
          exact ⟨v, q1, q2.mono sm⟩
        | own ds' =>
          obtain ⟨l, q1, q2, q3, vs', q4, q5⟩ := z
          refine ⟨l, q1, List.mem_filter.mpr ⟨q2, ?_⟩, q3, vs', q4, q5.mono sm⟩
          have : l ≠ a := fun z => q (st.nd i j ds ds' a hΓ e h1 (by rw [← z]; exact q1))
          simpa using this
    · rw [List.getElem?_set] at e1 e2
      by_cases q : i = j
      · rw [if_pos q] at e1
        split at e1 <;> cases e1
      · by_cases q2 : i = k
        · rw [if_pos q2] at e2
          split at e2 <;> cases e2
        · rw [if_neg q] at e1
          rw [if_neg q2] at e2
          exact st.nd j k ds' es l e1 e2 e3 e4
  exact h B S σ H _ D Φ Ψ st' ha hr hx fun Γ' m' S' σ' H' os' h1 h2 h3 h4 => hn Γ' m' S' σ' H' os' h1 h2 (strans sm h3) h4
/-- return -/
theorem rb_ret {m : M D} (h : RefE c Γ e m) : RefB c Γ (.Return (some e) pos :: rest) Kt m := by
  intro B S σ H os D Φ Ψ st ha hr hx hn
  refine ⟨tSeq (tRet (WE c e)) tNever, fun X hX => pss_cons (ps_ret (pe_W hX e)) pss_never, ?_⟩
  exact h B S σ H os _ st (acc_mono ha (fun d S1 q v H1 a1 hd => hr d S1 v H1 q ⟨st.co.nx.trans a1.nx, a1.mst, a1.tab⟩ (hd.mono (frz_sub st.co.sub))) (postX_of hx st.co))
/-- if -/
theorem rb_if {cnd : Expr} {sa sb : List Stmt} {mt : M Bool} {ma mb : M D} (ht : RefT c Γ cnd mt) (ha : RefB c Γ sa (fun Γ' m' => RefB c Γ' rest Kt m') ma) (hb : RefB c Γ sb (fun Γ' m' => RefB c Γ' rest Kt m') mb) : RefB c Γ (.If cnd sa sb pos :: rest) Kt (do let k ← mt; if k = true then ma else mb) := by
  intro B S σ H os D Φ Ψ st hacc hr hx hn
  refine ⟨tSeq (tIfS (WT c cnd) (WSs c sa) (WSs c sb)) (WSs c rest), fun X hX => pss_cons (ps_if (pt_W hX cnd) (pss_W hX sa) (pss_W hX sb)) (pss_W hX rest), ?_⟩
  refine ht B S σ H os _ st (acc_mono (acc_bind hacc) (fun k S1 q H1 a1 => ?_) (postX_of hx st.co))
  have st1 := st.step a1
  have nx : ∀ Γ' m' S' σ' H' os', RefB c Γ' rest Kt m' → St c B Γ' S' σ' H' os' → Same (frz H1 os) (frz H' os') → (m' S').acc Φ Ψ → WSs c rest D σ' H' := fun Γ' m' S' σ' H' os' h1 h2 h3 h4 => h1 B S' σ' H' os' D Φ Ψ h2 h4 hr hx fun Γ2 m2 S2 σ2 H2 os2 g1 g2 g3 g4 => hn Γ2 m2 S2 σ2 H2 os2 g1 g2 (strans (st.co.frz a1) (strans h3 g3)) g4
  cases k with
  | true => exact ha B S1 σ H1 os { D with nx := WSs c rest D } Φ Ψ st1 q hr hx nx
  | false => exact hb B S1 σ H1 os { D with nx := WSs c rest D } Φ Ψ st1 q hr hx nx
/-! ### loops -/
/-- for: lp is the loop, by what is left to walk and the state; it ends in what follows -/
theorem rb_for {α : Type} {tg iter : Expr} {body : List Stmt} {mi : M (List D)} (Γs : α → List Sl) (lp : List D → α → M D) (a0 : α) {ix : List Nat} {sl : List Sl → D → Option (List Sl)} (hi : RefI c Γ tg iter mi) (h0 : Wk Γ (Γs a0))
    (htg : TgOk c tg ix sl) (hst : ∀ d ds a, sl (Γs a) d = none → lp (d :: ds) a = stuck)
    (hb : ∀ d ds a Γ', sl (Γs a) d = some Γ' → RefB c Γ' body (fun Γ2 m' => ∃ a', Wk Γ2 (Γs a') ∧ m' = lp ds a') (lp (d :: ds) a)) (hrest : ∀ a, RefB c (Γs a) rest Kt (lp [] a)) (fs : FoldsNot iter := by intro _ _; rfl) :
    RefB c Γ (.For tg iter body [] pos :: rest) Kt (do let ds ← mi; lp ds a0) := by
  intro B S σ H os D Φ Ψ st hacc hr hx hn
  obtain ⟨g, hg, hset⟩ := htg
  refine ⟨tSeq (tFor (WI c tg iter) g (WSs c body)) (WSs c rest), fun X hX => pss_cons (ps_for hX.pass hX.calm (pi_W hX tg iter) (hg X hX) (pss_W hX body) (fs _)) (pss_W hX rest), ?_⟩
  refine hi B S σ H os _ st (acc_mono (acc_bind hacc) (fun ds S1 q J H1 a1 hJ => ?_) (postX_of hx st.co))
  refine ⟨fun i m σ2 H2 => m = ds.length - i ∧ i ≤ ds.length ∧ ∃ a S2 os2, St c B (Γs a) S2 σ2 H2 os2 ∧ Same (frz H1 os) (frz H2 os2) ∧ (lp (ds.drop i) a S2).acc Φ Ψ, ⟨_, rfl, Nat.zero_le _, a0, S1, os, (st.step a1).wk h0, fun _ _ z => z, q⟩, ?_⟩
  rintro i m σ2 H2 ⟨rfl, hile, a, S2, os2, st2, sm, q2⟩
  by_cases hlt : i < ds.length
  · refine .inr ⟨hJ.go i H2 os2 hlt sm, fun σ' H' => ∃ a S2 os2, St c B (Γs a) S2 σ' H' os2 ∧ Same (frz H1 os) (frz H' os2) ∧ (lp (ds.drop (i + 1)) a S2).acc Φ Ψ, fun σ' H' p' => ⟨ds.length - (i + 1), by omega, rfl, hlt, p'⟩, fun x H3 y => ?_⟩
    obtain ⟨a3, d, hd1, hd2⟩ := hJ.yld i H2 x H3 S2 os2 sm st2.co y hlt
    have hdrop : ds.drop i = d :: ds.drop (i + 1) := by
      rw [List.drop_eq_getElem_cons hlt]
      rw [List.getElem?_eq_getElem hlt] at hd1
      rw [Option.some.inj hd1]
    rw [hdrop] at q2
    cases hsl : sl (Γs a) d with
    | none =>
      rw [hst d _ a hsl] at q2
      exact q2.elim
    | some Γ' =>
      refine hset B (Γs a) S2 σ2 H3 os2 d x _ Γ' (st2.step a3) hd2 hsl ?_
      intro σ' st4 _ _
      refine hb d _ a Γ' hsl B S2 σ' H3 os2 _ Φ Ψ st4 q2 hr hx ?_
      rintro Γ2 m' S' σ4 H4 os4 ⟨a', hw, rfl⟩ h2 h3 h4
      exact ⟨a', S', os4, h2.wk hw, strans sm (strans (st2.co.frz a3) h3), h4⟩
  · have e : i = ds.length := by omega
    subst e
    refine .inl ⟨hJ.stop H2 os2 sm, ?_⟩
    rw [List.drop_length] at q2
    exact hrest a B S2 σ2 H2 os2 D Φ Ψ st2 q2 hr hx fun Γ' m' S' σ' H' os' h1 h2 h3 h4 => hn Γ' m' S' σ' H' os' h1 h2 (strans (st.co.frz a1) (strans sm h3)) h4
/-- one name -/
theorem rb_for1 {α : Type} {iter : Expr} {body : List Stmt} {mi : M (List D)} {px : Pos} (i : Nat) (Γs : α → List Sl) (lp : List D → α → M D) (a0 : α) (hi : RefI c Γ (.Name x px) iter mi) (h0 : Wk Γ (Γs a0))
    (hb : ∀ d ds a, RefB c ((Γs a).set i (.dat d)) body (fun Γ2 m' => ∃ a', Wk Γ2 (Γs a') ∧ m' = lp ds a') (lp (d :: ds) a)) (hrest : ∀ a, RefB c (Γs a) rest Kt (lp [] a)) (hx : c.N[i]? = some x := by rfl)
    (hs : CanSet c x := by first | exact ⟨.inl rfl, .inl rfl⟩ | exact ⟨.inl rfl, .inr rfl⟩ | exact ⟨.inr rfl, .inl rfl⟩) (fs : FoldsNot iter := by intro _ _; rfl) : RefB c Γ (.For (.Name x px) iter body [] pos :: rest) Kt (do let ds ← mi; lp ds a0) :=
  rb_for Γs lp a0 hi h0 (tg_name i hx hs) (fun d ds a h => by cases h) (fun d ds a Γ' h => by
    cases h
    exact hb d ds a) hrest fs
/-- two names -/
theorem rb_for2 {α : Type} {iter : Expr} {body : List Stmt} {mi : M (List D)} {px py pt : Pos} {k : Nat} (i j : Nat) (Γs : α → List Sl) (lp : List D → α → M D) (bd : List D → α → D → D → M D) (a0 : α) (hlp : ∀ d ds a, lp (d :: ds) a = two (bd ds a) d) (hi : RefI c Γ (.Tuple [.Name x px, .Name y py] k pt) iter mi) (h0 : Wk Γ (Γs a0))
    (hb : ∀ d e ds a, RefB c (((Γs a).set i (.dat d)).set j (.dat e)) body (fun Γ2 m' => ∃ a', Wk Γ2 (Γs a') ∧ m' = lp ds a') (bd ds a d e)) (hrest : ∀ a, RefB c (Γs a) rest Kt (lp [] a)) (hx : c.N[i]? = some x := by rfl) (hy : c.N[j]? = some y := by rfl)
    (hs : CanSet c x := by first | exact ⟨.inl rfl, .inl rfl⟩ | exact ⟨.inl rfl, .inr rfl⟩ | exact ⟨.inr rfl, .inl rfl⟩) (hs' : CanSet c y := by first | exact ⟨.inl rfl, .inl rfl⟩ | exact ⟨.inl rfl, .inr rfl⟩ | exact ⟨.inr rfl, .inl rfl⟩) (fs : FoldsNot iter := by intro _ _; rfl) :
    RefB c Γ (.For (.Tuple [.Name x px, .Name y py] k pt) iter body [] pos :: rest) Kt (do let ds ← mi; lp ds a0) := by
  refine rb_for Γs lp a0 hi h0 (tg_two i j hx hy hs hs') (fun d ds a h => ?_) (fun d ds a Γ' h => ?_) hrest fs
  · rw [hlp]
    unfold sl2 at h
    split at h
    · cases h
    · rename_i hn
      show two (bd ds a) d = stuck
      unfold two
      split
      · rename_i u v
        exact absurd rfl (hn u v)
      · rfl
  · rw [hlp]
    unfold sl2 at h
    split at h
    · cases h
      exact hb _ _ ds a
    · cases h
/-- while: lp by fuel and the state -/
theorem rb_while {α : Type} {cnd : Expr} {body : List Stmt} (Γs : α → List Sl) (lp : Nat → α → M D) (n0 : Nat) (a0 : α) {mt : α → M Bool} {mb : Nat → α → M D} {mr : α → M D} (h0 : Wk Γ (Γs a0)) (hz : ∀ a, lp 0 a = stuck) (hs : ∀ n a, lp (n + 1) a = (do let k ← mt a; if k = true then mb n a else mr a))
    (ht : ∀ a, RefT c (Γs a) cnd (mt a)) (hb : ∀ n a, RefB c (Γs a) body (fun Γ2 m' => ∃ a', Wk Γ2 (Γs a') ∧ m' = lp n a') (mb n a)) (hrest : ∀ a, RefB c (Γs a) rest Kt (mr a)) : RefB c Γ (.While cnd body [] pos :: rest) Kt (lp n0 a0) := by
  intro B S σ H os D Φ Ψ st hacc hr hx hn
  refine ⟨tSeq (tWhile (WT c cnd) (WSs c body)) (WSs c rest), fun X hX => pss_cons (ps_while hX.pass (pt_W hX cnd) (pss_W hX body)) (pss_W hX rest), ?_⟩
  refine ⟨fun m σ2 H2 => ∃ a S2 os2, St c B (Γs a) S2 σ2 H2 os2 ∧ Same (frz H os) (frz H2 os2) ∧ (lp m a S2).acc Φ Ψ, ⟨n0, a0, S, os, st.wk h0, fun _ _ z => z, hacc⟩, ?_⟩
  rintro m σ2 H2 ⟨a, S2, os2, st2, sm, q2⟩
  cases m with
  | zero =>
    rw [hz] at q2
    exact q2.elim
  | succ n =>
    rw [hs] at q2
    refine ht a B S2 σ2 H2 os2 _ st2 (acc_mono (acc_bind q2) (fun k S3 q3 H3 a3 => ?_) (postX_of hx st2.co))
    have st3 := st2.step a3
    cases k with
    | true =>
      refine ⟨fun σ' H' => ∃ a S2 os2, St c B (Γs a) S2 σ' H' os2 ∧ Same (frz H os) (frz H' os2) ∧ (lp n a S2).acc Φ Ψ, fun σ' H' p' => ⟨n, Nat.lt_succ_self n, p'⟩, hb n a B S3 σ2 H3 os2 _ Φ Ψ st3 q3 hr hx ?_⟩
      rintro Γ2 m' S' σ4 H4 os4 ⟨a', hw, rfl⟩ h2 h3 h4
      exact ⟨a', S', os4, h2.wk hw, strans sm (strans (st2.co.frz a3) h3), h4⟩
    | false =>
      exact hrest a B S3 σ2 H3 os2 D Φ Ψ st3 q3 hr hx fun Γ' m' S' σ' H' os' h1 h2 h3 h4 => hn Γ' m' S' σ' H' os' h1 h2 (strans sm (strans (st2.co.frz a3) h3)) h4
end
end DL
/-! # DL, thirteenth part: from a body to a def; the words that the printer writes. -/
namespace DL
open PySem PySem.Spec L2
def slA : Ar → Sl
  | .dat d => .dat d
  | .drw => .drw
  | .giv ns => .giv ns
def slots (as : List Ar) (n : Nat) : List Sl := as.map slA ++ List.replicate (n - as.length) .un
/-- a def's context -/
abbrev cOf (e : Wd) (N : List Str) (sc : Scope) (k : Nat) (W : XK) : CP := ⟨e, N, sc, k, W, fun _ => true, none⟩
/-- of a def that makes lambdas -/
abbrev cOfL (e : Wd) (N : List Str) (sc : Scope) (k : Nat) (W : XK) (q : Str) (c : Addr) : CP := ⟨e, N, sc, k, W, fun _ => true, some (q ++ ".<locals>.", c)⟩
abbrev kEnd : List Sl → M D → Prop := fun _ m => m = pure .none
section
variable {K : PySem.W.Frag} {mA : MA} {os : List Addr} {H : Hp}
theorem start_sl {B : Bs} {N : List Str} : ∀ {as : List Ar} {vs : List V} (n : Nat) (i : Nat) (s : Sl), ArAll K B.mA os H as vs → (as.map slA ++ List.replicate n .un)[i]? = some s → SlOk K B H os (vs.map some ++ List.replicate n none)[i]? s
  | [], _, n, i, s, h, e => by
    cases (show _ = [] from h)
    rw [List.map_nil, List.nil_append, List.getElem?_replicate] at e
    split at e
    · cases e; trivial
    · cases e
  | a :: as, _, n, 0, s, ⟨v, r, h1, h2, h3⟩, e => by
    subst h1
    cases e
    cases a with
    | dat d => exact ⟨v, rfl, h2⟩
    | drw => obtain ⟨m, q1, q2⟩ := h2; exact ⟨m, q1, by rw [q2]; rfl⟩
    | giv ns => obtain ⟨b, q1, q2⟩ := h2; exact ⟨b, by rw [q1]; rfl, q2⟩
  | a :: as, _, n, i + 1, s, ⟨v, r, h1, h2, h3⟩, e => by
    subst h1
    exact start_sl (B := B) (N := N) n i s h3 e
theorem slots_own {as : List Ar} {n i : Nat} {ds : List D} : (slots as n)[i]? ≠ some (.own ds) := fun e => by
  unfold slots at e
  rcases List.mem_append.mp (List.mem_of_getElem? e) with z | z
  · obtain ⟨a, _, q⟩ := List.mem_map.mp z
    cases a <;> cases q
  · cases (List.mem_replicate.mp z).2
/-- a def whose body is its mirror keeps its promise -/
theorem fn_ok {e : Wd} {x qual : Str} {params : Arguments} {body : List Stmt} {scope : Scope} {dvs : List V} {f : Addr} {fd : FuncData} {N ps : List Str} {np k : Nat} {g : Mr} (F : FunD e.K x qual params body scope dvs [] f fd) (S : FnScope N ps scope) (ar : Arity g np) (hnp : ps.length = np)
    (hb : ∀ (as : List Ar) (W : XK), as.length = np → RefB (cOf e N scope k W) (slots as N.length) body kEnd (g as)) : FnOk e.P e.w e.K e.mg e.base (L2.CX e.P e.w) (k + 1) f fd ps (spD e.K e.mg e.T np g) := by
  refine F.ok S (fun vs H Q E h => ?_) fun cdv A outer s H vs Q E hr h => ?_
  · obtain ⟨mA, os, S', as, hl, _⟩ := h
    rw [hl, hnp]
  · obtain ⟨mA, os, S', as, hl, hm, hms, hdom, htab, har, hacc⟩ := h
    have hal : as.length = np := ar _ _ _ _ hacc
    have hle : np ≤ N.length := by
      have z := congrArg List.length S.pre
      rw [List.length_take, hnp] at z
      omega
    have hX : (cOf e N scope k E).Has (cxOf (L2.CX e.P e.w) e.P e.w e.K e.mg e.base N qual scope f cdv A outer s H E) := ⟨rfl, rfl, rfl, rfl, rfl, rfl, S.nd, rfl, hr, rfl, passes_of rfl, takes_of rfl rfl rfl rfl, (fun _ _ => rfl), fun q h => (by cases h)⟩
    have co : Co e.T ⟨H, os, mA⟩ S' H os := ⟨fun a h => h, fun a ha hb => absurd ha hb, .refl, hm, hms, hdom, htab⟩
    have st : St (cOf e N scope k E) ⟨H, os, mA⟩ (slots as N.length) S' (L2.start N vs) H os := by
      refine ⟨co, ?_, fun i s e => ?_, fun i j ds es a e1 => absurd e1 slots_own⟩
      · unfold slots L2.start
        rw [List.length_append, List.length_append, List.length_map, List.length_map, List.length_replicate, List.length_replicate, har.length]
      · unfold slots at e
        unfold L2.start
        rw [har.length]
        exact start_sl (B := ⟨H, os, mA⟩) (N := N) _ i s har e
    obtain ⟨t, ht, hh⟩ := hb as E hal ⟨H, os, mA⟩ S' (L2.start N vs) H os { nx := fun _ H' => Q .non H', rt := Q } _ _ st hacc (fun d S1 v H1 q a hd => q v H1 a hd) (fun cn n x S1 C dd vx H1 q h1 h2 h3 h4 => q C dd vx H1 h1 h2 h3 h4) (fun Γ' m' S1 σ' H1 os' hm st1 sm q => by
      subst hm
      exact (show ∀ v H', Aft e.T mA H H' S1 → Da e.K (frz H' os) .none v → Q v H' from q) .non H1 ⟨st1.co.nx, st1.co.mst, st1.co.tab⟩ rfl)
    exact ⟨t, ht _ hX, hh⟩
theorem envOfC_qual {q : Str} {sc : Scope} {L f : Addr} {cd : Value} : (PyProof.Rows.envOfC q sc L f cd).qual = q ++ ".<locals>." := rfl
/-- .. of a def that makes lambdas: its code object is told -/
theorem fn_okL {e : Wd} {x qual : Str} {params : Arguments} {body : List Stmt} {scope : Scope} {dvs : List V} {f : Addr} {fd : FuncData} {N ps : List Str} {np k : Nat} {g : Mr} (F : FunD e.K x qual params body scope dvs [] f fd) (S : FnScope N ps scope) (ar : Arity g np) (hnp : ps.length = np) {ca : Addr} (hca : fd.code = .ref ca)
    (hb : ∀ (as : List Ar) (W : XK), as.length = np → RefB (cOfL e N scope k W qual ca) (slots as N.length) body kEnd (g as)) : FnOk e.P e.w e.K e.mg e.base (L2.CX e.P e.w) (k + 1) f fd ps (spD e.K e.mg e.T np g) := by
  obtain ⟨oc, od, dV, kV, doc, pm, an, cdv, ct, osl, rfl, lk, hcd, _, _⟩ := F.ex
  have hca : cdv = .ref ca := hca
  subst hca
  refine fn_of lk hcd S (fun vs H Q E h => ?_) fun A outer s H vs Q E hr h => ?_
  · obtain ⟨mA, os, S', as, hl, _⟩ := h
    rw [hl, hnp]
  · obtain ⟨mA, os, S', as, hl, hm, hms, hdom, htab, har, hacc⟩ := h
    have hal : as.length = np := ar _ _ _ _ hacc
    have hX : (cOfL e N scope k E qual ca).Has (cxOf (L2.CX e.P e.w) e.P e.w e.K e.mg e.base N qual scope f (.ref ca) A outer s H E) := ⟨rfl, rfl, rfl, rfl, rfl, rfl, S.nd, rfl, hr, rfl, passes_of rfl, takes_of rfl rfl rfl rfl, (fun _ _ => rfl), fun q h => (by have h : some (qual ++ ".<locals>.", ca) = some q := h; cases h; exact ⟨rfl, rfl⟩)⟩
    have co : Co e.T ⟨H, os, mA⟩ S' H os := ⟨fun a h => h, fun a ha hb => absurd ha hb, .refl, hm, hms, hdom, htab⟩
    have hle : np ≤ N.length := by
      have z := congrArg List.length S.pre
      rw [List.length_take, hnp] at z
      omega
    have st : St (cOfL e N scope k E qual ca) ⟨H, os, mA⟩ (slots as N.length) S' (L2.start N vs) H os := by
      refine ⟨co, ?_, fun i s e => ?_, fun i j ds es a e1 => absurd e1 slots_own⟩
      · unfold slots L2.start
        rw [List.length_append, List.length_append, List.length_map, List.length_map, List.length_replicate, List.length_replicate, har.length]
      · unfold slots at e
        unfold L2.start
        rw [har.length]
        exact start_sl (B := ⟨H, os, mA⟩) (N := N) _ i s har e
    obtain ⟨t, ht, hh⟩ := hb as E hal ⟨H, os, mA⟩ S' (L2.start N vs) H os { nx := fun _ H' => Q .non H', rt := Q } _ _ st hacc (fun d S1 v H1 q a hd => q v H1 a hd) (fun cn n x S1 C dd vx H1 q h1 h2 h3 h4 => q C dd vx H1 h1 h2 h3 h4) (fun Γ' m' S1 σ' H1 os' hm st1 sm q => by
      subst hm
      exact (show ∀ v H', Aft e.T mA H H' S1 → Da e.K (frz H' os) .none v → Q v H' from q) .non H1 ⟨st1.co.nx, st1.co.mst, st1.co.tab⟩ rfl)
    exact ⟨t, ht _ hX, hh⟩
theorem fn_ok1 {e : Wd} {x qual : Str} {params : Arguments} {body : List Stmt} {scope : Scope} {dvs : List V} {f : Addr} {fd : FuncData} {N ps : List Str} {k : Nat} {g : D → M D} (F : FunD e.K x qual params body scope dvs [] f fd) (S : FnScope N ps scope) (hnp : ps.length = 1)
    (hb : ∀ (a : D) (W : XK), RefB (cOf e N scope k W) (slots [.dat a] N.length) body kEnd (g a)) : FnOk e.P e.w e.K e.mg e.base (L2.CX e.P e.w) (k + 1) f fd ps (spD e.K e.mg e.T 1 (fn1 g)) :=
  fn_ok F S ar_fn1 hnp fun as W h => by
    match as, h with
    | [.dat a], _ => exact hb a W
    | [.drw], _ => exact fun B S σ H os D Φ Ψ st ha => ha.elim
    | [.giv _], _ => exact fun B S σ H os D Φ Ψ st ha => ha.elim
theorem fn_okG {e : Wd} {x qual : Str} {params : Arguments} {body : List Stmt} {scope : Scope} {dvs : List V} {f : Addr} {fd : FuncData} {N ps : List Str} {k : Nat} {g : List Int → M D} (F : FunD e.K x qual params body scope dvs [] f fd) (S : FnScope N ps scope) (hnp : ps.length = 1)
    (hb : ∀ (a : List Int) (W : XK), RefB (cOf e N scope k W) (slots [.giv a] N.length) body kEnd (g a)) : FnOk e.P e.w e.K e.mg e.base (L2.CX e.P e.w) (k + 1) f fd ps (spD e.K e.mg e.T 1 (fg1 g)) :=
  fn_ok F S ar_fg1 hnp fun as W h => by
    match as, h with
    | [.giv a], _ => exact hb a W
    | [.dat _], _ => exact fun B S σ H os D Φ Ψ st ha => ha.elim
    | [.drw], _ => exact fun B S σ H os D Φ Ψ st ha => ha.elim
theorem fn_ok2 {e : Wd} {x qual : Str} {params : Arguments} {body : List Stmt} {scope : Scope} {dvs : List V} {f : Addr} {fd : FuncData} {N ps : List Str} {k : Nat} {g : D → D → M D} (F : FunD e.K x qual params body scope dvs [] f fd) (S : FnScope N ps scope) (hnp : ps.length = 2)
    (hb : ∀ (a b : D) (W : XK), RefB (cOf e N scope k W) (slots [.dat a, .dat b] N.length) body kEnd (g a b)) : FnOk e.P e.w e.K e.mg e.base (L2.CX e.P e.w) (k + 1) f fd ps (spD e.K e.mg e.T 2 (fn2 g)) :=
  fn_ok F S ar_fn2 hnp fun as W h => by
    match as, h with
    | [.dat a, .dat b], _ => exact hb a b W
    | [.drw, _], _ => exact fun B S σ H os D Φ Ψ st ha => ha.elim
    | [.giv _, _], _ => exact fun B S σ H os D Φ Ψ st ha => ha.elim
    | [.dat _, .drw], _ => exact fun B S σ H os D Φ Ψ st ha => ha.elim
    | [.dat _, .giv _], _ => exact fun B S σ H os D Φ Ψ st ha => ha.elim
theorem fn_ok3 {e : Wd} {x qual : Str} {params : Arguments} {body : List Stmt} {scope : Scope} {dvs : List V} {f : Addr} {fd : FuncData} {N ps : List Str} {k : Nat} {g : D → D → D → M D} (F : FunD e.K x qual params body scope dvs [] f fd) (S : FnScope N ps scope) (hnp : ps.length = 3)
    (hb : ∀ (a b d : D) (W : XK), RefB (cOf e N scope k W) (slots [.dat a, .dat b, .dat d] N.length) body kEnd (g a b d)) : FnOk e.P e.w e.K e.mg e.base (L2.CX e.P e.w) (k + 1) f fd ps (spD e.K e.mg e.T 3 (fn3 g)) :=
  fn_ok F S ar_fn3 hnp fun as W h => by
    match as, h with
    | [.dat a, .dat b, .dat d], _ => exact hb a b d W
    | [.drw, _, _], _ => exact fun B S σ H os D Φ Ψ st ha => ha.elim
    | [.giv _, _, _], _ => exact fun B S σ H os D Φ Ψ st ha => ha.elim
    | [.dat _, .drw, _], _ => exact fun B S σ H os D Φ Ψ st ha => ha.elim
    | [.dat _, .giv _, _], _ => exact fun B S σ H os D Φ Ψ st ha => ha.elim
    | [.dat _, .dat _, .drw], _ => exact fun B S σ H os D Φ Ψ st ha => ha.elim
    | [.dat _, .dat _, .giv _], _ => exact fun B S σ H os D Φ Ψ st ha => ha.elim
theorem fn_okm0 {e : Wd} {x qual : Str} {params : Arguments} {body : List Stmt} {scope : Scope} {dvs : List V} {f : Addr} {fd : FuncData} {N ps : List Str} {k : Nat} {g : M D} (F : FunD e.K x qual params body scope dvs [] f fd) (S : FnScope N ps scope) (hnp : ps.length = 1)
    (hb : ∀ (W : XK), RefB (cOf e N scope k W) (slots [.drw] N.length) body kEnd g) : FnOk e.P e.w e.K e.mg e.base (L2.CX e.P e.w) (k + 1) f fd ps (spD e.K e.mg e.T 1 (fm0 g)) :=
  fn_ok F S ar_fm0 hnp fun as W h => by
    match as, h with
    | [.drw], _ => exact hb W
    | [.dat a], _ => exact fun B S σ H os D Φ Ψ st ha => ha.elim
    | [.giv _], _ => exact fun B S σ H os D Φ Ψ st ha => ha.elim
theorem fn_okm1 {e : Wd} {x qual : Str} {params : Arguments} {body : List Stmt} {scope : Scope} {dvs : List V} {f : Addr} {fd : FuncData} {N ps : List Str} {k : Nat} {g : D → M D} (F : FunD e.K x qual params body scope dvs [] f fd) (S : FnScope N ps scope) (hnp : ps.length = 2)
    (hb : ∀ (a : D) (W : XK), RefB (cOf e N scope k W) (slots [.drw, .dat a] N.length) body kEnd (g a)) : FnOk e.P e.w e.K e.mg e.base (L2.CX e.P e.w) (k + 1) f fd ps (spD e.K e.mg e.T 2 (fm1 g)) :=
  fn_ok F S ar_fm1 hnp fun as W h => by
    match as, h with
    | [.drw, .dat a], _ => exact hb a W
    | [.dat _, _], _ => exact fun B S σ H os D Φ Ψ st ha => ha.elim
    | [.giv _, _], _ => exact fun B S σ H os D Φ Ψ st ha => ha.elim
    | [.drw, .drw], _ => exact fun B S σ H os D Φ Ψ st ha => ha.elim
    | [.drw, .giv _], _ => exact fun B S σ H os D Φ Ψ st ha => ha.elim
theorem fn_okm2 {e : Wd} {x qual : Str} {params : Arguments} {body : List Stmt} {scope : Scope} {dvs : List V} {f : Addr} {fd : FuncData} {N ps : List Str} {k : Nat} {g : D → D → M D} (F : FunD e.K x qual params body scope dvs [] f fd) (S : FnScope N ps scope) (hnp : ps.length = 3)
    (hb : ∀ (a b : D) (W : XK), RefB (cOf e N scope k W) (slots [.drw, .dat a, .dat b] N.length) body kEnd (g a b)) : FnOk e.P e.w e.K e.mg e.base (L2.CX e.P e.w) (k + 1) f fd ps (spD e.K e.mg e.T 3 (fm2 g)) :=
  fn_ok F S ar_fm2 hnp fun as W h => by
    match as, h with
    | [.drw, .dat a, .dat b], _ => exact hb a b W
    | [.dat _, _, _], _ => exact fun B S σ H os D Φ Ψ st ha => ha.elim
    | [.giv _, _, _], _ => exact fun B S σ H os D Φ Ψ st ha => ha.elim
    | [.drw, .drw, _], _ => exact fun B S σ H os D Φ Ψ st ha => ha.elim
    | [.drw, .giv _, _], _ => exact fun B S σ H os D Φ Ψ st ha => ha.elim
    | [.drw, .dat _, .drw], _ => exact fun B S σ H os D Φ Ψ st ha => ha.elim
    | [.drw, .dat _, .giv _], _ => exact fun B S σ H os D Φ Ψ st ha => ha.elim
/-- a def known by name -/
theorem kn_all {e : Wd} {x qual x' : Str} {params : Arguments} {body : List Stmt} {scope : Scope} {f : Addr} {fd : FuncData} {ps : List Str} {np k : Nat} {g : Mr} (F : FunD e.K x' qual params body scope [] [] f fd) (ok : FnOk e.P e.w e.K e.mg e.base (L2.CX e.P e.w) k f fd ps (spD e.K e.mg e.T np g)) (ar : Arity g np) (hm : e.mg x = some (.ref f))
    (h : ∀ (kV doc pm : Value) (an : Option Addr) (cdv ct : Value) (us : List Value), us.length = ps.length → bindArgs (PySem.W.fnOf x' qual params body scope .none kV doc pm an cdv ct) ⟨us, []⟩ = pure (ps.zip us)) : Kn e x k np g [] :=
  ⟨ar, f, fd, ps, [], [], ok, hm, F.kp, F.bindsN h, .nil, fun _ => rfl⟩
/-- .. with defaults behind the first j -/
theorem kn_dfl {e : Wd} {x qual x' : Str} {params : Arguments} {body : List Stmt} {scope : Scope} {dvs : List V} {f : Addr} {fd : FuncData} {ps : List Str} {np k : Nat} {g : Mr} {dD : List D} (n j : Nat) (F : FunD e.K x' qual params body scope dvs [] f fd) (ok : FnOk e.P e.w e.K e.mg e.base (L2.CX e.P e.w) k f fd ps (spD e.K e.mg e.T np g)) (ar : Arity g np) (hm : e.mg x = some (.ref f)) (hd : dvs ≠ []) (hn : n + (dvs.length - j) = ps.length)
    (h : ∀ (T : Addr) (kV doc pm : Value) (an : Option Addr) (cdv ct : Value) (us its : List Value), us.length = n → its.length = dvs.length → ∃ k, bindArgs (PySem.W.fnOf x' qual params body scope (.ref T) kV doc pm an cdv ct) ⟨us, []⟩ = seqItems? (.ref T) >>= k ∧ k (some its.toArray) = pure (ps.zip (us ++ its.drop j))) (hD : ∀ G, DaAll e.K G dD (dvs.drop j)) : Kn e x k np g dD := by
  obtain ⟨ds, h1, h2⟩ := F.binds1 n j hd hn h
  exact ⟨ar, f, fd, ps, ds, dvs.drop j, ok, hm, F.kp, h2, h1, hD⟩
/-- .. by keywords alone, k of them, in any order -/
theorem knk_all {e : Wd} {x qual x' : Str} {params : Arguments} {body : List Stmt} {scope : Scope} {f : Addr} {fd : FuncData} {ps : List Str} {np k : Nat} {g : Mr} {ks : List Str} {pi : {α : Type} → List α → List α} (F : FunD e.K x' qual params body scope [] [] f fd) (ok : FnOk e.P e.w e.K e.mg e.base (L2.CX e.P e.w) k f fd ps (spD e.K e.mg e.T np g)) (ar : Arity g np) (hm : e.mg x = some (.ref f))
    (h : ∀ (kV doc pm : Value) (an : Option Addr) (cdv ct : Value) (ws : List Value), ws.length = ks.length → bindArgs (PySem.W.fnOf x' qual params body scope .none kV doc pm an cdv ct) ⟨[], ks.zip ws⟩ = pure (ps.zip (pi ws)))
    (hV : ∀ {vs : List V} {us : List Value}, Vals vs us → Vals (pi vs) (pi us)) (hA : ∀ mA os H bs zs, ArAll e.K mA os H bs zs → zs.length = ks.length → ArAll e.K mA os H (pi bs) (pi zs) ∧ (pi zs).length = np) : KnK e x k np g ks pi := by
  obtain ⟨oc, od, dV, kV, doc, pm, an, cdv, ct, osl, rfl, lk, hcd, hD, hK⟩ := F.ex
  refine ⟨ar, f, _, ps, fun _ ws => pi ws, fun _ zs => pi zs, ok, hm, F.kp, ⟨fun s us ws X hu hw => ?_, fun _ r => hV r⟩, fun mA os H bs zs h2 h4 => hA mA os H bs zs h2 h4⟩
  rcases hD with ⟨_, rfl⟩ | ⟨e, _⟩
  · obtain rfl := List.eq_nil_of_length_eq_zero hu
    exact BindsTo.of_looks fun M => .of_pure (h kV doc pm an cdv ct ws hw)
  · exact absurd rfl e
end
/-! ### words -/
/-- built-in names not bound by the program -/
structure Bi (e : Wd) : Prop where
  isinstance : e.mg ("isinstance" : Str) = none
  int : e.mg ("int" : Str) = none
  bool : e.mg ("bool" : Str) = none
  str : e.mg ("str" : Str) = none
  tuple : e.mg ("tuple" : Str) = none
  list : e.mg ("list" : Str) = none
  len : e.mg ("len" : Str) = none
  all : e.mg ("all" : Str) = none
  zip : e.mg ("zip" : Str) = none
  abs : e.mg ("abs" : Str) = none
  max : e.mg ("max" : Str) = none
  min : e.mg ("min" : Str) = none
  range : e.mg ("range" : Str) = none
  sum : e.mg ("sum" : Str) = none
  reversed : e.mg ("reversed" : Str) = none
  enumerate : e.mg ("enumerate" : Str) = none
section
variable {c : CP} {Γ : List Sl} {e a b d : Expr} {es rest : List Expr} {pos p : Pos} {x : Str} {ma mb md : M D} {ta tb : M Bool} {ml : M (List D)}
theorem e_add (ha : RefE c Γ a ma) (hb : RefE c Γ b mb) : RefE c Γ (.BinOp a .Add b pos) (do let x ← ma; let y ← mb; lift (addD x y)) := re_bin (fun X hX => by rw [← hX.K]; exact opD_add) ha hb
theorem e_sub (ha : RefE c Γ a ma) (hb : RefE c Γ b mb) : RefE c Γ (.BinOp a .Sub b pos) (do let x ← ma; let y ← mb; lift (subD x y)) := re_bin (fun X hX => by rw [← hX.K]; exact opD_sub) ha hb
theorem e_mul (ha : RefE c Γ a ma) (hb : RefE c Γ b mb) : RefE c Γ (.BinOp a .Mult b pos) (do let x ← ma; let y ← mb; lift (mulD x y)) := re_bin (fun X hX => by rw [← hX.K]; exact opD_mul) ha hb
theorem e_fdiv (ha : RefE c Γ a ma) (hb : RefE c Γ b mb) : RefE c Γ (.BinOp a .FloorDiv b pos) (do let x ← ma; let y ← mb; lift (fdivD x y)) := re_bin (fun X hX => by rw [← hX.K]; exact opD_fdiv) ha hb
theorem e_mod (ha : RefE c Γ a ma) (hb : RefE c Γ b mb) : RefE c Γ (.BinOp a .Mod b pos) (do let x ← ma; let y ← mb; lift (modD x y)) := re_bin (fun X hX => by rw [← hX.K]; exact opD_mod) ha hb
theorem e_pow (ha : RefE c Γ a ma) (hb : RefE c Γ b mb) : RefE c Γ (.BinOp a .Pow b pos) (do let x ← ma; let y ← mb; lift (powD x y)) := re_bin (fun X hX => by rw [← hX.K]; exact opD_pow) ha hb
theorem e_neg (ha : RefE c Γ a ma) : RefE c Γ (.UnaryOp .USub a pos) (do let x ← ma; lift (negD x)) := re_un (fun X hX => by rw [← hX.K]; exact unD_neg) ha
def o_eq {c : CP} : ∀ X, c.Has X → OpR X (compareOp .Eq) (rD c.K eqD) := fun X hX => by rw [← hX.K]; exact opD_eq hX.room.units
def o_ne {c : CP} : ∀ X, c.Has X → OpR X (compareOp .NotEq) (rD c.K neD') := fun X hX => by rw [← hX.K]; exact opD_ne hX.room.units
def o_lt {c : CP} : ∀ X, c.Has X → OpR X (compareOp .Lt) (rD c.K ltD) := fun X hX => by rw [← hX.K]; exact opD_lt hX.room.units
def o_gt {c : CP} : ∀ X, c.Has X → OpR X (compareOp .Gt) (rD c.K gtD) := fun X hX => by rw [← hX.K]; exact opD_gt hX.room.units
def o_le {c : CP} : ∀ X, c.Has X → OpR X (compareOp .LtE) (rD c.K leD) := fun X hX => by rw [← hX.K]; exact opD_le hX.room.units
def o_ge {c : CP} : ∀ X, c.Has X → OpR X (compareOp .GtE) (rD c.K geD) := fun X hX => by rw [← hX.K]; exact opD_ge hX.room.units
def o_in {c : CP} : ∀ X, c.Has X → OpR X (compareOp .In) (rD c.K inD) := fun X hX => by rw [← hX.K]; exact opD_in hX.room.units
def o_notIn {c : CP} : ∀ X, c.Has X → OpR X (compareOp .NotIn) (rD c.K notInD) := fun X hX => by rw [← hX.K]; exact opD_notIn hX.room.units
def o_is {c : CP} : ∀ X, c.Has X → OpR X (compareOp .Is) (rD c.K isD) := fun X hX => by rw [← hX.K]; exact opD_is
def o_isNot {c : CP} : ∀ X, c.Has X → OpR X (compareOp .IsNot) (rD c.K isNotD) := fun X hX => by rw [← hX.K]; exact opD_isNot
/-- a module's constant -/
theorem re_glo {v : V} {u : Value} {d : D} (hm : c.mg x = some u) (r : RelV v u) (hd : ∀ G, Da c.K G d v) (hg : c.sc.names.lookup x = some .globalImplicit := by rfl) (hdb : (x == ("__debug__" : Str)) = false := by decide) : RefE c Γ (.Name x pos) (pure d) :=
  re_con (fun X hX => pe_glob (gl_of hX hg) (by rw [hX.mg]; exact hm) r hdb) hd
/-- what a module's name stands for -/
def Glo (e : Wd) (x : Str) (d : D) : Prop := ∃ (v : V) (u : Value), e.mg x = some u ∧ RelV v u ∧ ∀ G, Da e.K G d v
theorem re_glob {d : D} (h : Glo c.toWd x d) (hg : c.sc.names.lookup x = some .globalImplicit := by rfl) (hdb : (x == ("__debug__" : Str)) = false := by decide) : RefE c Γ (.Name x pos) (pure d) := by
  obtain ⟨v, u, h1, h2, h3⟩ := h
  exact re_glo h1 h2 h3 hg hdb
section
variable (bi : Bi c.toWd)
include bi
theorem e_len (ha : RefL c Γ (e :: es) ml) (hg : c.sc.names.lookup ("len" : Str) = some .globalImplicit := by rfl) (hs : NoStar e es := by intro _; rfl) (hpl : NoStars es := by intro _ _; rfl) : RefE c Γ (.Call (.Name "len" p) (e :: es) [] pos) (do let ds ← ml; lift (lenD ds)) :=
  re_callB (id := "len") (fun X hX => by rw [← hX.K]; exact cD_len) bi.len ha hg (by decide +kernel) (by decide) (by decide) hs hpl
theorem e_abs (ha : RefL c Γ (e :: es) ml) (hg : c.sc.names.lookup ("abs" : Str) = some .globalImplicit := by rfl) (hs : NoStar e es := by intro _; rfl) (hpl : NoStars es := by intro _ _; rfl) : RefE c Γ (.Call (.Name "abs" p) (e :: es) [] pos) (do let ds ← ml; lift (absD ds)) :=
  re_callB (id := "abs") (fun X hX => by rw [← hX.K]; exact cD_abs) bi.abs ha hg (by decide +kernel) (by decide) (by decide) hs hpl
theorem e_all (ha : RefL c Γ (e :: es) ml) (hg : c.sc.names.lookup ("all" : Str) = some .globalImplicit := by rfl) (hs : NoStar e es := by intro _; rfl) (hpl : NoStars es := by intro _ _; rfl) : RefE c Γ (.Call (.Name "all" p) (e :: es) [] pos) (do let ds ← ml; lift (allD ds)) :=
  re_callB (id := "all") (fun X hX => by rw [← hX.K]; exact cD_all hX.calm) bi.all ha hg (by decide +kernel) (by decide) (by decide) hs hpl
theorem e_sum (ha : RefL c Γ (e :: es) ml) (hg : c.sc.names.lookup ("sum" : Str) = some .globalImplicit := by rfl) (hs : NoStar e es := by intro _; rfl) (hpl : NoStars es := by intro _ _; rfl) : RefE c Γ (.Call (.Name "sum" p) (e :: es) [] pos) (do let ds ← ml; lift (sumD ds)) :=
  re_callB (id := "sum") (fun X hX => by rw [← hX.K]; exact cD_sum hX.calm) bi.sum ha hg (by decide +kernel) (by decide) (by decide) hs hpl
theorem e_max (ha : RefL c Γ (e :: es) ml) (hg : c.sc.names.lookup ("max" : Str) = some .globalImplicit := by rfl) (hs : NoStar e es := by intro _; rfl) (hpl : NoStars es := by intro _ _; rfl) : RefE c Γ (.Call (.Name "max" p) (e :: es) [] pos) (do let ds ← ml; lift (maxD ds)) :=
  re_callB (id := "max") (fun X hX => by rw [← hX.K]; exact cD_max hX.calm) bi.max ha hg (by decide +kernel) (by decide) (by decide) hs hpl
theorem e_min (ha : RefL c Γ (e :: es) ml) (hg : c.sc.names.lookup ("min" : Str) = some .globalImplicit := by rfl) (hs : NoStar e es := by intro _; rfl) (hpl : NoStars es := by intro _ _; rfl) : RefE c Γ (.Call (.Name "min" p) (e :: es) [] pos) (do let ds ← ml; lift (minD ds)) :=
  re_callB (id := "min") (fun X hX => by rw [← hX.K]; exact cD_min hX.calm) bi.min ha hg (by decide +kernel) (by decide) (by decide) hs hpl
theorem e_intc (ha : RefL c Γ (e :: es) ml) (hg : c.sc.names.lookup ("int" : Str) = some .globalImplicit := by rfl) (hs : NoStar e es := by intro _; rfl) (hpl : NoStars es := by intro _ _; rfl) : RefE c Γ (.Call (.Name "int" p) (e :: es) [] pos) (do let ds ← ml; lift (intD ds)) :=
  re_callTy (T := "int") (fun X hX => by rw [← hX.K]; exact cD_int) bi.int ha hg (by decide +kernel) (by decide) (by decide) hs hpl
theorem e_tuplec (ha : RefL c Γ (e :: es) ml) (hg : c.sc.names.lookup ("tuple" : Str) = some .globalImplicit := by rfl) (hs : NoStar e es := by intro _; rfl) (hpl : NoStars es := by intro _ _; rfl) : RefE c Γ (.Call (.Name "tuple" p) (e :: es) [] pos) (do let ds ← ml; lift (tupleD ds)) :=
  re_callTy (T := "tuple") (fun X hX => by rw [← hX.K]; exact cD_tuple) bi.tuple ha hg (by decide +kernel) (by decide) (by decide) hs hpl
theorem e_listc (ha : RefL c Γ (e :: es) ml) (hg : c.sc.names.lookup ("list" : Str) = some .globalImplicit := by rfl) (hs : NoStar e es := by intro _; rfl) (hpl : NoStars es := by intro _ _; rfl) : RefE c Γ (.Call (.Name "list" p) (e :: es) [] pos) (do let ds ← ml; lift (listD ds)) :=
  re_callTy (T := "list") (fun X hX => by rw [← hX.K]; exact cD_list) bi.list ha hg (by decide +kernel) (by decide) (by decide) hs hpl
theorem e_isint {p2 : Pos} (ha : RefE c Γ e ma) (hg : c.sc.names.lookup ("isinstance" : Str) = some .globalImplicit := by rfl) (hgy : c.sc.names.lookup ("int" : Str) = some .globalImplicit := by rfl) (hs : NoStar e [.Name "int" p2] := by intro _; rfl) : RefE c Γ (.Call (.Name "isinstance" p) [e, .Name "int" p2] [] pos) (do let d ← ma; pure (.bool (PyData.isInt d))) :=
  re_isi (fun X hX => by rw [← hX.K]; exact isi_int) bi.isinstance bi.int ha hg hgy (by decide +kernel) (by decide) (by decide) hs
theorem e_isbool {p2 : Pos} (ha : RefE c Γ e ma) (hg : c.sc.names.lookup ("isinstance" : Str) = some .globalImplicit := by rfl) (hgy : c.sc.names.lookup ("bool" : Str) = some .globalImplicit := by rfl) (hs : NoStar e [.Name "bool" p2] := by intro _; rfl) : RefE c Γ (.Call (.Name "isinstance" p) [e, .Name "bool" p2] [] pos) (do let d ← ma; pure (.bool (PyData.isBool d))) :=
  re_isi (fun X hX => by rw [← hX.K]; exact isi_bool) bi.isinstance bi.bool ha hg hgy (by decide +kernel) (by decide) (by decide) hs
theorem e_isstr {p2 : Pos} (ha : RefE c Γ e ma) (hg : c.sc.names.lookup ("isinstance" : Str) = some .globalImplicit := by rfl) (hgy : c.sc.names.lookup ("str" : Str) = some .globalImplicit := by rfl) (hs : NoStar e [.Name "str" p2] := by intro _; rfl) : RefE c Γ (.Call (.Name "isinstance" p) [e, .Name "str" p2] [] pos) (do let d ← ma; pure (.bool (PyData.isStr d))) :=
  re_isi (fun X hX => by rw [← hX.K]; exact isi_str) bi.isinstance bi.str ha hg hgy (by decide +kernel) (by decide) (by decide) hs
theorem e_istuple {p2 : Pos} (ha : RefE c Γ e ma) (hg : c.sc.names.lookup ("isinstance" : Str) = some .globalImplicit := by rfl) (hgy : c.sc.names.lookup ("tuple" : Str) = some .globalImplicit := by rfl) (hs : NoStar e [.Name "tuple" p2] := by intro _; rfl) : RefE c Γ (.Call (.Name "isinstance" p) [e, .Name "tuple" p2] [] pos) (do let d ← ma; pure (.bool (PyData.isTuple d))) :=
  re_isi (fun X hX => by rw [← hX.K]; exact isi_tuple) bi.isinstance bi.tuple ha hg hgy (by decide +kernel) (by decide) (by decide) hs
theorem e_islist {p2 : Pos} (ha : RefE c Γ e ma) (hg : c.sc.names.lookup ("isinstance" : Str) = some .globalImplicit := by rfl) (hgy : c.sc.names.lookup ("list" : Str) = some .globalImplicit := by rfl) (hs : NoStar e [.Name "list" p2] := by intro _; rfl) : RefE c Γ (.Call (.Name "isinstance" p) [e, .Name "list" p2] [] pos) (do let d ← ma; pure (.bool (PyData.isList d))) :=
  re_isi (fun X hX => by rw [← hX.K]; exact isi_list) bi.isinstance bi.list ha hg hgy (by decide +kernel) (by decide) (by decide) hs
end
end
end DL
/-! # DL, fourteenth part: odds and ends. -/
namespace DL
open PySem PySem.Spec L2
theorem acc_and {α : Type} {r : Res α} {Φ : α → DS → Prop} {Ψ : Str → Str → D → DS → Prop} {P : α → Prop} (h : r.acc Φ Ψ) (hp : ∀ a S, r = .ok a S → P a) : r.acc (fun a S => Φ a S ∧ P a) Ψ := by
  cases r with
  | ok a S => exact ⟨h, hp a S rfl⟩
  | exc c n x S => exact h
  | stuck => exact h
theorem ok_bind {α β : Type} {m : M α} {k : α → M β} {S S' : DS} {b : β} (h : (m >>= k) S = .ok b S') : ∃ a S1, m S = .ok a S1 ∧ k a S1 = .ok b S' := by
  rw [bind_app] at h
  cases e : m S with
  | ok a S1 => rw [e] at h; exact ⟨a, S1, rfl, h⟩
  | exc c n x S1 => rw [e] at h; cases h
  | stuck => rw [e] at h; cases h
theorem kw_len0 : ∀ S as S', (pure [] : M (List Ar)) S = .ok as S' → as.length = 0 := fun S as S' h => by
  have h : Res.ok ([] : List Ar) S = .ok as S' := h
  cases h
  rfl
theorem kw_lenS {m : M D} {ms : M (List Ar)} {n : Nat} (h : ∀ S as S', ms S = .ok as S' → as.length = n) : ∀ S as S', (do let x ← m; let xs ← ms; pure (Ar.dat x :: xs) : M (List Ar)) S = .ok as S' → as.length = n + 1 := fun S as S' e => by
  obtain ⟨x, S1, _, e⟩ := ok_bind e
  obtain ⟨xs, S2, e2, e⟩ := ok_bind e
  have e : Res.ok (Ar.dat x :: xs) S2 = .ok as S' := e
  cases e
  rw [List.length_cons, h _ _ _ e2]
theorem kw_len2 {m1 m2 : M D} : ∀ S Φ Ψ, ((do let x ← m1; let xs ← (do let x ← m2; let xs ← pure []; pure (Ar.dat x :: xs)); pure (Ar.dat x :: xs) : M (List Ar)) S).acc Φ Ψ →
    ((do let x ← m1; let xs ← (do let x ← m2; let xs ← pure []; pure (Ar.dat x :: xs)); pure (Ar.dat x :: xs) : M (List Ar)) S).acc (fun as S' => Φ as S' ∧ as.length = 2) Ψ :=
  fun S Φ Ψ h => acc_and h fun a S' e => kw_lenS (kw_lenS kw_len0) _ _ _ e
theorem kw_len3 {m1 m2 m3 : M D} : ∀ S Φ Ψ, ((do let x ← m1; let xs ← (do let x ← m2; let xs ← (do let x ← m3; let xs ← pure []; pure (Ar.dat x :: xs)); pure (Ar.dat x :: xs)); pure (Ar.dat x :: xs) : M (List Ar)) S).acc Φ Ψ →
    ((do let x ← m1; let xs ← (do let x ← m2; let xs ← (do let x ← m3; let xs ← pure []; pure (Ar.dat x :: xs)); pure (Ar.dat x :: xs)); pure (Ar.dat x :: xs) : M (List Ar)) S).acc (fun as S' => Φ as S' ∧ as.length = 3) Ψ :=
  fun S Φ Ψ h => acc_and h fun a S' e => kw_lenS (kw_lenS (kw_lenS kw_len0)) _ _ _ e
end DL
/-! # DL, fifteenth part: own errors whose __init__ says super().__init__("..") and stores its argument. -/
namespace PySem
namespace OwnE
open PySem.W PySem.Calls PyProof.Rows PySem.HandSPX
/-! ### ValueError.__init__ bound to an exception, called -/
section
variable {prog : Program} {w : World} {A : Around} {E : Value → Shared → Prop} {h : Heap} {g : Array GenState} {d : Drawn} {t : Nat} {os : OsState} {nm q : Str} {C N : Addr} {bs bm bmB : List Value} {hdct ab : Bool} {sn : List Str} {sub : List Value} {col : Option Bool} {dd : Option Addr} {k0 k1 k2 k3 k5 : Option Value}
theorem call_mw {u e t0 : Addr} {rest : List Value} {Q : Value → Shared → Prop} (hC : h.get? C = some (excClassObj nm q C N bs bm hdct sn sub ab col dd k0 k1 k2 k3 k5 "ValueError.__new__")) (he : h.get? e = some (excO C t0))
    (hu : h.get? u = some (kxs_mw "ValueError.__init__" e)) (hz : rest.length ≤ sizeLine) (k : ∀ h' t1, (∀ b o, b ≠ e → h.get? b = some o → h'.get? b = some o) → h'.get? e = some (excO C t1) → Q .none ⟨h', g, d, t, os⟩) :
    wpAny (model prog w) A (call (.ref u) rest) Q E ⟨h, g, d, t, os⟩ := by
  refine wpAny_call (codeAny_of_tree ?_)
  show wpAny _ A.in1 (callAny (.ref u) ⟨rest, []⟩) _ _ _
  simp only [callAny]
  refine wpAny_bind (wpAny_load hu ?_)
  simp only [kxs_mw, show (Value.type "method-wrapper" == Value.type "method" || Value.type "method-wrapper" == Value.type "builtin_function_or_method" || Value.type "method-wrapper" == Value.type "method-wrapper") = true by decide, if_true]
  refine W.KFB.if_so (by decide) (wpAny_bind (ESX.check_bound F.excBase_ValueError hC he rfl (wpAny_bind (wpAny_pure (wpAny_pure ⟨Code.quiet_builtin _ (by decide +kernel), codeAny_builtin F.excBase_ValueError.initEntry ?_⟩)))))
  rw [Around.under_plainId F.excBase_ValueError.init.plain _]; wp_walk
  exact k _ h.objs.size (fun b o hb ho => (Heap.get?_update_other _ _ (Ne.symm hb)).trans (Heap.get?_push_of_some _ ho)) ((Heap.get?_update_self _ (Heap.get?_push_of_some _ he) rfl).trans rfl)
end
/-! ### what the written part says of such a class -/
def initBody (fl : Str) (msg : Str) (c1 : Nat) (q0 q1 q2 q3 q4 q5 r1 r2 r3 r4 : Pos) : List Stmt :=
  [.Expr (.Call (.Attribute (.Call (.Name "super" q0) [] [] q1) "__init__" q2) [.Constant (.str msg) c1 q3] [] q4) q5, .Assign [.Attribute (.Name "self" r1) fl r2] (.Name fl r3) r4]
/-- how the call of super().__init__ is read where it stands -/
def SupCall (msg : Str) (c1 : Nat) (q0 q1 q2 q3 q4 : Pos) : Prop := ∀ env, ∃ pl : Sem Bool, eval (.Call (.Attribute (.Call (.Name "super" q0) [] [] q1) "__init__" q2) [.Constant (.str msg) c1 q3] [] q4) env = (do
      let ov ← attributeBase (.Call (.Name "super" q0) [] [] q1) "__init__" env (eval (.Call (.Name "super" q0) [] [] q1) env)
      standAt q2.atName
      let (f, first) ← holding [ov] (getMethod ov "__init__" pl)
      callWith q4 f first (backTo q4 (starEach [.Constant (.str msg) c1 q3] env)) [])
/-- the text of __init__ -/
structure InitTxt (fl : Str) (params : Arguments) (scope : Scope) : Prop where
  hd : ∃ ar, (params.posonlyargs ++ params.args).head? = some ar ∧ ar.arg = ("self" : Str)
  kind : scope.kind = .function
  co : scope.isCoroutine = false
  gen : scope.isGenerator = false
  nocell : ∀ y ∈ scope.names, y.2 ≠ .cell
  self : scope.names.lookup ("self" : Str) = some .local
  fld : scope.names.lookup fl = some .local
  cls : scope.names.lookup ("__class__" : Str) = some .free
  sup : scope.names.lookup ("super" : Str) = some .globalImplicit
  ne : fl ≠ ("self" : Str)
  dbg : (fl == ("__debug__" : Str)) = false
  bind : ∀ (name qual : Str) (body : List Stmt) (doc pm : Value) (an : Option Addr) (cdv ct : Value) (cc : Addr) (a b : Value), bindArgs (ksFn name qual params body scope .none .none doc pm an cdv ct cc) ⟨[a, b], []⟩ = pure [(("self" : Str), a), (fl, b)]
structure OwnTxt (prog : Program) (K : Frag) (mg : Str → Option Value) (x fl : Str) (C fI : Addr) : Prop where
  gC : mg x = some (.ref C)
  cls : ∃ nm q N bs bm sn sub ab col dd k0 k1 k2 k3 k5, K.lookup C = some (excClassObj nm q C N bs bm true sn sub ab col dd k0 k1 k2 k3 k5 "ValueError.__new__") ∧ refsVE bm = true
  sa : findIn K (.ref C) "__setattr__" = some (some (.builtin "object.__setattr__"))
  ga : findIn K (.ref C) "__getattribute__" = some (some (.builtin "BaseException.__getattribute__"))
  gg : findIn K (.ref C) "__getattr__" = some none
  noN : findIn K (.ref C) fl = some none
  iC : findIn K (.ref C) "__init__" = some (some (.ref fI))
  tC : typeIn K (.ref fI) = some (.type "function")
  kC : keepIn K (.ref C) = true
  exC : subIn K (.ref C) (.type "BaseException") = some true
  veC : subIn K (.ref C) (.type "ValueError") = some true
  meC : mroIn K C (.ref C) = some true
  tyC : typeIn K (.ref C) = some (.type "type")
  hdC : hasDictIn K C = true
  sup : ks_superIn K C C "__init__" = some (some (.builtin "ValueError.__init__"))
  st : nsIn K cStatics "thirdparty.any" = some none
  sg : mg "super" = none
  top : (prog.main.scope.names.lookup ("super" : Str)).isSome = false
  fn : ∃ (oc : Value) (od : Option Addr) (doc pm : Value) (an : Option Addr) (cda : Addr) (ct : Value) (osl : Array (Option Value)) (qual : Str) (params : Arguments) (scope : Scope) (cc : Addr) (msg : Str) (c1 : Nat) (q0 q1 q2 q3 q4 q5 r1 r2 r3 r4 : Pos) (vs : Array Value) (file : Str) (tf : Tok)
    (ccl cl : Value) (cdd cld : Option Addr) (ccs csl : Array (Option Value)), InitTxt fl params scope ∧ SupCall msg c1 q0 q1 q2 q3 q4 ∧
    K.lookup fI = some ⟨oc, od, .func (ksFn "__init__" qual params (initBody fl msg c1 q0 q1 q2 q3 q4 q5 r1 r2 r3 r4) scope .none .none doc pm an (.ref cda) ct cc), osl⟩ ∧ codeIn K (.ref cda) qual = true ∧
    K.lookup cda = some ⟨ccl, cdd, .fields vs, ccs⟩ ∧ vs[2]? = some (.str file tf) ∧ ((prog.main.file : Str) == file) = true ∧ K.lookup cc = some ⟨cl, cld, .cell (some (.ref C)), csl⟩
/-- what __init__ leaves of a fresh exception at x -/
structure InitEnd (h h' : Heap) (x C dx t1 : Addr) (fl : Str) (v : Value) : Prop where
  keep : ∀ b o, b ≠ x → h.get? b = some o → h'.get? b = some o
  obj : h'.get? x = some { cls := .ref C, dict := some dx, data := .fields #[.ref t1, .none, .none, .none, .bool false, .none] }
  dbig : h.objs.size ≤ dx
  dne : dx ≠ x
  ns : h'.Ns1 dx (fun y => if y = fl then some v else none)
section
variable {prog : Program} {w : World} {A : Around} {E : Value → Shared → Prop} {R : Result → Shared → Prop} {s : Shared} {K : Frag} {mg : Str → Option Value} {x fl : Str} {C fI : Addr} {base : Heap}
theorem ldX {M : Model} {s : Shared} {env : Env} {m : Str → Option Value} {x : Str} {pos : Pos} {v : Value} {Q : Value → Shared → Prop} {A : Around} {E : Value → Shared → Prop} (hn : s.heap.Ns env.locals m) (hv : m x = some v) (h : Q v s)
    (hk : env.scope.kind = .function) (hl : env.kindOf x = some .local) (hd : (x == ("__debug__" : Str)) = false) : wpAny M A (eval (.Name x pos) env) Q E s := wpAny_Name (wpAny_loadName_local hk hl hn hv h) hd
theorem quiet_of {env : Env} (h : env.scope.kind = .function) : interactive env = false := by
  unfold interactive
  rw [h]
  rfl
theorem own_init (Mo : L2.Mod K mg base) (bk : ∀ b o, base.get? b = some o → s.heap.get? b = some o) (T : OwnTxt prog K mg x fl C fI) {e t0 : Addr} {v : Value} (hx : s.heap.get? e = some (excO C t0)) (hnx : K.lookup e = none) (hroom : A.depth < recursionLimit)
    (hq : ∀ h' tk dx t1, InitEnd s.heap h' e C dx t1 fl v → R (.ok (.ret .none)) { s with heap := h', toks := tk }) : codeAny (model prog w) A (.call (.ref fI) ⟨[.ref e, v], []⟩) R s := by
  obtain ⟨oc, od, doc, pm, an, cda, ct, osl, qual, params, scope, cc, msg, c1, q0, q1, q2, q3, q4, q5, r1, r2, r3, r4, vs, file, tf, ccl, cl, cdd, cld, ccs, csl, S, hSC, ho, hcd, hcode, hvs, hfile, hcell⟩ := T.fn
  obtain ⟨nm, q, N, bs, bm, sn, sub, ab, col, dd, k0, k1, k2, k3, k5, hC, hbm⟩ := T.cls
  obtain ⟨ar, har, har2⟩ := S.hd
  have hcl : clsIn K C = some { name := nm, bases := bs, mro := .ref C :: bm, ns := N, qualname := q, hasDict := true, slotNames := sn, subclasses := sub, abstract := ab, collection := col, hasDel := false } := by unfold clsIn; rw [hC] <;> rfl
  have X : K.In s.heap := Mo.kin.keeps bk
  refine ks_codeAny_call_defAt (fd := ksFn "__init__" qual params (initBody fl msg c1 q0 q1 q2 q3 q4 q5 r1 r2 r3 r4) scope .none .none doc pm an (.ref cda) ct cc) (body := initBody fl msg c1 q0 q1 q2 q3 q4 q5 r1 r2 r3 r4) (binds := [(("self" : Str), .ref e), (fl, v)]) hroom (X _ _ ho) rfl
    (Mo.nolimit.keeps bk) (codeRec_of X hcd) rfl (BindsTo.of_eq (S.bind _ _ _ _ _ _ _ _ _ _ _)) S.nocell (fun y hy => ?_) (fun h₁ hns hk => ?_) S.co S.gen S.kind
  · rcases List.mem_cons.mp hy with z | z
    · rw [z]; exact S.self
    · rw [List.mem_singleton.mp z]; exact S.fld
  have X₁ : K.In h₁ := X.keeps hk
  have bk₁ : ∀ b o, base.get? b = some o → h₁.get? b = some o := fun b o z => hk b o (bk b o z)
  have hx₁ := hk _ _ hx
  have mself : ([(("self" : Str), Value.ref e), (fl, v)] : List (Str × Value)).reverse.lookup ("self" : Str) = some (.ref e) := by
    show List.lookup ("self" : Str) [(fl, v), (("self" : Str), Value.ref e)] = _
    have z : (("self" : Str) == fl) = false := by simpa using fun z => S.ne z.symm
    simp [List.lookup, z]
  have mfld : ([(("self" : Str), Value.ref e), (fl, v)] : List (Str × Value)).reverse.lookup fl = some v := by
    show List.lookup fl [(fl, v), (("self" : Str), Value.ref e)] = _
    simp [List.lookup]
  obtain ⟨mb, b1, b2⟩ := Mo.blt
  -- super().__init__(..)
  obtain ⟨pl, hev⟩ := hSC (ksEnv qual scope s.heap.objs.size fI (.ref cda) cc)
  refine ks_wpAt_execs_cons (ks_wpAt_Expr_any (ks_wpAt_MethodCall (pl := pl) ?_ hev) (quiet_of S.kind))
  refine ks_wpAt_super_base (env := ksEnv qual scope s.heap.objs.size fI (.ref cda) cc) S.sup S.cls (by decide) rfl (X₁ _ _ ho) rfl har rfl (X₁ _ _ hcode) rfl hvs hfile T.top ?_
  refine ks_loadName_global S.kind S.sup (loadGlobal_builtin (env := ksEnv qual scope s.heap.objs.size fI (.ref cda) cc) (Mo.glob.keeps bk₁) T.sg (b1.keeps bk₁) ((b2 _ (by decide)).trans (show bootBuiltins "super" = some (.type "super") by decide +kernel)) ⟨rfl, ?_⟩)
  refine wpAny_loadName_free S.kind S.cls rfl ⟨_, X₁ _ _ hcell, rfl⟩ ?_
  rw [har2]
  refine wpAny_loadName_local S.kind S.self hns mself ?_
  refine ks_wpAny_isType_cls (X₁ _ _ hC) rfl ⟨rfl, ?_⟩
  obtain ⟨so, hgo⟩ : ∃ so, so = h₁.objs.size := ⟨_, rfl⟩
  refine ks_wpAny_call_super (X₁ _ _ hC) rfl hx₁ rfl (fun c z => by cases z) (looks_mroIn X₁ T.meC) (fun h₂ e₂ k₂ => ?_)
  have X₂ : K.In h₂ := X₁.keeps k₂
  have hx₂ := k₂ _ _ hx₁
  have hI : Looks (model prog w) h₂ (isInstance (.ref e) (.type "ValueError")) true := (show Looks (model prog w) h₂ (typeOf (.ref e)) (.ref C) from fun A Q E s k q => wpAny_typeOf_ref (k _ _ hx₂) q).andThen (looks_subIn X₂ T.veC)
  have hsup := T.sup
  unfold ks_superIn at hsup
  rw [hcl] at hsup
  refine kxs_getMethod kxs_ValueError e₂ (looks_opaque X₂ T.st) (l₀ := .ref C :: bm) ?_ rfl X₂ hsup hI ?_ (by decide) ?_
  · exact fun A Q E s k q => wpAny_bind ((looks_clsIn X₂ hcl) A _ E s k (wpAny_pure q))
  · intro z
    rw [z] at hx₂
    have z2 := (X₂ _ _ hC).symm.trans hx₂
    cases z2
  have k₃ : ∀ b o, h₂.get? b = some o → (h₂.push (kxs_mw "ValueError.__init__" e)).get? b = some o := fun b o z => Heap.get?_push_of_some _ z
  refine kxs_callWith (i := "ValueError.__init__") (x := e) rfl (evalArgs_plain ?_)
  refine Calls.spliced_cons (Calls.Constant_str (k := c1) (pos := q3) (Calls.spliced_nil ⟨Heap.get?_push_size _ rfl, ?_⟩))
  refine call_mw (k₃ _ _ (X₂ _ _ hC)) (k₃ _ _ hx₂) (Heap.get?_push_size _ rfl) (show ([Value.str msg _] : List Value).length ≤ sizeLine by rw [sizeLine_eq]; exact (by decide : 1 ≤ 16777216)) (fun h₄ t1 k₄ hx₄ => ?_)
  have k14 : ∀ b o, b ≠ e → h₁.get? b = some o → h₄.get? b = some o := fun b o hb z => k₄ b o hb (k₃ _ _ (k₂ _ _ z))
  have hLe : s.heap.objs.size ≠ e := Nat.ne_of_gt (Heap.lt_size hx)
  have hns₄ : h₄.Ns s.heap.objs.size (fun y => ([(("self" : Str), Value.ref e), (fl, v)] : List (Str × Value)).reverse.lookup y) := by
    obtain ⟨oL, es, ep, hL, r⟩ := hns
    exact ⟨oL, es, ep, k14 _ _ hLe hL, r⟩
  have X₄ : K.In h₄ := fun a o z => by
    have z1 := X _ _ z
    exact k14 a o (fun y => by rw [y, hnx] at z; cases z) (hk _ _ z1)
  -- self.f = f
  refine ks_wpAt_execs_cons (PySem.wpAt_of_wpAny (plainObj_wpAny_Assign_Attribute ?_))
  refine ldX (v := v) hns₄ mfld (ldX (v := .ref e) hns₄ mself ?_ S.kind S.self (by decide)) S.kind S.fld S.dbg
  refine set_plain X₄ (ox := excO C t1) (od := none) ⟨hx₄, rfl, rfl, trivial⟩ T.sa ?_
  refine exc_osa X₄ hx₄ hcl (show refsVE (.ref C :: bm) = true from hbm) rfl T.noN (fun h₅ tk₅ dx k₅ dn dne hx₅ hn₅ => ?_)
  refine PySem.wpAt_of_wpAny (wpAny_execs_nil (hq h₅ tk₅ dx t1 ⟨fun b o hb z => k₅ b o hb (k14 b o hb (hk b o z)), hx₅, ?_, dne, hn₅⟩))
  exact Nat.le_trans (Nat.le_of_lt hns₄.lt) dn
/-- a made one -/
structure OwnMade (h h' : Heap) (e C d : Addr) (fl : Str) (v : Value) : Prop where
  keep : ∀ b o, h.get? b = some o → h'.get? b = some o
  new : h.objs.size ≤ e
  obj : ∃ oe vs, h'.get? e = some oe ∧ oe.cls = .ref C ∧ oe.dict = some d ∧ oe.data = .fields vs ∧ vs[1]? = some .none
  dbig : h.objs.size ≤ d
  dne : d ≠ e
  ns : h'.Ns1 d (fun y => if y = fl then some v else none)
theorem own_made (Mo : L2.Mod K mg base) (bk : ∀ b o, base.get? b = some o → s.heap.get? b = some o) (T : OwnTxt prog K mg x fl C fI) {v : Value} (hroom : A.depth + 1 < recursionLimit)
    (hq : ∀ h' tk e d, OwnMade s.heap h' e C d fl v → R (.ok (.ret (.ref e))) { s with heap := h', toks := tk }) : codeAny (model prog w) A (.call (.ref C) ⟨[v], []⟩) R s := by
  obtain ⟨nm, q, N, bs, bm, sn, sub, ab, col, dd, k0, k1, k2, k3, k5, hC, hbm⟩ := T.cls
  obtain ⟨hp, g, dr, tk, os⟩ := s
  have X : K.In hp := Mo.kin.keeps bk
  have k : ∀ b o, hp.get? b = some o → ((hp.push (kdv_tup [v])).push (excO C hp.objs.size)).get? b = some o := fun b o z => Heap.get?_push_of_some _ (Heap.get?_push_of_some _ z)
  have hget : ((hp.push (kdv_tup [v])).push (excO C hp.objs.size)).get? (hp.objs.size + 1) = some (excO C hp.objs.size) := by heap_get
  have hnx : K.lookup (hp.objs.size + 1) = none := by
    cases z : K.lookup (hp.objs.size + 1) with
    | none => rfl
    | some o => exact absurd (Nat.lt_of_succ_lt (Heap.lt_size (show hp.get? (hp.objs.size + 1) = some o from X _ _ z))) (Nat.lt_irrefl _)
  refine call_own F.excBase_ValueError (fun Y => refsVE_contains Y bm hbm) (X _ _ hC) (looks_findIn X T.iC) (fun self => bind_fn X self T.tC) (show ([v] : List Value).length ≤ sizeLine by rw [sizeLine_eq]; exact (by decide : 1 ≤ 16777216)) ?_
  refine own_init (s := ⟨(hp.push (kdv_tup [v])).push (excO C hp.objs.size), g, dr, tk, os⟩) Mo (fun b o z => k b o (bk b o z)) T hget hnx (show A.depth + 1 < recursionLimit from hroom) fun h' tk' dx t1 ⟨k', hx, dn, dne, hns⟩ => ?_
  have z : hp.objs.size + 1 + 1 ≤ dx := by
    have q := dn
    rw [Heap.size_push, Heap.size_push] at q
    exact q
  exact ⟨rfl, hq h' tk' (hp.objs.size + 1) dx ⟨fun b o y => k' b o (Nat.ne_of_lt (Nat.lt_succ_of_lt (Heap.lt_size y))) (k b o y), Nat.le_succ _, ⟨_, _, hx, rfl, rfl, rfl, rfl⟩, (show hp.objs.size ≤ dx by omega), dne, hns⟩⟩
end
end OwnE
end PySem
namespace DL
open PySem PySem.Spec L2
theorem relO_one {fl : Str} {v : V} {u : Value} (r : RelV v u) (f : Str) : RelO (List.lookup f [(fl, v)]) (if f = fl then some u else none) := by
  by_cases h : f = fl
  · rw [if_pos h, h]
    have q : List.lookup fl [(fl, v)] = some v := by simp [List.lookup]
    rw [q]
    exact r
  · rw [if_neg h]
    have q : (f == fl) = false := by simpa using h
    have q2 : List.lookup f [(fl, v)] = none := by simp [List.lookup, q]
    rw [q2]
    trivial
/-- a class of own errors: x its name, fl its field -/
def Xc (e : Wd) (x fl : Str) : Prop := ∃ C fI, PySem.OwnE.OwnTxt e.P e.K e.mg x fl C fI
section
variable {X : Cx} {C fI : Addr} {x fl : Str}
/-- x(e), e an argument -/
def tMkE (C : Addr) (fl : Str) (ta : TA) : L2.St → Hp → XK → Prop := fun σ H Q => ta σ H fun vs H1 => ∃ v, vs = [v] ∧ ∀ d, H1 d = none → Q (.ref C) (some d) (upd H1 d (.xd [(fl, v)]))
theorem pmk_own {a : Expr} {ta : TA} {p pos : Pos} {k : Nat} (T : PySem.OwnE.OwnTxt X.prog X.K X.mg x fl C fI) (hr : Room k X.A) (ha : PA X [a] ta) (hg : Gl X x) (hs : NoStar a []) (hdb : (x == ("__debug__" : Str)) = false) : PMk X (.Call (.Name x p) [a] [] pos) (tMkE C fl ta) := by
  intro pins s σ H Q I h
  refine wpAny_Call_Name_kw (ld_glob I hg T.gC ?_ hdb)
  refine PySem.W.callWith_K (h₀ := X.base) I.ok.mod.kin T.kC (thn (ha.run pos pins s σ H _ I h) fun us s1 ⟨vs, H1, I1, r1, v, ev, q1⟩ => ⟨I1.kIn, ?_⟩) (hs _) (by rfl)
  subst ev
  obtain ⟨v', rfl, rv⟩ := Vals.one r1
  show wpAny _ _ (call (.ref C) [v']) _ _ _
  have bk := I1.bk
  obtain ⟨hp, g, dr, tk, os⟩ := s1
  refine wpAny_call (PySem.OwnE.own_made I1.mod bk T (by have := hr.dp; omega) fun h' tk' e d M => ?_)
  show MkP X pins σ Q (.ref e) ⟨h', g, dr, tk', os⟩
  obtain ⟨oe, fv, hoe, hc, hd, hdat, h1⟩ := M.obj
  obtain ⟨G', g1, g2⟩ := restrict h' fun b => decide (b ≠ e)
  have gk : ∀ b, b ≠ e → G'.get? b = h'.get? b := fun b hb => g1 b (decide_eq_true hb)
  have ge : G'.get? e = none := g2 e (by simp)
  have old : ∀ b o, hp.get? b = some o → G'.get? b = some o := fun b o q => (gk b (Nat.ne_of_lt (Nat.lt_of_lt_of_le (Heap.lt_size q) M.new))).trans (M.keep b o q)
  have ob : ObjOk X.prog X.w (upd H1 d (.xd [(fl, v)])) G' d (.xd [(fl, v)]) := ⟨_, M.ns.at (fun o q => (gk d M.dne).trans q), fun f => relO_one rv f⟩
  refine ⟨e, oe, fv, ⟨G', g, dr, tk', os⟩, _, .ref C, some d, rfl, I1.laid (t' := tk') old M.dbig ob, fun b o q => ?_, ge, hoe, ⟨hc, hd⟩, hdat, h1, ?_, rfl, I1.bare, raises_own T.exC T.tyC, q1 d (I1.hok.fresh M.dbig)⟩
  · have q' : G'.get? b = some o := q
    by_cases hb : b = e
    · rw [hb, ge] at q'; cases q'
    · exact (gk b hb).symm.trans q'
  · rw [upd_ne (Ne.symm M.dne)]
    exact I1.hok.fresh M.new
end
section
variable {c : CP} {Γ : List Sl} {e : Expr} {x n : Str} {ma : M D} {sts : List Stmt} {Kt : List Sl → M D → Prop}
/-- raise x(e) -/
theorem rb_raise {p p2 pos : Pos} (T : Xc c.toWd x n) (h : RefE c Γ e ma) (hg : c.sc.names.lookup x = some .globalImplicit := by rfl) (hs : NoStar e [] := by intro _; rfl) (hdb : (x == ("__debug__" : Str)) = false := by decide) :
    RefB c Γ (.Raise (some (.Call (.Name x p) [e] [] p2)) none pos :: sts) Kt (do let y ← ma; raise x n y) := by
  intro B S σ H os D Φ Ψ st ha hr hx hn
  obtain ⟨C, fI, T⟩ := T
  refine ⟨tSeq (fun _ σ H => tMkE C n (tCons (WE c e) tNil) σ H fun cls d H' => c.W cls d H') tNever, fun X hX => pss_cons (ps_raise (W := fun cls d _ H => c.W cls d H) hX.calm hX.takes (pmk_own (by rw [hX.prog, hX.K, hX.mg]; exact T) hX.room (pa_cons (pe_W hX e) pa_nil (hs _)) (gl_of hX hg) hs hdb)) pss_never, ?_⟩
  refine h B S σ H os _ st (acc_mono (acc_bind ha) (fun d S1 q v H1 a1 hd => ?_) (postX_of hx st.co))
  refine ⟨v, rfl, fun dd hdd => ?_⟩
  have q : Ψ x n d S1 := q
  have st1 := st.step a1
  have a2 := Aft.new (o := .xd [(n, v)]) st1.co hdd
  exact postX_of hx st1.co x n d S1 q C dd v _ T.gC a2 upd_same (hd.mono (st1.co.frz a2))
end
end DL
/-! # DL, sixteenth part: x[::-1], {}. -/
namespace DL
section
open PySem PySem.Spec PyProof.Rows L2 HT
variable {prog : Program} {w : World} {A : Around} {E : Value → Shared → Prop} {s : Shared}
theorem adj_rev (n : Nat) : Builtin.Slice.sliceAdjust none none (-1) (n : Int) = ((n : Int) - 1, -1) := rfl
theorem places_rev (n : Nat) : Builtin.Slice.slicePlaces ((n : Int) - 1) (-1) (-1) = n := by
  unfold Builtin.Slice.slicePlaces
  rw [if_neg (by decide)]
  by_cases h : n = 0
  · subst h; rfl
  · rw [if_pos (by omega)]
    have : ((n : Int) - 1 - -1 - 1) / (- -1) + 1 = n := by
      rw [show (- -1 : Int) = 1 by rfl, Int.ediv_one]
      omega
    rw [this]
    exact Int.toNat_natCast n
theorem fm_congr {α β : Type} {f g : α → Option β} : ∀ {l : List α}, (∀ k ∈ l, f k = g k) → l.filterMap f = l.filterMap g
  | [], _ => rfl
  | a :: l, h => by
    rw [List.filterMap_cons, List.filterMap_cons, h a List.mem_cons_self, fm_congr fun k hk => h k (List.mem_cons_of_mem _ hk)]
theorem pick_rev (its : List Value) : ((List.range its.length).filterMap fun (k : Nat) => its.toArray[(((its.length : Nat) : Int) - 1 + (k : Int) * (-1)).toNat]?) = its.reverse := by
  apply List.ext_getElem?
  intro i
  have e : ((List.range its.length).filterMap fun (k : Nat) => its.toArray[(((its.length : Nat) : Int) - 1 + (k : Int) * (-1)).toNat]?) = (List.range its.length).map fun k => its.getD (its.length - 1 - k) .none := by
    rw [← List.filterMap_eq_map]
    apply fm_congr
    intro k hk
    have hk := List.mem_range.mp hk
    have e1 : (((its.length : Nat) : Int) - 1 + (k : Int) * (-1)).toNat = its.length - 1 - k := by omega
    rw [e1]
    have hl : its.length - 1 - k < its.length := by omega
    show its.toArray[its.length - 1 - k]? = some (its.getD (its.length - 1 - k) .none)
    rw [← Array.getElem?_toList]
    show its[its.length - 1 - k]? = _
    rw [List.getD_eq_getElem?_getD, List.getElem?_eq_getElem hl]
    rfl
  rw [e, List.getElem?_map]
  by_cases hi : i < its.length
  · rw [List.getElem?_range hi, List.getElem?_reverse hi]
    have hl : its.length - 1 - i < its.length := by omega
    show some (its.getD (its.length - 1 - i) .none) = _
    rw [List.getD_eq_getElem?_getD, List.getElem?_eq_getElem hl]
    rfl
  · rw [List.getElem?_eq_none (by simpa using hi), List.getElem?_eq_none (by simpa using hi)]
    rfl
theorem tup_rev {t sl : Addr} {its : List Value} {vl vu vs : Value} {Q : Value → Shared → Prop} (ht : IsTup s.heap t its.toArray) (hs : s.heap.IsSliceOf sl vl vu vs) (pl : IsPart vl none) (pu : IsPart vu none) (ps : IsPart vs (some (-1))) (hz : its.length ≤ sizeLine)
    (h : Q (.ref s.heap.objs.size) { s with heap := s.heap.push { cls := .type "tuple", data := .seq its.reverse.toArray } }) : wpAny (model prog w) A (getItem (.ref t) (.ref sl)) Q E s := by
  obtain ⟨os, hos, hcs, hds⟩ := id hs
  have hTs : s.TypeIs (.ref sl) "slice" := ⟨os, hos, hcs⟩
  unfold getItem; (try with_reducible refine wpAny_holding ?_); (first | refine wpAny_bind (wpAny_pure ?_) | skip)
  refine wpAny_bind (wpAny_sequenceKey ht.typeIs (by decide) ?_); refine wpAny_bind (wpAny_callSpecial?_slot (name := Str.ofString "__getitem__") ht.typeIs PyProof.Rows.slot_tuple_getitem (wpAny_call_entry PyProof.Rows.slot_tuple_getitem ht.typeIs entry_tuple_getitem ?_ (args_tuple_getitem _ _)))
  show wpAny _ _ (Builtin.Tuple.tupleItemsOf (.ref t) >>= _) _ _ s
  refine wpAny_bind (tupleItemsOf_ ht (wpAny_bind (wpAny_typeOf hTs ?_)))
  rw [if_pos (by decide)]
  refine wpAny_bind ?_
  unfold Builtin.Slice.sliceApplied Builtin.Slice.sliceFields
  refine wpAny_bind (wpAny_bind (wpAny_field hos hds (x := vl) rfl (wpAny_bind (wpAny_field hos hds (x := vu) rfl (wpAny_bind (wpAny_field hos hds (x := vs) rfl (wpAny_pure ?_)))))))
  refine wpAny_bind (slicePart_ ps ?_)
  show wpAny _ _ (if ((-1 : Int) == 0) = true then _ else _) _ _ s
  rw [if_neg (by decide)]
  refine wpAny_bind (slicePart_ pl (wpAny_bind (slicePart_ pu (wpAny_bind (wpAny_pure ?_)))))
  have hsz : its.toArray.size = its.length := by simp
  rw [hsz]
  show wpAny _ _ (match Builtin.Slice.sliceAdjust none none (-1) (its.length : Int) with | (lo, hi) => pure (lo, (-1 : Int), Builtin.Slice.slicePlaces lo hi (-1))) _ _ s
  rw [adj_rev]
  show wpAny _ _ (pure (((its.length : Int) - 1), (-1 : Int), Builtin.Slice.slicePlaces ((its.length : Int) - 1) (-1) (-1))) _ _ s
  rw [places_rev]
  refine wpAny_pure ?_
  show wpAny _ _ (if (((its.length : Int) - 1) == 0 && (-1 : Int) == 1 && its.length == its.toArray.size) = true then _ else _) _ _ s
  rw [if_neg (by simp)]
  have e : ((List.range its.length).filterMap fun (k : Nat) => its.toArray[(((its.length : Nat) : Int) - 1 + (k : Int) * (-1)).toNat]?).toArray = its.reverse.toArray := congrArg List.toArray (pick_rev its)
  rw [e]
  have hz2 : sizeOk (.seq its.reverse.toArray) := by show its.reverse.toArray.size ≤ sizeLine; rw [List.size_toArray, List.length_reverse]; exact hz
  first
    | exact wpAny_bind (m := Builtin.Tuple.tupleExact _) (wpAny_newObj_type (wpAny_pure ⟨_, rfl, wpAny_pure h⟩) hz2)
    | exact wpAny_bind (m := Builtin.Tuple.tupleExact _) (wpAny_newObj_type (wpAny_bind (wpAny_pure (wpAny_pure ⟨_, rfl, wpAny_pure h⟩))) hz2)
    | exact wpAny_bind (wpAny_bind (m := Builtin.Tuple.tupleExact _) (wpAny_newObj_type (wpAny_pure (wpAny_pure ⟨_, rfl, wpAny_pure h⟩)) hz2))
end
section
open PySem PySem.Spec PyProof.Rows L2
variable {X : Cx}
/-- x[::-1], x a list or a tuple: a new one -/
def tRevA (K : PySem.W.Frag) (te : TE) : TE := fun σ H Q => te σ H fun x H1 => ∃ a xs, x = .ref a ∧ ((SqL K H1 a xs ∧ ∀ p, H1 p = none → Q (.ref p) (upd H1 p (.lst xs.reverse))) ∨ (SqT K H1 a xs ∧ ∀ p, H1 p = none → Q (.ref p) (upd H1 p (.tup xs.reverse))))
theorem pe_revA {e : Expr} {te : TE} {k : Nat} {p1 p2 p3 pos : Pos} (he : PE X e te) : PE X (.Subscript e (.Slice none none (some (.UnaryOp .USub (.Constant (.int 1) k p1) p2)) p3) pos) (tRevA X.K te) := by
  refine ⟨fun pins s σ H Q I h => Subscript_ (thn (he.run pins s σ H _ I h) fun v s1 ⟨x, H1, I1, r1, a, xs, ex, q⟩ => ?_)⟩
  subst ex
  cases r1
  have hst : PO X (some (.UnaryOp .USub (.Constant (.int 1) k p1) p2)) (tPart (tUn (rU fun i => .int (-i)) (tC (.int 1)))) := po_some (pe_un un_neg pe_int)
  refine wpAny_Slice (thn (po_none.run pins s1 σ H1 (fun o H2 => o = none ∧ H2 = H1) I1 ⟨rfl, rfl⟩) fun vl s2 ⟨l, H2, I2, pl, el, e2⟩ => ?_); subst el e2
  refine thn (po_none.run pins s2 σ H2 (fun o H3 => o = none ∧ H3 = H2) I2 ⟨rfl, rfl⟩) fun vu s3 ⟨u, H3, I3, pu, eu, e3⟩ => ?_; subst eu e3
  refine thn (hst.run pins s3 σ H3 (fun o H4 => o = some (-1) ∧ H4 = H3) I3 ⟨1, rfl, -1, rfl, rfl, rfl⟩) fun vs s4 ⟨o, H4, I4, ps, eo, e4⟩ => ?_; subst eo e4
  have I5 : Inv X pins σ H4 { s4 with heap := s4.heap.push { cls := .type "slice", data := .fields #[vl, vu, vs] } } := I4.kept (t' := s4.toks) fun b ob q => Heap.get?_push_of_some _ q
  show wpAny (model X.prog X.w) X.A (subscriptTail e (.Slice none none (some (.UnaryOp .USub (.Constant (.int 1) k p1) p2)) p3) (.ref a) (.ref s4.heap.objs.size)) (EP X pins σ Q) X.xe { s4 with heap := s4.heap.push { cls := .type "slice", data := .fields #[vl, vu, vs] } }
  rcases q with ⟨hx, q⟩ | ⟨hx, q⟩
  · obtain ⟨its, r, ht, hz⟩ := I5.list hx
    have hlen := r.length
    refine tail_any (ops := [.ref a, .ref s4.heap.objs.size]) ht.isList.typeIs (PySem.slot_list_getitem.lookup) (wpAny_getItem_list_slice ht.isList (Heap.IsSliceOf.new _ vl vu vs) pl pu ps (by decide) ?_ (by rw [List.size_toArray]; omega)) (by with_unfolding_all rfl)
    rw [PySem.W.krv_pick]
    exact ⟨.ref _, _, I5.laid (t' := s4.toks) (o := .lst xs.reverse) (fun b ob q => Heap.get?_push_of_some _ q) (Nat.le_refl _) ⟨by rw [List.length_reverse]; exact hz, _, 0, r.reverse, Heap.get?_push_size _ rfl⟩, rfl, q _ (I5.hok.fresh (Nat.le_refl _))⟩
  · obtain ⟨its, r, ht, hz⟩ := I5.tuple hx
    have hlen := r.length
    refine tail_any (ops := [.ref a, .ref s4.heap.objs.size]) ht.typeIs (PyProof.Rows.slot_tuple_getitem.lookup) (tup_rev ht (Heap.IsSliceOf.new _ vl vu vs) pl pu ps (by omega) ?_) (by with_unfolding_all rfl)
    exact ⟨.ref _, _, I5.laid (t' := s4.toks) (o := .tup xs.reverse) (fun b ob q => Heap.get?_push_of_some _ q) (Nat.le_refl _) ⟨by rw [List.length_reverse]; exact hz, _, r.reverse, IsTup.new _ _⟩, rfl, q _ (I5.hok.fresh (Nat.le_refl _))⟩
end
open PySem PySem.Spec L2
theorem DaAll.rev {K : PySem.W.Frag} {G : Hp} : ∀ {ds : List D} {vs : List V}, DaAll K G ds vs → DaAll K G ds.reverse vs.reverse
  | [], _, h => by cases (show _ = [] from h); rfl
  | d :: ds, _, ⟨v, r, h1, h2, h3⟩ => by
    subst h1
    rw [List.reverse_cons, List.reverse_cons]
    exact (DaAll.rev h3).append (.one h2)
section
variable {c : CP} {Γ : List Sl} {e : Expr} {ma : M D}
theorem re_rev {k : Nat} {p1 p2 p3 pos : Pos} (h : RefE c Γ e ma) : RefE c Γ (.Subscript e (.Slice none none (some (.UnaryOp .USub (.Constant (.int 1) k p1) p2)) p3) pos) (do let x ← ma; lift (revD x)) := by
  intro B S σ H os Q st hacc
  refine ⟨tRevA c.K (WE c e), fun X hX => by rw [← hX.K]; exact pe_revA (pe_W hX e), ?_⟩
  refine h B S σ H os _ st (acc_mono (acc_bind hacc) (fun d S1 q v H1 a1 hd => ?_) fun _ _ _ _ z => z)
  obtain ⟨z, hz, q3⟩ := acc_lift q
  have dm := dem_of (st.step a1).co (z := z) (Q := Q) fun v H' a' hd' => q3 v H' (a1.trans a') hd'
  cases d <;> simp only [revD, reduceCtorEq] at hz
  · cases hz
    obtain ⟨a, vs, rfl, h1, h2⟩ := hd
    exact ⟨a, vs, rfl, .inl ⟨SqL.of (frz_le _ _ h1), fun p hp => dm.lst _ _ p rfl h2.rev hp⟩⟩
  · cases hz
    obtain ⟨a, vs, rfl, h1, h2⟩ := hd
    exact ⟨a, vs, rfl, .inr ⟨sqT_same frz_le h1, fun p hp => dm.tup _ _ p rfl h2.rev hp⟩⟩
theorem re_dict0 {p : Pos} : RefE c Γ (.Dict [] [] p) (pure (.dict [])) := by
  intro B S σ H os Q st ha
  exact ⟨tDNewK, fun X hX => pe_dnewK, fun a hH => (show PostE c B.mA os H Q (.dict []) S from ha) _ _ (.new st.co hH) ⟨rfl, a, rfl, frz_upd_new hH (st.co.fresh hH) fun _ z => by cases z⟩⟩
end
end DL
/-! # DL, seventeenth part: the drawing state. -/
namespace DL
open PySem PySem.Spec L2
def memA (b : Bool) (m : Addr × Addr × Addr) : Addr := if b = true then m.2.1 else m.2.2
def memK (b : Bool) : Str := if b = true then "great" else "cells"
section
variable {c : CP} {B : Bs} {Γ : List Sl} {S S' S1 S2 : DS} {σ : L2.St} {H H' H1 H2 : Hp} {os : List Addr} {mA : MA} {e a b : Expr} {pos p : Pos} {x y : Str}
abbrev mDict (m : Addr × Addr × Addr) (S : DS) : List (Key × V) := [(kCells, .ref m.2.2), (kGreat, .ref m.2.1), (kSpot, .int S.spot)]
theorem mst_mem {m : Addr × Addr × Addr} (h : Mst (some m) H S) (b : Bool) : H (memA b m) = some (.lst ((memL b S).map V.int)) := by
  cases b with
  | true => exact h.2.1
  | false => exact h.2.2.1
theorem mem_in {m : Addr × Addr × Addr} (b : Bool) : memA b m ∈ msA (some m) := by
  cases b with
  | true => exact List.mem_cons_of_mem _ List.mem_cons_self
  | false => exact List.mem_cons_of_mem _ (List.mem_cons_of_mem _ List.mem_cons_self)
theorem k_cs : ("cells" : Str) ≠ "spot" := by decide
theorem k_gs : ("great" : Str) ≠ "spot" := by decide
theorem k_cg : ("cells" : Str) ≠ "great" := by decide
theorem val_spot {m : Addr × Addr × Addr} : valV (mDict m S) kSpot = some (.int S.spot) := by simp [valV, mDict, kCells, kGreat, kSpot, k_cs, k_gs]
theorem val_mem {m : Addr × Addr × Addr} (b : Bool) : valV (mDict m S) (.inr (memK b)) = some (.ref (memA b m)) := by
  cases b <;> simp [valV, mDict, kCells, kGreat, kSpot, memK, memA, k_cg]
/-- a change of what is drawn from -/
theorem aft_dict {m : Addr × Addr × Addr} (co : Co c.T B S H os) (hm : B.mA = some m) {n : Int} : Aft c.T B.mA H (upd H m.1 (.dK (putK (mDict m S) kSpot (.int n)))) { S with spot := n } := by
  have hh := co.mst
  rw [hm] at hh ⊢
  obtain ⟨h1, h2, h3, h4⟩ := hh
  have n2 : m.2.1 ≠ m.1 := fun z => by rw [z, h1] at h2; cases h2
  have n3 : m.2.2 ≠ m.1 := fun z => by rw [z, h1] at h3; cases h3
  have e : putK (mDict m S) kSpot (.int n) = mDict m { S with spot := n } := by simp [putK, mDict, kCells, kGreat, kSpot, k_cs, k_gs]
  refine ⟨fun b o z1 z2 z3 => ?_, ⟨by rw [e]; exact upd_same, by rw [upd_ne n2]; exact h2, by rw [upd_ne n3]; exact h3, h4⟩, tabs_upd co.tab ⟨(fun _ z => by rw [h1] at z; cases z), (fun _ z => by rw [h1] at z; cases z)⟩⟩
  rw [upd_ne fun z => z3 (by rw [z]; exact List.mem_cons_self)]
  exact z1
theorem aft_great {m : Addr × Addr × Addr} (co : Co c.T B S H os) (hm : B.mA = some m) {ns : List Int} : Aft c.T B.mA H (upd H m.2.1 (.lst (ns.map V.int))) { S with great := ns } := by
  have hh := co.mst
  rw [hm] at hh ⊢
  obtain ⟨h1, h2, h3, h4⟩ := hh
  have n1 : m.1 ≠ m.2.1 := fun z => by rw [z, h2] at h1; cases h1
  refine ⟨fun b o z1 z2 z3 => ?_, ⟨by rw [upd_ne n1]; exact h1, upd_same, by rw [upd_ne (Ne.symm h4)]; exact h3, h4⟩, tabs_upd co.tab ⟨(fun _ z => by rw [h2] at z; cases z), (fun _ z => by rw [h2] at z; cases z)⟩⟩
  rw [upd_ne fun z => z3 (by rw [z]; exact List.mem_cons_of_mem _ List.mem_cons_self)]
  exact z1
section
variable (i : Nat) (hΓ : Γ[i]? = some .drw) (hN : c.N[i]? = some x) (hv : Vis c.sc x) (hd : (x == ("__debug__" : Str)) = false) (hcd : (x == ("__classdict__" : Str)) = false)
theorem pv_c {X : Cx} (hX : c.Has X) {p : Pos} (hN : c.N[i]? = some x) (hv : Vis c.sc x) (hd : (x == ("__debug__" : Str)) = false) (hcd : (x == ("__classdict__" : Str)) = false) : PE X (.Name x p) (tVar i) := pv i (by rw [hX.N]; exact hN) (by rw [hX.sc]; exact hv) hd hcd
end
/-- m["spot"] -/
theorem re_mspot (i : Nat) {p1 p2 : Pos} {j : Nat} (hΓ : Γ[i]? = some .drw := by rfl) (hN : c.N[i]? = some x := by rfl) (hv : Vis c.sc x := by first | exact Or.inl rfl | exact Or.inr (Or.inl rfl) | exact Or.inr (Or.inr rfl)) (hd : (x == ("__debug__" : Str)) = false := by decide) (hcd : (x == ("__classdict__" : Str)) = false := by decide) :
    RefE c Γ (.Subscript (.Name x p1) (.Constant (.str "spot") j p2) pos) getSpot := by
  intro B S σ H os Q st ha
  obtain ⟨m, hm, hs⟩ := st.sl i _ hΓ
  have hh := st.co.mst
  rw [hm] at hh
  refine ⟨tDGet (tVar i) (tC (.str "spot")), fun X hX => pe_dget (by have := hX.room.units; omega) (pv_c i hX hN hv hd hcd) pe_str (by intro _ _; rfl), _, hs, m.1, .int S.spot, rfl, ?_, (show PostE c B.mA os H Q (.int S.spot) S from ha) _ H (.refl st.co) rfl⟩
  rw [← val_spot (m := m)]
  exact DGet.k (k := kSpot) hh.1
/-- m["spot"] = e -/
theorem rs_mspot (i : Nat) {me : M D} {p1 p2 p3 : Pos} {j : Nat} (he : RefE c Γ e me) (hΓ : Γ[i]? = some .drw := by rfl) (hN : c.N[i]? = some x := by rfl) (hv : Vis c.sc x := by first | exact Or.inl rfl | exact Or.inr (Or.inl rfl) | exact Or.inr (Or.inr rfl)) (hd : (x == ("__debug__" : Str)) = false := by decide) (hcd : (x == ("__classdict__" : Str)) = false := by decide)
    (hw : ∀ X, c.Has X → swapsWith e (some (.Subscript (.Name x p1) (.Constant (.str "spot") j p2) p3)) pos.line X.env = pure false := by intro _ _; rfl) : RefS c Γ (.Assign [.Subscript (.Name x p1) (.Constant (.str "spot") j p2) p3] e pos) (do let d ← me; setSpot d) (fun _ => Γ) := by
  intro B S σ H os D st ha
  obtain ⟨m, hm, hs⟩ := st.sl i _ hΓ
  refine ⟨sDPut (tVar i) (tC (.str "spot")) (WE c e), fun X hX => ps_dput (by have := hX.room.units; omega) (pv_c i hX hN hv hd hcd) pe_str (pe_W hX e) (hw X hX), ?_⟩
  refine he B S σ H os _ st (acc_mono (acc_bind ha) (fun d S1 q v H1 a1 hd => ?_) fun _ _ _ _ z => z)
  cases d with
  | int n =>
    cases hd
    have st1 := st.step a1
    have hh := a1.mst
    rw [hm] at hh
    have a2 := aft_dict st1.co hm (n := n)
    refine ⟨_, hs, m.1, _, rfl, DPut.k (k := kSpot) hh.1 (few (n := 4) (by omega)), ?_⟩
    exact (show ∀ σ' H' os', St c B Γ { S1 with spot := n } σ' H' os' → Same (frz H os) (frz H' os') → D.nx σ' H' from q) σ _ os (st1.step a2) (strans (st.co.frz a1) (st1.co.frz a2))
  | _ => exact q.elim
/-- lot = m["great"], m["cells"] -/
theorem rs_setMem (i k : Nat) (b : Bool) {p1 p2 p3 p4 : Pos} {j : Nat} {y : Str} (hi : c.N[k]? = some y := by rfl) (hc : CanSet c y := by first | exact ⟨.inl rfl, .inl rfl⟩ | exact ⟨.inl rfl, .inr rfl⟩ | exact ⟨.inr rfl, .inl rfl⟩) (hΓ : Γ[i]? = some .drw := by rfl) (hN : c.N[i]? = some x := by rfl)
    (hv : Vis c.sc x := by first | exact Or.inl rfl | exact Or.inr (Or.inl rfl) | exact Or.inr (Or.inr rfl)) (hd : (x == ("__debug__" : Str)) = false := by decide) (hcd : (x == ("__classdict__" : Str)) = false := by decide) :
    RefS c Γ (.Assign [.Name y p4] (.Subscript (.Name x p1) (.Constant (.str (memK b)) j p2) p3) pos) (pure ()) (fun _ => Γ.set k (.mem b)) := by
  intro B S σ H os D st ha
  obtain ⟨m, hm, hs⟩ := st.sl i _ hΓ
  have hh := st.co.mst
  rw [hm] at hh
  refine ⟨tAsg (tDGet (tVar i) (tC (.str (memK b)))) (gName k), fun X hX => ps_set hX.nd (by rw [hX.N]; exact hi) (by rw [hX.sc]; exact hc.1) (pe_dget (by have := hX.room.units; omega) (pv_c i hX hN hv hd hcd) pe_str (by intro _ _; rfl)) (by rfl) (hc.2.imp (hX.fn y) fun z => by rw [hX.sc]; exact z), ?_⟩
  refine ⟨_, hs, m.1, .ref (memA b m), rfl, ?_, ?_⟩
  · rw [← val_mem (S := S) (m := m) b]
    exact DGet.k (k := .inr (memK b)) hh.1
  · refine (show ∀ σ' H' os', St c B (Γ.set k (.mem b)) S σ' H' os' → Same (frz H os) (frz H' os') → D.nx σ' H' from ha) _ H os ⟨st.co, by rw [List.length_set, List.length_set]; exact st.len, fun l s e => ?_, fun l n ds es a e1 e2 e3 e4 => ?_⟩ fun _ _ z => z
    · rw [List.getElem?_set] at e ⊢
      by_cases q : k = l
      · subst q
        rw [if_pos rfl] at e ⊢
        split at e
        · rename_i hl
          cases e
          rw [if_pos (by rw [← st.len]; exact hl)]
          exact ⟨m, hm, rfl⟩
        · cases e
      · rw [if_neg q] at e ⊢
        exact st.sl l s e
    · rw [List.getElem?_set] at e1 e2 e3 e4
      by_cases q : k = l
      · rw [if_pos q] at e1
        split at e1 <;> cases e1
      · by_cases q2 : k = n
        · rw [if_pos q2] at e2
          split at e2 <;> cases e2
        · rw [if_neg q] at e1 e3
          rw [if_neg q2] at e2 e4
          exact st.nd l n ds es a e1 e2 e3 e4
theorem mem_ok {m : Addr × Addr × Addr} (st : St c B Γ S σ H os) (hm : B.mA = some m) (b : Bool) : H (memA b m) = some (.lst ((memL b S).map V.int)) ∧ memA b m ∈ os := by
  have hh := st.co.mst
  rw [hm] at hh
  exact ⟨mst_mem hh b, st.co.mos' _ (by rw [hm]; exact mem_in b)⟩
/-- len(lot) -/
theorem re_lenMem (i : Nat) {b : Bool} {p2 : Pos} (hm : c.mg ("len" : Str) = none) (hΓ : Γ[i]? = some (.mem b) := by rfl) (hN : c.N[i]? = some x := by rfl) (hv : Vis c.sc x := by first | exact Or.inl rfl | exact Or.inr (Or.inl rfl) | exact Or.inr (Or.inr rfl)) (hg : c.sc.names.lookup ("len" : Str) = some .globalImplicit := by rfl)
    (hd : (x == ("__debug__" : Str)) = false := by decide) (hcd : (x == ("__classdict__" : Str)) = false := by decide) : RefE c Γ (.Call (.Name "len" p) [.Name x p2] [] pos) (lenMem b) := by
  intro B S σ H os Q st hacc
  obtain ⟨m, h1, h2⟩ := st.sl i _ hΓ
  obtain ⟨h4, h5⟩ := mem_ok st h1 b
  refine ⟨tCB (rDC c.K lenD) (tCons (tVar i) tNil), fun X hX => pe_callB (id := "len") (by rw [← hX.K]; exact cD_len) (gl_of hX hg) (mg_none hX hm) (by decide +kernel) (pa_cons (pv i (by rw [hX.N]; exact hN) (by rw [hX.sc]; exact hv) hd hcd) pa_nil (by rfl)) (by decide) (by decide) (by rfl) (by rfl), _, h2, ?_⟩
  have hl : ((memL b S).map PyData.int).length = (memL b S).length := by rw [List.length_map]
  refine ⟨plus (frz H os) (memA b m) ((memL b S).map V.int), [memD b S], .int (memL b S).length, plus_le h4, ⟨_, [], rfl, da_own h5 (DaAll.ints _), rfl⟩, ?_, dem_int ((show PostE c B.mA os H Q (.int (memL b S).length) S from hacc) _ H (.refl st.co) rfl)⟩
  show some (PyData.int (((memL b S).map PyData.int).length : Nat)) = _
  rw [hl]
/-- lot[e] -/
theorem re_ixMem (i : Nat) {b : Bool} {eb : Expr} {mb : M D} (hb : RefE c Γ eb mb) (hΓ : Γ[i]? = some (.mem b) := by rfl) (hN : c.N[i]? = some x := by rfl) (hv : Vis c.sc x := by first | exact Or.inl rfl | exact Or.inr (Or.inl rfl) | exact Or.inr (Or.inr rfl)) (hs : PlainIx eb := by exact fun _ _ => rfl)
    (hd : (x == ("__debug__" : Str)) = false := by decide) (hcd : (x == ("__classdict__" : Str)) = false := by decide) : RefE c Γ (.Subscript (.Name x p) eb pos) (do let y ← mb; getMem b y) := by
  intro B S σ H os Q st hacc
  obtain ⟨m, h1, h2⟩ := st.sl i _ hΓ
  refine ⟨tOp (rIxL c.K) (tVar i) (WE c eb), fun X hX => pe_ix (by rw [← hX.K]; exact ix_list) (pv i (by rw [hX.N]; exact hN) (by rw [hX.sc]; exact hv) hd hcd) (pe_W hX eb) hs, _, h2, ?_⟩
  refine hb B S σ H os _ st (acc_mono (acc_bind hacc) (fun d S1 q v H1 a1 hd => ?_) fun _ _ _ _ z => z)
  obtain ⟨z, hz, q3⟩ := acc_lift q
  obtain ⟨h4, h5⟩ := mem_ok (st.step a1) h1 b
  cases d with
  | int j =>
    cases hd
    obtain ⟨u, hu, hdu⟩ := atI_da (DaAll.ints (G := frz H1 os) (K := c.K) (memL b S1)) (show atI _ j = some z from hz)
    exact ⟨_, _, j, u, rfl, rfl, SqL.of h4, hu, q3 u H1 a1 hdu⟩
  | _ => cases hz
/-- lot[i] = e over great -/
theorem rs_setIMem (i : Nat) {ix : Expr} {me mi : M D} {p2 p3 : Pos} (he : RefE c Γ e me) (hix : RefE c Γ ix mi) (hΓ : Γ[i]? = some (.mem true) := by rfl) (hN : c.N[i]? = some x := by rfl) (hv : Vis c.sc x := by first | exact Or.inl rfl | exact Or.inr (Or.inl rfl) | exact Or.inr (Or.inr rfl))
    (hd : (x == ("__debug__" : Str)) = false := by decide) (hcd : (x == ("__classdict__" : Str)) = false := by decide) (hw : ∀ X, c.Has X → swapsWithSole [.Subscript (.Name x p2) ix p3] e pos.line X.env = pure false := by intro _ _; rfl)
    (hw2 : ∀ X, c.Has X → swappedStores [.Subscript (.Name x p2) ix p3] e X.env = pure none := by intro _ _; rfl)
    (ha : ∀ env v, assign (.Subscript (.Name x p2) ix p3) env v = (do
      let ov ← holding [v] (eval (.Name x p2) env)
      let iv ← holding [v, ov] (eval ix env)
      standAt p3
      holding [v, ov, iv] (setItem ov iv v)
      release [v, ov, iv] []) := by intro _ _; rfl) :
    RefS c Γ (.Assign [.Subscript (.Name x p2) ix p3] e pos) (do let v ← me; let k ← mi; setMem k v) (fun _ => Γ) := by
  intro B S σ H os D st hacc
  obtain ⟨m, h1, h2⟩ := st.sl i _ hΓ
  refine ⟨tAsg (WE c e) (gSub (tVar i) (WE c ix) rSetL), fun X hX => ps_asg (pe_W hX e) (pg_sub (pv i (by rw [hX.N]; exact hN) (by rw [hX.sc]; exact hv) hd hcd) (pe_W hX ix) set_list (ha _)) (hw X hX) (hw2 X hX), ?_⟩
  refine he B S σ H os _ st (acc_mono (acc_bind hacc) (fun d S1 q v H1 a1 hd => ?_) fun _ _ _ _ z => z)
  have st1 := st.step a1
  refine ⟨_, h2, hix B S1 σ H1 os _ st1 (acc_mono (acc_bind q) (fun k S2 q2 w H2 a2 hk => ?_) fun _ _ _ _ z => z.back a1)⟩
  have st2 := st1.step a2
  obtain ⟨h4, h5⟩ := mem_ok st2 h1 true
  cases k with
  | int n =>
    cases d with
    | int u =>
      cases hk
      cases hd
      have q2 : (setGreat S2 u (ixN S2.great.length n)).acc (fun _ S' => ∀ σ' H' os', St c B Γ S' σ' H' os' → Same (frz H os) (frz H' os') → D.nx σ' H') (PostX c B.mA os H) := q2
      cases e1 : ixN S2.great.length n with
      | none => rw [e1] at q2; exact q2.elim
      | some j =>
        rw [e1] at q2
        have a3 := aft_great st2.co h1 (ns := S2.great.set j u)
        refine ⟨_, _, n, j, rfl, rfl, h4, by rw [List.length_map]; exact e1, ?_⟩
        have e2 : ((S2.great.map V.int).set j (.int u)) = (S2.great.set j u).map V.int := List.map_set.symm
        rw [show (memL true S2).map V.int = S2.great.map V.int from rfl, e2]
        exact q2 σ _ os (st2.step a3) (strans (st.co.frz (a1.trans a2)) (st2.co.frz a3))
    | _ => exact q2.elim
  | _ => exact q2.elim
/-- m["great"] != [] -/
theorem rt_greatNe (i : Nat) {p1 p2 p3 p4 : Pos} {j : Nat} (hΓ : Γ[i]? = some .drw := by rfl) (hN : c.N[i]? = some x := by rfl) (hv : Vis c.sc x := by first | exact Or.inl rfl | exact Or.inr (Or.inl rfl) | exact Or.inr (Or.inr rfl)) (hd : (x == ("__debug__" : Str)) = false := by decide) (hcd : (x == ("__classdict__" : Str)) = false := by decide) :
    RefT c Γ (.Compare (.Subscript (.Name x p1) (.Constant (.str (memK true)) j p2) p3) [.NotEq] [.List [] p4] pos) greatNe := by with_unfolding_all
  intro B S σ H os Q st hacc
  obtain ⟨m, hm, hs⟩ := st.sl i _ hΓ
  have hh := st.co.mst
  rw [hm] at hh
  obtain ⟨zz, hzz, hacc⟩ := acc_lift (acc_bind hacc)
  refine ⟨tTest (tOp (rD c.K neD') (tDGet (tVar i) (tC (.str (memK true)))) (tLst tNil)), fun X hX => pt_cmpR (by rw [← hX.K]; exact opD_ne hX.room.units) (pe_dget (by have := hX.room.units; omega) (pv_c i hX hN hv hd hcd) pe_str (by intro _ _; rfl)) (pe_lst pa_nil) (by first | rfl | exact nomark _), _, hs, m.1, .ref (memA true m), rfl, ?_, Nat.zero_le _, fun q hq => ?_⟩
  · rw [← val_mem (S := S) (m := m) true]
    exact DGet.k (k := .inr (memK true)) hh.1
  have a1 := Aft.new (o := .lst []) st.co hq
  obtain ⟨h4, h5⟩ := mem_ok (st.step a1) hm true
  have hb : ∃ k, zz = .bool k := by
    unfold neD' at hzz
    split at hzz
    · cases hzz; exact ⟨_, rfl⟩
    · cases hzz
  obtain ⟨k, rfl⟩ := hb
  refine ⟨plus (frz (upd H q (.lst [])) os) (memA true m) ((memL true S).map V.int), memD true S, .list [], .bool k, plus_le h4, da_own h5 (DaAll.ints _), ⟨q, [], rfl, ?_, rfl⟩, hzz, dem_bool ⟨_, rfl, (show ∀ H', Aft c.T B.mA H H' S → Q k H' from hacc) _ a1⟩⟩
  exact plus_da h5 _ _ (frz_upd_new hq (st.co.fresh hq) fun _ z => by cases z)
end
end DL
/-! # DL, eighteenth part: try with several clauses 'except C as e'. -/
namespace DL
open PySem PySem.Spec PyProof.Rows L2
/-- what the clauses, all naming slot i, wish of an exception -/
def endsAs (i : Nat) (D : Ends) : Ends := { nx := fun τ G => D.nx (τ.set i none) G, rt := D.rt, bk := fun τ G => D.bk (τ.set i none) G, ct := fun τ G => D.ct (τ.set i none) G }
def wManyAs (K : PySem.W.Frag) (i : Nat) (Wout : WX) (D : Ends) : List (Value × (Addr → Value → Option Addr → TS)) → WX
  | [] => Wout
  | (c, ts) :: r => fun cls d τ G => ∃ b, PySem.W.exmOne K cls c = some b ∧ (b = true → ∀ a, G a = none → ts a cls d (endsAs i D) (τ.set i (some (.ref a))) G) ∧ (b = false → wManyAs K i Wout D r cls d τ G)
inductive HdsAs (X : Cx) (n : Str) : List ExceptHandler → List (Value × (Addr → Value → Option Addr → TS)) → Prop
  | nil : HdsAs X n [] []
  | cons {x : Str} {c : Value} {ts : Addr → Value → Option Addr → TS} {b₀ : Stmt} {suite : List Stmt} {np pp : Pos} {hds : List ExceptHandler} {l : List (Value × (Addr → Value → Option Addr → TS))} (hc : Names X x c)
      (hsu : ∀ (a : Addr) (oe : Obj) (cls : Value) (d : Option Addr) (pn : List (Addr × Obj)), Zc cls d oe → (∃ vs, oe.data = .fields vs) → PSs (X.suite a ((a, oe) :: pn)) (b₀ :: suite) (ts a cls d)) (r : HdsAs X n hds l) :
      HdsAs X n (.ExceptHandler (some (.Name x np)) (some n) (b₀ :: suite) pp :: hds) ((c, ts) :: l)
section
variable {X : Cx} {n : Str} {i : Nat} {body : List Stmt} {h₀ : ExceptHandler} {hds : List ExceptHandler} {l : List (Value × (Addr → Value → Option Addr → TS))} {pos : Pos} {tb : WX → TS} {Wout : WX}
theorem not_frame {B h : Heap} {fs : List Env} {a : Addr} {o : Obj} {vs : Array Value} (ff : h.FunFrames B fs) (e : h.get? a = some o) (dd : o.data = .fields vs) : a ∉ frs fs := fun hm => by
  obtain ⟨_, u, eu, hnf⟩ := ff.mem hm
  rw [e] at eu; cases eu
  exact hnf _ dd
theorem ps_try_manyAs (hs : X.stack = X.env :: X.outer) (hf : X.env.frame = some X.env.locals) (hN : X.N.Nodup) (hi : X.N[i]? = some n) (hln : X.env.kindOf n = some .local) (tk : Takes X Wout)
    (hb : ∀ (W : WX) (pn : List (Addr × Obj)) (xe : Value → Shared → Prop), Takes (X.tr pn xe) W → PassesOwn (model X.prog X.w) X.A X.env xe → PSs (X.tr pn xe) body (tb W)) (hh : HdsAs X n (h₀ :: hds) l) :
    PS X (.Try body (h₀ :: hds) [] [] pos) (fun D σ H => tb (wManyAs X.K i Wout D l) D σ H) := by
  refine ⟨fun pins s σ H D I h => wpAny_Try_except ?_⟩
  have okX := I.ok
  have hfrA : X.A.frames = some (X.env :: X.outer) := okX.frames.trans (by rw [hs])
  refine wpAny_mono ((hb (wManyAs X.K i Wout D l) (X.pn ++ pins) (fun e s₁ => wpAny (model X.prog X.w) X.A (noteFrame e X.env) (fun _ s₂ => wpAny (model X.prog X.w) X.A (setFlight e none) (fun _ s₃ => wpAny (model X.prog X.w) X.A (handleBy e X.env (h₀ :: hds)) (SP X pins D) X.xe s₃) X.xe s₂) X.xe s₁)
    (fun u sx xx => ?_) PassesOwn.looking).run [] s σ H D (I.toTry _) h) (fun f s1 hsp => ?_) (fun e s1 he => he)
  · obtain ⟨a, B, sI, pz, τ, G, cls, d, rfl, Jt, nb, up, sky, na, osx, ag, w⟩ := xx
    have J : Inv X pins τ G sI := Jt.ofTry okX
    show wpAny (model X.prog X.w) X.A (noteFrame (.ref a) X.env) _ _ _
    refine Sky.land Zc.steady hfrA hf (by rw [← hs]; exact sky) fun h3 fl3 up3 => ?_
    have J3 : Inv X pins τ G { sx with heap := h3 } := J.landed nb fl3.1 (up.trans up3) osx ag
    obtain ⟨o3, v3, he3, hz3, hd3⟩ := fl3.there
    have nfr := not_frame fl3.2.2.1 he3 hd3
    have nL : a ≠ X.env.locals := fun z => nfr (List.mem_filterMap.mpr ⟨X.env, List.mem_cons_self, by rw [hf, z]⟩)
    have nF : a ∉ X.fs := fun hm => (List.mem_filterMap.mp hm).elim fun e hee => nfr (List.mem_filterMap.mpr ⟨e, List.mem_cons_of_mem _ hee.1, hee.2⟩)
    have S3 := J3.suite he3 hd3 na nL nF
    have go : ∀ {hds' : List ExceptHandler} {l' : List (Value × (Addr → Value → Option Addr → TS))}, HdsAs X n hds' l' → wManyAs X.K i Wout D l' cls d τ G → wpAny (model X.prog X.w) X.A (handleBy (.ref a) X.env hds') (SP X pins D) X.xe { sx with heap := h3 } := by
      intro hds' l' hk
      induction hk with
      | nil =>
        intro w
        refine wpAny_handleBy_nil ?_
        obtain ⟨k1, k2, k3, oe, vs, T, oT, tsx, he, hz, hd, h1, hr⟩ := id fl3
        have fin : wpAny (model X.prog X.w) X.A (setFlight (.ref a) X.env.frame) (fun _ s4 => wpAny (model X.prog X.w) X.A (throw (.ref a) : Sem Flow) (SP X pins D) X.xe s4) X.xe { sx with heap := h3 } := by
          rw [hf]
          exact HandSPX.setFlight_upZ fl3 fun h4 hh4 up4 => wpAny_throw (tk _ _ ⟨a, B, sI, pins, τ, G, cls, d, rfl, J, nb, (up.trans up3).trans up4, .inr (.inr (by rw [hs]; exact hh4)), na, osx, ag, w⟩)
        unfold PySem.passOn; refine wpAny_bind (wpAny_field he hd h1 ?_); rw [if_neg (show ¬ ((Value.ref T == Value.none) = true) from by simp)]
        first | exact wpAny_bind (wpAny_pure (wpAny_bind fin)) | exact wpAny_bind fin
      | @cons x c ts b₀ suite np pp hds2 l2 hc hsu r ih =>
        intro w
        obtain ⟨b, hb1, hyes, hno⟩ := w
        refine wpAny_handleBy_cons (codeAny_handlers_test ?_) (by intro q; cases q)
        have LT : PySem.W.Looks (model X.prog X.w) h3 (typeOf (.ref a)) cls := fun A Q E s k q => wpAny_typeOf_ref (k _ _ he3) (hz3.1.symm ▸ q)
        have test : ∀ {Q : Value → Shared → Prop} {E : Value → Shared → Prop}, Q c { sx with heap := h3 } → wpAny (model X.prog X.w) (X.A.mark (some (.ref a))) (eval (.Name x np) X.env) Q E { sx with heap := h3 } := fun {Q E} q => by
          rcases hc with ⟨hg, hdbg, hm | ⟨hm, hv, hnn⟩⟩
          · exact ld_glob (X := X.suite a ((a, o3) :: (X.pn ++ pins))) S3 hg hm q hdbg
          · exact ld_blt (X := X.suite a ((a, o3) :: (X.pn ++ pins))) S3 hg hm hv q hnn hdbg
        refine test ((PySem.W.exm_one (M := model X.prog X.w) (J3.kIn) LT hb1).here ?_)
        cases b with
        | true =>
          refine codeAny_handlers_suite_as (HandSPX.lands_againZ fl3 fun h4 fl4 up4 => ?_)
          have J4 : Inv X pins τ G { sx with heap := h4 } := J.landed nb fl4.1 ((up.trans up3).trans up4) osx ag
          obtain ⟨o4, v4, he4, hz4, hd4⟩ := fl4.there
          refine store_ok (X := X.suite a ((a, o4) :: (X.pn ++ pins))) (v := .ref a) (J4.suite he4 hd4 na nL nF) hN hi (.inl hln) rfl (fun s5 S5 => ?_) (.inr hln)
          refine wpAny_mono ((hsu a o4 cls d (X.pn ++ pins) hz4 ⟨_, hd4⟩).run [] s5 _ G _ S5 (hyes rfl a na)) (fun f s6 hsp => ?_) (fun _ _ z => False.elim z)
          have out : ∀ {ρ : L2.St} {G6 : Hp} {Q : Shared → Prop}, Inv (X.suite a ((a, o4) :: (X.pn ++ pins))) [] ρ G6 s6 → (∀ s7, Inv X pins (ρ.set i none) G6 s7 → Q s7) → wpAny (model X.prog X.w) X.A (do bindName X.env n .none; unbindBehindTheSuite X.env n pp) (fun _ s7 => Q s7) X.xe s6 := fun {ρ G6 Q} S6 hq => gone_ok (S6.unsuite okX) hN hi hln hq
          cases f with
          | next => obtain ⟨ρ, G6, S6, q6⟩ := hsp; exact out S6 fun s7 J7 => ⟨_, _, J7, q6⟩
          | brk => obtain ⟨ρ, G6, S6, q6⟩ := hsp; exact out S6 fun s7 J7 => ⟨_, _, J7, q6⟩
          | cont => obtain ⟨ρ, G6, S6, q6⟩ := hsp; exact out S6 fun s7 J7 => ⟨_, _, J7, q6⟩
          | ret u => obtain ⟨v6, ρ, G6, S6, r6, q6⟩ := hsp; exact out S6 fun s7 J7 => ⟨_, _, _, J7, r6, q6⟩
        | false =>
          show wpAny _ X.A (handleBy (.ref a) X.env hds2) _ _ _
          exact ih (hno rfl)
    exact go hh w
  · cases f with
    | next => obtain ⟨ρ, G1, J1, q⟩ := hsp; exact wpAny_execs_nil ⟨ρ, G1, J1.ofTry okX, q⟩
    | brk => obtain ⟨ρ, G1, J1, q⟩ := hsp; exact ⟨ρ, G1, J1.ofTry okX, q⟩
    | cont => obtain ⟨ρ, G1, J1, q⟩ := hsp; exact ⟨ρ, G1, J1.ofTry okX, q⟩
    | ret u => obtain ⟨v, ρ, G1, J1, r, q⟩ := hsp; exact ⟨v, ρ, G1, J1.ofTry okX, r, q⟩
end
end DL
/-! # DL, nineteenth part: a lambda called within try, the errors' fields told. -/
namespace DL
open PySem PySem.Spec L2
section
variable {X : Cx} {x fl : Str} {C fI : Addr}
/-- e.fl, e the error that the suite holds -/
def tXf (fl : Str) (C a : Addr) (cls : Value) (d : Option Addr) (te : TE) : TE := fun σ H Q => te σ H fun y H1 => y = .ref a ∧ cls = .ref C ∧ ∃ dd v, d = some dd ∧ H1 dd = some (.xd [(fl, v)]) ∧ Q v H1
theorem pe_xf {a : Addr} {oe : Obj} {cls : Value} {d : Option Addr} {pn : List (Addr × Obj)} {e : Expr} {te : TE} {pos : Pos} (T : PySem.OwnE.OwnTxt X.prog X.K X.mg x fl C fI) (hz : Zc cls d oe) (hf : ∃ vs, oe.data = .fields vs) (he : PE (X.suite a ((a, oe) :: pn)) e te)
    (hb : attributeBase e fl X.env (eval e X.env) = eval e X.env) : PE (X.suite a ((a, oe) :: pn)) (.Attribute e fl pos) (tXf fl C a cls d te) := by
  refine ⟨fun pins s σ H Q I h => attr_of hb (thn (he.run pins s σ H _ I h) fun u s1 ⟨y, H1, I1, ry, ey, ec, dd, v, ed, ea, q⟩ => ?_)⟩
  subst ey ec ed
  cases (show u = Value.ref a from ry)
  obtain ⟨vs, hd⟩ := hf
  obtain ⟨mA, hns, hr⟩ := (show ObjOk X.prog X.w H1 s1.heap dd (.xd [(fl, v)]) from I1.hok dd _ ea)
  obtain ⟨od, ho, hl⟩ := lookIn_ns hns
  obtain ⟨u, hu, ru⟩ := RelO.some_of (v := v) (o := mA fl) (by have z := hr fl; rwa [show List.lookup fl [(fl, v)] = some v by simp [List.lookup]] at z)
  have J : PySem.W.InstAt s1.heap a oe C (some od) := ⟨(I1.pin (a, oe) (List.mem_append_left _ List.mem_cons_self)).1, hz.1, by unfold PySem.W.notCls; rw [hd] <;> rfl, by rw [hz.2]; exact ho⟩
  exact HandSPX.exc_get I1.kIn J T.ga T.gg T.exC (PySem.W.findObj_own T.hdC T.noN rfl (by rw [hl, hu])) (handed_of ru) ⟨v, H1, I1.tok _, ru, q⟩
end
/-- an error that is heard: its class's name, its field, what is told, its class -/
structure Hrd where
  x : Str
  fl : Str
  tag : Str
  C : Addr
inductive HL (told e : Str) : List ExceptHandler → List Hrd → Prop
  | nil : HL told e [] []
  | cons {q : Hrd} {j : Nat} {p1 p2 p3 p4 p5 p6 p7 p8 : Pos} {hs : List ExceptHandler} {l : List Hrd} (r : HL told e hs l) : HL told e (.ExceptHandler (some (.Name q.x p1)) (some e) [.Assign [.Name told p2] (.List [.Constant (.str q.tag) j p3, .Attribute (.Name e p4) q.fl p5] p6) p7] p8 :: hs) (q :: l)
def rdH (l : List Hrd) : List (Value × (Addr → Value → Option Addr → TS)) := l.map fun q => (Value.ref q.C, fun a cls d => tAsg (tLst (tCons (tC (.str q.tag)) (tCons (tXf q.fl q.C a cls d (tVar 2)) tNil))) (gName 1))
def TTh (l : List Hrd) : (XK → Hp → VK → Prop) → Hp → VK → Prop := fun tl H Q => ∀ p0, H p0 = none → tl (fun cls d G => ∃ q ∈ l, cls = .ref q.C ∧ ∃ dd v, d = some dd ∧ G dd = some (.xd [(q.fl, v)]) ∧ ∀ p, G p = none → Q (.ref p) (upd G p (.lst [.str q.tag, v])))
  (upd H p0 (.lst [.str "none", .non])) (fun v G => ∀ p, G p = none → Q (.ref p) (upd G p (.lst [.str "told", v])))
section
variable {X : Cx}
theorem heard_hds {told e : Str} (hN : X.N.Nodup) (h1 : X.N[1]? = some told) (h2 : X.N[2]? = some e) (l1 : X.env.scope.names.lookup told = some .local) (l2 : X.env.scope.names.lookup e = some .local) (he : (e == ("__debug__" : Str)) = false) (he2 : (e == ("__classdict__" : Str)) = false)
    (hb : ∀ f p, attributeBase (.Name e p) f X.env (eval (.Name e p) X.env) = eval (.Name e p) X.env) : ∀ {hs : List ExceptHandler} {l : List Hrd}, HL told e hs l → (∀ q ∈ l, (∃ fI, PySem.OwnE.OwnTxt X.prog X.K X.mg q.x q.fl q.C fI) ∧ Gl X q.x ∧ (q.x == ("__debug__" : Str)) = false) → HdsAs X e hs (rdH l)
  | _, _, .nil, _ => .nil
  | _, _, .cons (q := q) r, h => by
    obtain ⟨⟨fI, T⟩, hg, hd⟩ := h q List.mem_cons_self
    refine .cons ⟨hg, hd, .inl T.gC⟩ (fun a oe cls d pn hz hf => ?_) (heard_hds hN h1 h2 l1 l2 he he2 hb r fun q' hq => h q' (List.mem_cons_of_mem _ hq))
    exact pss_one (ps_set (X := X.suite a ((a, oe) :: pn)) hN h1 (.inl l1) (pe_lst (pa_cons pe_str (pa_cons (pe_xf T hz hf (pv (X := X.suite a ((a, oe) :: pn)) 2 h2 (.inl l2) he he2) (hb _ _)) pa_nil (by rfl)) (by rfl))) (by rfl) (.inr l1))
theorem heard_w {K : PySem.W.Frag} {D : Ends} {cls : Value} {d : Option Addr} {τ : L2.St} {G : Hp} {q : Hrd} : ∀ {l : List Hrd}, q ∈ l → (∀ q1 ∈ l, ∀ q2 ∈ l, PySem.W.exmOne K (.ref q1.C) (.ref q2.C) = some (decide (q1.C = q2.C))) → (∀ q1 ∈ l, ∀ q2 ∈ l, q1.C = q2.C → q1 = q2) → cls = .ref q.C → 2 < τ.length →
    (∃ dd v, d = some dd ∧ G dd = some (.xd [(q.fl, v)]) ∧ ∀ a p, G a = none → G p = none → D.nx (((τ.set 2 (some (.ref a))).set 1 (some (.ref p))).set 2 none) (upd G p (.lst [.str q.tag, v]))) → wManyAs K 2 (fun _ _ _ _ => False) D (rdH l) cls d τ G
  | [], hm, _, _, _, _, _ => by cases hm
  | q0 :: l, hm, hx, hi, hc, hl, k => by
    refine ⟨decide (q.C = q0.C), by rw [hc]; exact hx q hm q0 List.mem_cons_self, fun hb a ha => ?_, fun hb => ?_⟩
    · have e := hi q hm q0 List.mem_cons_self (of_decide_eq_true hb)
      subst e
      obtain ⟨dd, v, hd, hg, kk⟩ := k
      refine ⟨.ref a, ?_, rfl, hc, dd, v, hd, hg, few (n := 2) (by omega), fun p hp => kk a p ha hp⟩
      rw [List.getElem?_set, if_pos rfl, if_pos hl]
    · have ne : q ≠ q0 := fun z => by rw [z] at hb; simp at hb
      refine heard_w ((List.mem_cons.mp hm).resolve_left ne) (fun a ha b hb => hx a (List.mem_cons_of_mem _ ha) b (List.mem_cons_of_mem _ hb)) (fun a ha b hb => hi a (List.mem_cons_of_mem _ ha) b (List.mem_cons_of_mem _ hb)) hc hl k
theorem heard_gives {Ng : List Str} {x q : Str} {sg : Scope} {g : Addr} {cdg : Value} {told a e : Str} {hs : List ExceptHandler} {h₀ : ExceptHandler} {l : List Hrd} {j0 j1 : Nat} {p1 p2 p3 p4 p5 p6 p7 p8 p9 r1 r2 r3 r4 r5 : Pos} (hN : Ng = [a, told, e]) (nd : Ng.Nodup) (l1 : sg.names.lookup told = some .local) (l2 : sg.names.lookup e = some .local)
    (hk : sg.kind = .function) (he : (e == ("__debug__" : Str)) = false) (he2 : (e == ("__classdict__" : Str)) = false) (ht : (told == ("__debug__" : Str)) = false) (ht2 : (told == ("__classdict__" : Str)) = false)
    (hb : ∀ f p env, attributeBase (.Name e p) f env (eval (.Name e p) env) = eval (.Name e p) env) (hh : HL told e (h₀ :: hs) l) (hl : ∀ q ∈ l, (∃ fI, PySem.OwnE.OwnTxt X.prog X.K X.mg q.x q.fl q.C fI) ∧ sg.names.lookup q.x = some .globalImplicit ∧ (q.x == ("__debug__" : Str)) = false)
    (hx : ∀ q1 ∈ l, ∀ q2 ∈ l, PySem.W.exmOne X.K (.ref q1.C) (.ref q2.C) = some (decide (q1.C = q2.C))) (hi : ∀ q1 ∈ l, ∀ q2 ∈ l, q1.C = q2.C → q1 = q2) :
    LamX.GivesTo X Ng x sg g cdg [.Assign [.Name told p1] (.List [.Constant (.str "none") j0 p2, .Constant .none j1 p3] p4) p5, .Try [.Assign [.Name told p6] (.List [.Constant (.str "told") j0 p7, .Call (.Name a p8) [] [] p9] r1) r2] (h₀ :: hs) [] [] r3, .Return (some (.Name told r4)) r5] a q (TTh l) := by
  intro f c' s H Q tl act hc h
  subst hN
  refine ⟨_, pss_cons (ps_set (i := 1) nd rfl (.inl l1) (pe_lst (pa_cons pe_str (pa_cons pe_non pa_nil (by rfl)) (by rfl))) (by rfl) (.inr l1)) (pss_cons (ps_try_manyAs (i := 2) (n := e) (X := (cxOf C8.CX0 X.prog X.w X.K X.mg X.base [a, told, e] x sg g cdg X.A X.stack s H C8.E0).nox) (l := rdH l)
      (tb := fun W D σ H => ∃ Ech : XK, (∀ cls d σ' H', σ'.length = 3 → Ech cls d H' → W cls d σ' H') ∧ σ.length = 3 ∧ σ[0]? = some (some (.ref f)) ∧ H c' = some (LamX.CodeO c' q) ∧ tl Ech H (fun v G => ∀ p, G p = none → D.nx (σ.set 1 (some (.ref p))) (upd G p (.lst [.str "told", v]))))
      rfl rfl nd rfl l2 LamX.takes0 (fun W pn xe tk hp => ?_) (heard_hds nd rfl rfl l1 l2 he he2 (fun f p => hb f p _) hh fun q hq => hl q hq)) (pss_one (ps_ret (pv 1 rfl (.inl l1) ht ht2)))), ?_⟩
  · refine ⟨fun pins s' σ H' D I h' => ?_⟩
    obtain ⟨Ech, hW, h0, h1, h2, h3⟩ := h'
    have tk' : Takes ((cxOf C8.CX0 X.prog X.w X.K X.mg X.base [a, told, e] x sg g cdg X.A X.stack s H C8.E0).tr pn xe) (fun cls d σ H => σ.length = 3 → W cls d σ H) := fun u sx ⟨b, B, sI, pz, ρ, G, cls, d, e1, J, nb, up, sky, na, os, ag, w⟩ => tk u sx ⟨b, B, sI, pz, ρ, G, cls, d, e1, J, nb, up, sky, na, os, ag, w J.len⟩
    have hpe := act _ pn xe Ech p8 p9 tk' fun cls d σ' H' z hl => hW cls d σ' H' hl z
    have hst := pss_one (ps_set (i := 1) (pos := r2) (pos' := p6) nd rfl (.inl l1) (pe_lst (pos := r1) (pa_cons (pe_str (x := "told") (j := j0) (pos := p7)) (pa_cons hpe pa_nil (by rfl)) (by rfl))) (by rfl) (.inr l1))
    refine hst.run pins s' σ H' D I ⟨h1, h2, ?_⟩
    have e1 : (fun v G => ∀ p, G p = none → D.nx (σ.set 1 (some (.ref p))) (upd G p (.lst [.str "told", v]))) = (fun v G => ([V.str "told", v] : List V).length ≤ sizeLine ∧ ∀ p, G p = none → D.nx (σ.set 1 (some (.ref p))) (upd G p (.lst [.str "told", v]))) := by
      funext v G
      exact propext ⟨fun z => ⟨few (n := 2) (by omega), z⟩, fun z => z.2⟩
    rw [e1] at h3
    exact h3
  · refine ⟨few (n := 2) (by omega), fun p0 hp0 => ?_⟩
    refine ⟨fun cls d G => ∃ q ∈ l, cls = .ref q.C ∧ ∃ dd v, d = some dd ∧ G dd = some (.xd [(q.fl, v)]) ∧ ∀ p, G p = none → Q (.ref p) (upd G p (.lst [.str q.tag, v])), fun cls d σ' G hl' ⟨q', hq, hcl, dd, v, hd, hg, k⟩ => ?_, rfl, rfl, ?_, ?_⟩
    · refine heard_w hq hx hi hcl (by omega) ⟨dd, v, hd, hg, fun b p hb' hp' => ⟨.ref p, ?_, k p hp'⟩⟩
      match σ', hl' with
      | [u0, u1, u2], _ => rfl
    · rw [upd_ne (ne_of_none hc hp0)]
      exact hc
    · have h3 := h p0 hp0
      have e1 : (fun v G => ∀ p, G p = none → Q (.ref p) (upd G p (.lst [.str "told", v]))) = (fun v G => ∀ p, G p = none → ∃ u, (([some (V.ref f), some (V.ref p0), none] : L2.St).set 1 (some (.ref p)))[1]? = some (some u) ∧ Q u (upd G p (.lst [.str "told", v]))) := by
        funext v G
        exact propext ⟨fun z p hp => ⟨_, rfl, z p hp⟩, fun z p hp => by
          obtain ⟨u, z1, z2⟩ := z p hp
          cases z1
          exact z2⟩
      rw [e1] at h3
      exact h3
end
end DL
/-! # DL, twentieth part: x(lambda: e), x telling what is heard of e. -/
namespace DL
open PySem PySem.Spec L2
/-- what is told of an outcome -/
def Hrd.key (q : Hrd) : Str × Str × Str := (q.x, q.fl, q.tag)
/-- the def x that hears -/
structure HeardOk (e : Wd) (x : Str) (L : List Hrd) : Prop where
  cls : ∀ q ∈ L, e.mg q.x = some (.ref q.C)
  ex : ∃ (g : Addr) (oc : Value) (od : Option Addr) (dV kV doc pm : Value) (an : Option Addr) (cdv ct : Value) (osl : Array (Option Value)) (pg : Arguments) (bg : List Stmt) (sg : Scope) (a : Str) (Ng : List Str), e.mg x = some (.ref g) ∧ PySem.W.keepIn e.K (.ref g) = true ∧
    e.K.lookup g = some ⟨oc, od, .func (PySem.W.fnOf x x pg bg sg dV kV doc pm an cdv ct), osl⟩ ∧ PySem.W.codeIn e.K cdv x = true ∧ L2.Binds e.K (PySem.W.fnOf x x pg bg sg dV kV doc pm an cdv ct) [a] [] ∧ FnScope Ng [a] sg ∧ Ng[0]? = some a ∧ Vis sg a ∧
    (a == ("__debug__" : Str)) = false ∧ (a == ("__classdict__" : Str)) = false ∧ ∀ (X : Cx) (q : Str), X.prog = e.P → X.K = e.K → X.mg = e.mg → LamX.GivesTo X Ng x sg g cdv bg a q (TTh L)
/-- the context of a lambda's body -/
def CP.lamC (c : CP) (scope : Scope) (k : Nat) (W : XK) : CP := { c with sc := scope, k := k, W := W, fnb := fun _ => false, lam := none }
/-- the maker's table -/
def TabOk (c : CP) : Prop := ∃ (q : Str) (ca P : Addr), c.lam = some (q, ca) ∧ LamX.TabB c.base c.mg ca P ∧ (P, q ++ "<lambda>") ∈ c.T ∧ ∀ p ∈ c.T, p.1 = P → p.2 = q ++ "<lambda>"
section
variable {c : CP} {B : Bs} {Γ : List Sl} {S : DS} {σ : L2.St} {H H1 : Hp} {os : List Addr} {mA : MA}
theorem has_lam {X : Cx} (hX : c.Has X) {scope : Scope} {k : Nat} {E : XK} {A : Around} {outer : List Env} {s : Shared} {f c' : Addr} (hr : Room k (A.deeper (LamX.lamEnv X scope s.heap.objs.size f c'))) : (c.lamC scope k E).Has (LamX.lamCx X A outer s H E scope f c') :=
  ⟨hX.prog, hX.w, hX.K, hX.mg, hX.base, hX.N, hX.nd, rfl, hr, rfl, passes_of rfl, takes_of rfl rfl rfl rfl, (fun x h => by cases h), fun q h => by cases h⟩
theorem mst_ext (h : Mst mA H S) (e : LamX.ExtN H H1) : Mst mA H1 S := by
  cases mA with
  | none => trivial
  | some m =>
    obtain ⟨h1, h2, h3, h4⟩ := h
    exact ⟨e _ _ h1 (fun _ z => by cases z), e _ _ h2 (fun _ z => by cases z), e _ _ h3 (fun _ z => by cases z), h4⟩
theorem find_key : ∀ {L : List Hrd} {cn n : Str} {q : Str × Str × Str}, (L.map Hrd.key).find? (fun q => decide (q.1 = cn ∧ q.2.1 = n)) = some q → ∃ r ∈ L, r.key = q ∧ r.x = cn ∧ r.fl = n
  | [], _, _, _, h => by cases h
  | r :: L, cn, n, q, h => by
    rw [List.map_cons, List.find?_cons] at h
    split at h
    · rename_i hd
      cases h
      have z := of_decide_eq_true hd
      exact ⟨r, List.mem_cons_self, rfl, z.1, z.2⟩
    · obtain ⟨r', h1, h2⟩ := find_key h
      exact ⟨r', List.mem_cons_of_mem _ h1, h2⟩
/-- x(lambda: e) -/
theorem re_heard {x : Str} {L : List Hrd} {m : M D} {params : Arguments} {body : Expr} {scope : Scope} {lpos p pos : Pos} (k : Nat) (h : HeardOk c.toWd x L) (ht : TabOk c) (hb : ∀ W, RefE (c.lamC scope k W) Γ body m) (hg : c.sc.names.lookup x = some .globalImplicit := by rfl) (hL : LamX.lamSB c.sc scope = true := by kernel_rfl)
    (hdef : ∀ env, defaultsOf params env = ([], []) := by intro _; rfl) (hbind : ∀ (q : Str) (cl : List (Str × Addr)) (pm cv ctv : Value), bindArgs (PySem.W.kla_fn "<lambda>" q params body scope cl pm cv ctv) ⟨[], []⟩ = pure [] := by intros; rfl) (hk : k + 2 ≤ c.k := by first | exact Nat.le_of_ble_eq_true rfl | exact Nat.le_refl _)
    (hdb : (x == ("__debug__" : Str)) = false := by decide) : RefE c Γ (.Call (.Name x p) [.Lambda params body scope lpos] [] pos) (heardM (L.map Hrd.key) m) := by
  intro B S σ H os Q st hacc
  obtain ⟨g, oc, od, dV, kV, doc, pm, an, cdv, ct, osl, pg, bg, sg, a, Ng, hm, hkp, lk, hcg, hbn, Sg, hNg, hva, hd, hcd, hG⟩ := h.ex
  obtain ⟨q, ca, P, hlam, TB, hmT, hu⟩ := ht
  refine ⟨LamX.tLam c.T (TTh L) (fun E => WE (c.lamC scope k E) body), fun X hX => ?_, st.co.tab, fun H1 e1 T1 p0 hp0 => ?_⟩
  · obtain ⟨hq1, hq2⟩ := hX.lamq _ hlam
    have hq1 : X.env.qual = q := hq1
    exact LamX.pe_lamcall (k := k) (gl_of hX hg) (by rw [hX.mg]; exact hm) (by rw [hX.K]; exact hkp) (by rw [hX.K]; exact lk) (by rw [hX.K]; exact hcg) (by rw [hX.K]; exact hbn) Sg hNg hva (hG X _ hX.prog hX.K hX.mg) (by rw [hX.base, hX.mg]; exact TB) hq2 (by rw [hq1]; exact hmT) (by rw [hq1]; exact hu) ⟨hX.room.hd, (hX.room.mono hk).dp, (hX.room.mono hk).un⟩
      (by rw [hX.sc]; exact LamX.lamS_by hL) (hdef _) hbind (fun A outer s H E f c' hr => pe_W (has_lam hX hr) body) hdb hd hcd
  · have a1 : Aft c.T B.mA H H1 S := ⟨fun b o z1 z2 _ => e1 b o z1 z2, mst_ext st.co.mst e1, T1⟩
    have st1 := st.step a1
    have a2 := Aft.new (o := .lst [.str "none", .non]) st1.co hp0
    have st2 := st1.step a2
    refine hb _ B S σ _ os _ ⟨st2.co, st2.len, st2.sl, st2.nd⟩ ?_
    unfold heardM at hacc
    cases hmS : m S with
    | ok d S' =>
      rw [hmS] at hacc
      intro v H2 a3 hv p hp
      have a3 : Aft c.T B.mA _ H2 S' := a3
      refine (dem_of (z := .list [.str "told", d]) (st2.step a3).co fun v' H' a' hd' => (show PostE c B.mA os H Q (.list [.str "told", d]) S' from hacc) v' H' (a1.trans (a2.trans (a3.trans a'))) hd').lst _ _ p rfl ⟨_, _, rfl, rfl, v, _, rfl, hv, rfl⟩ hp
    | exc cn n y S' =>
      rw [hmS] at hacc
      dsimp only at hacc
      cases hf : (L.map Hrd.key).find? (fun q => decide (q.1 = cn ∧ q.2.1 = n)) with
      | none => rw [hf] at hacc; exact hacc.elim
      | some q0 =>
        rw [hf] at hacc
        obtain ⟨r, hr, hkey, hrx, hrf⟩ := find_key hf
        intro C dd vx H2 hC a3 hdd hv
        have a3 : Aft c.T B.mA _ H2 S' := a3
        have hC2 := h.cls r hr
        rw [hrx] at hC2
        have hCC : C = r.C := by
          have z := hC.symm.trans hC2
          cases z
          rfl
        refine ⟨r, hr, by rw [hCC], dd, vx, rfl, by rw [hrf]; exact hdd, fun p hp => ?_⟩
        have et : q0.2.2 = r.tag := by rw [← hkey]; rfl
        have hacc : (Res.ok (PyData.list [PyData.str q0.2.2, y]) S').acc (PostE c B.mA os H Q) (PostX c B.mA os H) := hacc
        rw [et] at hacc
        exact (dem_of (z := .list [.str r.tag, y]) (st2.step a3).co fun v' H' a' hd' => (show PostE c B.mA os H Q (.list [.str r.tag, y]) S' from hacc) v' H' (a1.trans (a2.trans (a3.trans a'))) hd').lst _ _ p rfl ⟨_, _, rfl, rfl, vx, _, rfl, hv, rfl⟩ hp
    | stuck => rw [hmS] at hacc; exact hacc.elim
/-- .. told by keys alone -/
theorem re_heardK {x : Str} {ks : List (Str × Str × Str)} {m : M D} {params : Arguments} {body : Expr} {scope : Scope} {lpos p pos : Pos} (k : Nat) (h : ∃ L, HeardOk c.toWd x L ∧ L.map Hrd.key = ks) (ht : TabOk c) (hb : ∀ W, RefE (c.lamC scope k W) Γ body m) (hg : c.sc.names.lookup x = some .globalImplicit := by rfl) (hL : LamX.lamSB c.sc scope = true := by kernel_rfl)
    (hdef : ∀ env, defaultsOf params env = ([], []) := by intro _; rfl) (hbind : ∀ (q : Str) (cl : List (Str × Addr)) (pm cv ctv : Value), bindArgs (PySem.W.kla_fn "<lambda>" q params body scope cl pm cv ctv) ⟨[], []⟩ = pure [] := by intros; rfl) (hk : k + 2 ≤ c.k := by first | exact Nat.le_of_ble_eq_true rfl | exact Nat.le_refl _)
    (hdb : (x == ("__debug__" : Str)) = false := by decide) : RefE c Γ (.Call (.Name x p) [.Lambda params body scope lpos] [] pos) (heardM ks m) := by
  obtain ⟨L, h, rfl⟩ := h
  exact re_heard k h ht hb hg hL hdef hbind hk hdb
end
end DL
/-! # DL, twenty-first part: the drawing state is made. -/
namespace DL
open PySem PySem.Spec L2
theorem k_cg' : (("great" : Str) ≠ "cells") := by decide
theorem k_sg : (("spot" : Str) ≠ "great") := by decide
theorem k_sc : (("spot" : Str) ≠ "cells") := by decide
section
variable {c : CP} {H : Hp} {σ : L2.St} {S0 : DS} {Γ : List Sl}
/-- upd at an address that is new -/
theorem tabs_at {T : List (Addr × Str)} {p : Addr} {o : HO} {kv : List (Key × V)} (h : LamX.Tabs T H) (hp : H p = some (.dK kv)) : LamX.Tabs T (upd H p o) :=
  tabs_upd h ⟨(fun _ z => by rw [hp] at z; cases z), (fun _ z => by rw [hp] at z; cases z)⟩
theorem wb_begun {e1 e2 : Expr} {m1 m2 : M D} {y : Str} {cells great : List Int} {D : Ends} {p1 p2 p3 p4 p5 p6 p7 p8 p9 q1 q2 q3 q4 q5 : Pos} {j1 j2 j3 j5 j6 : Nat}
    (h1 : RefE c Γ e1 m1) (h2 : RefE c Γ e2 m2) (hr1 : ∀ S, m1 S = .ok (.list (cells.map .int)) S) (hr2 : ∀ S, m2 S = .ok (.list (great.map .int)) S) (hne : cells.length ≠ great.length)
    (hu : Γ[1]? = some .un) (hN : c.N[1]? = some y) (hx : Loc c.sc y) (hv : Vis c.sc y) (hd : (y == ("__debug__" : Str)) = false) (hcd : (y == ("__classdict__" : Str)) = false) (hf : c.fnb y = true ∨ c.sc.names.lookup y = some .local)
    (hw1 : ∀ X, c.Has X → swapsWith (.Dict [some (.Constant (.str "cells") j1 p2), some (.Constant (.str "great") j2 p3), some (.Constant (.str "spot") j3 p4)] [e1, .List [] p5, .Constant (.int 0) j5 p6] p7) (some (.Name y p1)) p8.line X.env = pure false)
    (hw2 : ∀ X, c.Has X → swapsWith e2 (some (.Subscript (.Name y p9) (.Constant (.str "great") j6 q1) q2)) q3.line X.env = pure false)
    (st : St c ⟨H, [], none⟩ Γ S0 σ H []) (Q : ∀ am ag ac H', Nx [] H H' → LamX.Tabs c.T H' → Mst (some (am, ag, ac)) H' ⟨cells, great, 0⟩ → D.rt (.ref am) H') :
    WSs c [.Assign [.Name y p1] (.Dict [some (.Constant (.str "cells") j1 p2), some (.Constant (.str "great") j2 p3), some (.Constant (.str "spot") j3 p4)] [e1, .List [] p5, .Constant (.int 0) j5 p6] p7) p8,
      .Assign [.Subscript (.Name y p9) (.Constant (.str "great") j6 q1) q2] e2 q3, .Return (some (.Name y q4)) q5] D σ H := by
  refine ⟨tSeq (tAsg (tDisp [(tC (.str "cells"), WE c e1), (tC (.str "great"), tLst tNil), (tC (.str "spot"), tC (.int 0))]) (gName 1)) (tSeq (sDPut (tVar 1) (tC (.str "great")) (WE c e2)) (tSeq (tRet (tVar 1)) tNever)), fun X hX => ?_, ?_⟩
  · refine pss_cons (ps_set hX.nd (by rw [hX.N]; exact hN) (by rw [hX.sc]; exact hx) (pe_disp (pps_cons pe_str (pe_W hX e1) (pps_cons pe_str (pe_lst pa_nil) (pps_cons pe_str pe_int pps_nil))) rfl rfl (by simp) (by simp)) (hw1 X hX) (hf.imp (hX.fn y) fun z => by rw [hX.sc]; exact z)) (pss_cons (ps_dput (by have := hX.room.units; omega) (pv_c 1 hX hN hv hd hcd) pe_str (pe_W hX e2) (hw2 X hX)) (pss_cons (ps_ret (pv_c 1 hX hN hv hd hcd)) pss_never))
  · intro am ham
    have a1 : Aft c.T none H (upd H am (.dK [])) S0 := Aft.new st.co ham
    have st1 := st.step a1
    have l1 : 1 < σ.length := by
      have z := st.len
      have z2 := (List.getElem?_eq_some_iff.mp hu).1
      omega
    refine h1 _ S0 σ _ [] _ st1 ?_
    rw [hr1]
    intro v1 H2 a2 hd1
    have a2 : Aft c.T none _ H2 S0 := a2
    obtain ⟨ac, vs, rfl, hac, hvs⟩ := (show ∃ a vs, v1 = .ref a ∧ frz H2 [] a = some (.lst vs) ∧ DaAll c.K (frz H2 []) (cells.map .int) vs from hd1)
    have hvs := hvs.ints_inv
    subst hvs
    have hac := (of_frz hac).1
    have ham2 : H2 am = some (.dK []) := a2.nx am _ upd_same (fun _ z => by cases z) (fun z => nomatch (show _ ∈ ([] : List Addr) from z))
    refine ⟨few (n := 0) (by simp), fun p5' hp5 => ?_⟩
    have st2 := st1.step a2
    have a3 : Aft c.T none H2 (upd H2 p5' (.lst [])) S0 := Aft.new st2.co hp5
    have n1 : am ≠ p5' := fun z => by rw [z, hp5] at ham2; cases ham2
    have n2 : ac ≠ p5' := fun z => by rw [z, hp5] at hac; cases hac
    have n3 : ac ≠ am := fun z => by rw [z, ham2] at hac; cases hac
    refine ⟨by rw [upd_ne n1]; exact ham2, [(kCells, .ref ac), (kGreat, .ref p5'), (kSpot, .int 0)], rfl, by simp, ?_⟩
    have em : mergeK [] [(kCells, V.ref ac), (kGreat, .ref p5'), (kSpot, .int 0)] = [(kCells, .ref ac), (kGreat, .ref p5'), (kSpot, .int 0)] := by simp [mergeK, putK, kCells, kGreat, kSpot, k_cg, k_cs, k_gs, k_cg', k_sg, k_sc]
    rw [em]
    have ham3 : upd H2 p5' (.lst []) am = some (.dK []) := by rw [upd_ne n1]; exact ham2
    have a4 : Aft c.T none H (upd (upd H2 p5' (.lst [])) am (.dK [(kCells, .ref ac), (kGreat, .ref p5'), (kSpot, .int 0)])) S0 := by
      have z := a1.trans (a2.trans a3)
      refine ⟨fun b o z1 z2 z3 => ?_, trivial, tabs_at z.tab ham3⟩
      rw [upd_ne fun w => by rw [w, ham] at z1; cases z1]
      exact z.nx b o z1 z2 z3
    have st4 := st.step a4
    have st5 : St c ⟨H, [], none⟩ Γ S0 (σ.set 1 (some (.ref am))) (upd (upd H2 p5' (.lst [])) am (.dK [(kCells, .ref ac), (kGreat, .ref p5'), (kSpot, .int 0)])) [] := by
      refine ⟨st4.co, by rw [List.length_set]; exact st4.len, fun i s e => ?_, fun i j ds es a e1 e2 e3 e4 => ?_⟩
      · by_cases hi : i = 1
        · subst hi
          rw [hu] at e
          cases e
          trivial
        · rw [List.getElem?_set_ne (fun z => hi z.symm)]
          exact st4.sl i s e
      · refine st4.nd i j ds es a e1 e2 ?_ ?_
        · rw [List.getElem?_set_ne (fun z => by subst z; rw [hu] at e1; cases e1)] at e3
          exact e3
        · rw [List.getElem?_set_ne (fun z => by subst z; rw [hu] at e2; cases e2)] at e4
          exact e4
    refine h2 _ S0 _ _ [] _ st5 ?_
    rw [hr2]
    intro v2 H5 a5 hd2
    have a5 : Aft c.T none _ H5 S0 := a5
    obtain ⟨ag, us, rfl, hag, hus⟩ := (show ∃ a vs, v2 = .ref a ∧ frz H5 [] a = some (.lst vs) ∧ DaAll c.K (frz H5 []) (great.map .int) vs from hd2)
    have hus := hus.ints_inv
    subst hus
    have hag := (of_frz hag).1
    have ham5 : H5 am = some (.dK [(kCells, .ref ac), (kGreat, .ref p5'), (kSpot, .int 0)]) := a5.nx am _ upd_same (fun _ z => by cases z) (fun z => nomatch (show _ ∈ ([] : List Addr) from z))
    have hac5 : H5 ac = some (.lst (cells.map V.int)) := a5.nx ac _ (by rw [upd_ne n3, upd_ne n2]; exact hac) (fun _ z => by cases z) (fun z => nomatch (show _ ∈ ([] : List Addr) from z))
    have hs : (σ.set 1 (some (V.ref am)))[1]? = some (some (.ref am)) := by rw [List.getElem?_set, if_pos rfl, if_pos l1]
    refine ⟨_, hs, am, _, rfl, DPut.k (k := kGreat) ham5 (few (n := 4) (by simp)), ?_⟩
    have ek : putK [(kCells, V.ref ac), (kGreat, .ref p5'), (kSpot, .int 0)] kGreat (.ref ag) = [(kCells, .ref ac), (kGreat, .ref ag), (kSpot, .int 0)] := by simp [putK, kCells, kGreat, kSpot, k_cg, k_cs, k_gs, k_cg', k_sg, k_sc]
    rw [ek]
    refine ⟨_, hs, Q am ag ac _ (fun b o z1 z2 z3 => ?_) (tabs_at a5.tab ham5) ⟨upd_same, ?_, ?_, fun z => ?_⟩⟩
    · rw [upd_ne fun w => by rw [w, ham] at z1; cases z1]
      exact (a4.trans a5).nx b o z1 z2 z3
    · exact (upd_ne (fun w : ag = am => by rw [w, ham5] at hag; cases hag)).trans hag
    · exact (upd_ne n3).trans hac5
    · have z : ag = ac := z
      rw [z, hac5] at hag
      have q := congrArg List.length (show cells.map V.int = great.map V.int from HO.lst.inj (Option.some.inj hag))
      rw [List.length_map, List.length_map] at q
      exact hne q
end
end DL
/-! # DL, twenty-second part: the def that makes the drawing state, and its call. -/
namespace DL
open PySem PySem.Spec L2
/-- the promise of the def that makes the drawing state, at scripts of P -/
def spB (K : PySem.W.Frag) (T : List (Addr × Str)) (P : List Int → Prop) (F : List Int → DS) : Sp := fun vs H Q _ => ∃ (sc : List Int) (a : Addr), vs = [.ref a] ∧ SqL K (frz H []) a (sc.map V.int) ∧ P sc ∧ LamX.Tabs T H ∧
  ∀ am ag ac H', Nx [] H H' → LamX.Tabs T H' → Mst (some (am, ag, ac)) H' (F sc) → Q (.ref am) H'
theorem fn_begun {e : Wd} {x qual : Str} {params : Arguments} {body : List Stmt} {scope : Scope} {dvs : List V} {f : Addr} {fd : FuncData} {N ps : List Str} {k : Nat} {P : List Int → Prop} {Fs : List Int → DS} (F : FunD e.K x qual params body scope dvs [] f fd) (S : FnScope N ps scope) (hnp : ps.length = 1)
    (hb : ∀ (sc : List Int) (W : XK) (H : Hp) (σ : L2.St) (D : Ends), P sc → St (cOf e N scope k W) ⟨H, [], none⟩ (slots [.giv sc] N.length) ⟨[], [], 0⟩ σ H [] → (∀ am ag ac H', Nx [] H H' → LamX.Tabs e.T H' → Mst (some (am, ag, ac)) H' (Fs sc) → D.rt (.ref am) H') → WSs (cOf e N scope k W) body D σ H) :
    FnOk e.P e.w e.K e.mg e.base (L2.CX e.P e.w) (k + 1) f fd ps (spB e.K e.T P Fs) := by
  refine F.ok S (fun vs H Q E h => ?_) fun cdv A outer s H vs Q E hr h => ?_
  · obtain ⟨sc, a, rfl, _⟩ := h
    rw [hnp]
    rfl
  · obtain ⟨sc, a, rfl, hd, hp, ht, hq⟩ := h
    have hle : 1 ≤ N.length := by
      have z := congrArg List.length S.pre
      rw [List.length_take, hnp] at z
      omega
    have hX : (cOf e N scope k E).Has (cxOf (L2.CX e.P e.w) e.P e.w e.K e.mg e.base N qual scope f cdv A outer s H E) := ⟨rfl, rfl, rfl, rfl, rfl, rfl, S.nd, rfl, hr, rfl, passes_of rfl, takes_of rfl rfl rfl rfl, (fun _ _ => rfl), fun q h => (by cases h)⟩
    have co : Co e.T ⟨H, [], none⟩ ⟨[], [], 0⟩ H [] := ⟨fun a h => h, fun a ha hb => absurd ha hb, .refl, trivial, (fun b z => nomatch (show b ∈ ([] : List Addr) from z)), (fun b z => nomatch (show b ∈ ([] : List Addr) from z)), ht⟩
    have har : ArAll e.K none [] H [.giv sc] [.ref a] := ⟨_, [], rfl, ⟨a, rfl, hd⟩, rfl⟩
    have st : St (cOf e N scope k E) ⟨H, [], none⟩ (slots [.giv sc] N.length) ⟨[], [], 0⟩ (L2.start N [.ref a]) H [] := by
      refine ⟨co, ?_, fun i s e => ?_, fun i j ds es a e1 => absurd e1 slots_own⟩
      · unfold slots L2.start
        rw [List.length_append, List.length_append, List.length_map, List.length_map, List.length_replicate, List.length_replicate, har.length]
      · unfold slots at e
        unfold L2.start
        exact start_sl (B := ⟨H, [], none⟩) (N := N) _ i s har e
    obtain ⟨t, ht, hh⟩ := hb sc E H (L2.start N [.ref a]) { nx := fun _ H' => Q .non H', rt := Q } hp st hq
    exact ⟨t, ht _ hX, hh⟩
section
variable {c : CP} {H : Hp} {σ : L2.St} {S0 : DS} {r : List Sl}
theorem wb_first {k : Nat} {x y z : Str} {fa : Addr} {fd : FuncData} {ps : List Str} {P : List Int → Prop} {Fs : List Int → DS} {sc : List Int} {D : Ends} {rest : List Stmt} {n : Nat} {p1 p2 p3 p4 p5 : Pos} (F : FnOk c.P c.w c.K c.mg c.base (L2.CX c.P c.w) k fa fd ps (spB c.K c.T P Fs))
    (hm : c.mg x = some (.ref fa)) (hkp : PySem.W.keepIn c.K (.ref fa) = true) (hb : Binds c.K fd ps []) (hp : P sc) (st : St c ⟨H, [], none⟩ (.giv sc :: .un :: List.replicate n .un) S0 σ H [])
    (hrest : ∀ am ag ac H', Nx [] H H' → St c ⟨H', [am, ag, ac], some (am, ag, ac)⟩ (.un :: .drw :: List.replicate n .un) (Fs sc) (σ.set 1 (some (.ref am))) H' [am, ag, ac] → WSs c rest D (σ.set 1 (some (.ref am))) H')
    (hk : k ≤ c.k) (hg : c.sc.names.lookup x = some .globalImplicit) (hdb : (x == ("__debug__" : Str)) = false) (hN0 : c.N[0]? = some z) (hv : Vis c.sc z) (hd : (z == ("__debug__" : Str)) = false) (hcd : (z == ("__classdict__" : Str)) = false)
    (hN : c.N[1]? = some y) (hx : Loc c.sc y) (hf : c.fnb y = true ∨ c.sc.names.lookup y = some .local) (hw : ∀ X, c.Has X → swapsWith (.Call (.Name x p2) [.Name z p3] [] p4) (some (.Name y p1)) p5.line X.env = pure false) :
    WSs c (.Assign [.Name y p1] (.Call (.Name x p2) [.Name z p3] [] p4) p5 :: rest) D σ H := by
  refine ⟨tSeq (tAsg (tCall (spB c.K c.T P Fs) [] c.W (tCons (tVar 0) tNil)) (gName 1)) (WSs c rest), fun X hX => pss_cons (ps_set hX.nd (by rw [hX.N]; exact hN) (by rw [hX.sc]; exact hx) (pe_call (CX := L2.CX X.prog X.w) (f := fa) (fd := fd) (ps := ps) (k := k) ?_ ⟨hX.room.hd, ?_, ?_⟩ (gl_of hX hg) (by rw [hX.mg]; exact hm) (by rw [hX.K]; exact hkp) (by rw [hX.K]; exact hb) .nil (passes_call hX.takes fun _ _ _ _ h => h) (pa_cons (pv_c 0 hX hN0 hv hd hcd) pa_nil (by rfl)) hdb (by rfl) (by rfl)) (hw X hX) (hf.imp (hX.fn y) fun z => by rw [hX.sc]; exact z)) (pss_W hX rest), ?_⟩
  · rw [hX.prog, hX.w, hX.K, hX.mg, hX.base]
    exact F
  · exact (hX.room.mono hk).dp
  · exact (hX.room.mono hk).un
  · obtain ⟨a, hv0, hd0⟩ := st.sl 0 _ rfl
    refine ⟨_, hv0, sc, a, rfl, hd0, hp, st.co.tab, fun am ag ac H' nx ht hms => hrest am ag ac H' nx ?_⟩
    have hl : σ.length = n + 2 := by
      have z := st.len
      rw [List.length_cons, List.length_cons, List.length_replicate] at z
      omega
    refine ⟨⟨fun a h => h, fun a ha hb => absurd ha hb, .refl, hms, fun b hb => hb, hms.dom, ht⟩, by rw [List.length_set, List.length_cons, List.length_cons, List.length_replicate, hl], fun i s e => ?_, fun i j ds es a e1 => ?_⟩
    · match i, e with
      | 0, e => cases e; trivial
      | 1, e =>
        cases e
        exact ⟨_, rfl, by rw [List.getElem?_set, if_pos rfl, if_pos (by omega)]⟩
      | i + 2, e =>
        have e : (List.replicate n Sl.un)[i]? = some s := e
        rw [List.getElem?_replicate] at e
        split at e
        · cases e; trivial
        · cases e
    · match i, e1 with
      | i + 2, e =>
        have e : (List.replicate n Sl.un)[i]? = some (.own ds) := e
        rw [List.getElem?_replicate] at e
        split at e
        · cases e
        · cases e
end
end DL
/-! # DL, twenty-third part: the def that hears, from its text. -/
namespace DL
open PySem PySem.Spec L2
theorem heardOk_of {e : Wd} {x : Str} {L : List Hrd} {pg : Arguments} {sg : Scope} {f : Addr} {fd : FuncData} {told a er : Str} {hs : List ExceptHandler} {h₀ : ExceptHandler} {j0 j1 : Nat} {p1 p2 p3 p4 p5 p6 p7 p8 p9 r1 r2 r3 r4 r5 : Pos}
    (F : FunD e.K x x pg [.Assign [.Name told p1] (.List [.Constant (.str "none") j0 p2, .Constant .none j1 p3] p4) p5, .Try [.Assign [.Name told p6] (.List [.Constant (.str "told") j0 p7, .Call (.Name a p8) [] [] p9] r1) r2] (h₀ :: hs) [] [] r3, .Return (some (.Name told r4)) r5] sg [] [] f fd)
    (hm : e.mg x = some (.ref f)) (S : FnScope [a, told, er] [a] sg) (hbn : L2.Binds e.K fd [a] []) (hva : Vis sg a) (l1 : sg.names.lookup told = some .local) (l2 : sg.names.lookup er = some .local) (hk : sg.kind = .function)
    (he : (er == ("__debug__" : Str)) = false) (he2 : (er == ("__classdict__" : Str)) = false) (ht : (told == ("__debug__" : Str)) = false) (ht2 : (told == ("__classdict__" : Str)) = false) (hd : (a == ("__debug__" : Str)) = false) (hcd : (a == ("__classdict__" : Str)) = false)
    (hb : ∀ f p env, attributeBase (.Name er p) f env (eval (.Name er p) env) = eval (.Name er p) env) (hh : HL told er (h₀ :: hs) L)
    (hl : ∀ q ∈ L, (∃ fI, PySem.OwnE.OwnTxt e.P e.K e.mg q.x q.fl q.C fI) ∧ sg.names.lookup q.x = some .globalImplicit ∧ (q.x == ("__debug__" : Str)) = false)
    (hx : ∀ q1 ∈ L, ∀ q2 ∈ L, PySem.W.exmOne e.K (.ref q1.C) (.ref q2.C) = some (decide (q1.C = q2.C))) (hi : ∀ q1 ∈ L, ∀ q2 ∈ L, q1.C = q2.C → q1 = q2) (hc : ∀ q ∈ L, e.mg q.x = some (.ref q.C)) : HeardOk e x L := by
  obtain ⟨oc, od, dV, kV, doc, pm, an, cdv, ct, osl, rfl, lk, hcode, _, _⟩ := F.ex
  refine ⟨hc, f, oc, od, dV, kV, doc, pm, an, cdv, ct, osl, pg, _, sg, a, [a, told, er], hm, F.kp, lk, hcode, hbn, S, rfl, hva, hd, hcd, fun X q e1 e2 e3 => ?_⟩
  refine heard_gives rfl S.nd l1 l2 hk he he2 ht ht2 hb hh (fun r hr => ?_) (by rw [e2]; exact hx) hi
  rw [e1, e2, e3]
  exact hl r hr
end DL
/-! # DL, twenty-fourth part: what the head tells: defs, own errors, constants, tables. -/
namespace DL
open PySem PySem.Spec PyProof.Rows L2
/-- an own error: its name, its field, the text of its __init__ -/
structure ErrD where
  x : Str
  fl : Str
  st : Stmt
abbrev ErrW : Type := Option (Str × Str × Arguments × FuncBody × Scope × Addr × List Str × Addr)
def errF (K : PySem.W.Frag) (x : Str) : Addr := He.ma K (He.ga K x) "__init__"
def errW (K : PySem.W.Frag) (x : Str) : ErrW := match K.lookup (errF K x) with
  | some ⟨_, _, .func fd, _⟩ => some (fd.name, fd.qualname, fd.params, fd.body, fd.scope, fd.globals, fd.closure.map (·.1), fd.builtins)
  | _ => none
def ErrD.val (d : ErrD) : ErrW := some ("__init__", d.x ++ ".__init__", defArgs d.st, .stmts (defBody d.st), defScope d.st, mainGlobals, ["__class__"], builtinsNs)
/-- the class's object -/
def clsB (K : PySem.W.Frag) (C : Addr) : Bool := match K.lookup C with
  | some ⟨.type t, _, .cls cd, sl⟩ => (match cd.mro, sl.toList with
    | .ref C' :: bm, [_, _, _, _, some (.builtin n), _] => decide (t = "type") && (decide (C' = C) && (decide (n = "ValueError.__new__") && (!cd.hasDel && (cd.hasDict && PySem.HandSPX.refsVE bm))))
    | _, _ => false)
  | _ => false
theorem clsB_ok {K : PySem.W.Frag} {C : Addr} (h : clsB K C = true) : ∃ nm q N bs bm sn sub ab col dd k0 k1 k2 k3 k5, K.lookup C = some (excClassObj nm q C N bs bm true sn sub ab col dd k0 k1 k2 k3 k5 "ValueError.__new__") ∧ PySem.HandSPX.refsVE bm = true := by
  unfold clsB at h
  split at h
  · rename_i t dd cd sl ho
    split at h
    · rename_i C' bm k0 k1 k2 k3 n k5 hm hs
      obtain ⟨h1, h⟩ := He.ba h
      obtain ⟨h2, h⟩ := He.ba h
      obtain ⟨h3, h⟩ := He.ba h
      obtain ⟨h4, h⟩ := He.ba h
      obtain ⟨h5, h6⟩ := He.ba h
      have g1 := of_decide_eq_true h1
      have g2 := of_decide_eq_true h2
      have g3 := of_decide_eq_true h3
      have g4 : cd.hasDel = false := by simpa using h4
      clear h h1 h2 h3 h4
      subst g1 g2 g3
      obtain ⟨nm, bs, mro, ns, qn, hd, sn, sub, ab, col, del⟩ := cd
      dsimp only at hm g4 h5
      subst hm g4 h5
      have hsl : sl = #[k0, k1, k2, k3, some (.builtin "ValueError.__new__"), k5] := by
        obtain ⟨l⟩ := sl
        simp only at hs
        rw [hs]
      subst hsl
      exact ⟨nm, qn, ns, bs, bm, sn, sub, ab, col, dd, k0, k1, k2, k3, k5, ho, h6⟩
    · cases h
  · cases h
/-- the function's own parts: no defaults, its code's file, its cell -/
def errFnB (K : PySem.W.Frag) (file : Str) (x : Str) : Bool := match K.lookup (errF K x) with
  | some ⟨_, _, .func fd, _⟩ => (match fd.defaults, fd.kwdefaults, fd.code, fd.closure with
    | .none, .none, .ref cda, [(_, cc)] => PySem.W.codeIn K (.ref cda) (x ++ ".__init__") && ((match K.lookup cda with
      | some ⟨_, _, .fields vs, _⟩ => (match (vs[2]? : Option Value) with
        | some (.str f _) => file == f
        | _ => false)
      | _ => false) && (match K.lookup cc with
      | some ⟨_, _, .cell (some (.ref C)), _⟩ => decide (C = He.ga K x)
      | _ => false))
    | _, _, _, _ => false)
  | _ => false
def isO (a b : Option Value) : Bool := decide (a = b)
def errB (K : PySem.W.Frag) (file x fl : Str) : Bool :=
  (He.Fa.glo x).ok K && (clsB K (He.ga K x) && (He.eqO (PySem.W.findIn K (.ref (He.ga K x)) "__setattr__") (some (some (.builtin "object.__setattr__"))) && (He.eqO (PySem.W.findIn K (.ref (He.ga K x)) "__getattribute__") (some (some (.builtin "BaseException.__getattribute__"))) &&
  (He.eqO (PySem.W.findIn K (.ref (He.ga K x)) "__getattr__") (some none) && (He.eqO (PySem.W.findIn K (.ref (He.ga K x)) fl) (some none) && (He.eqO (PySem.W.findIn K (.ref (He.ga K x)) "__init__") (some (some (.ref (errF K x)))) && (isO (PySem.W.typeIn K (.ref (errF K x))) (some (.type "function")) &&
  (PySem.W.keepIn K (.ref (He.ga K x)) && (decide (PySem.W.subIn K (.ref (He.ga K x)) (.type "BaseException") = some true) && (decide (PySem.W.subIn K (.ref (He.ga K x)) (.type "ValueError") = some true) && (decide (PySem.W.mroIn K (He.ga K x) (.ref (He.ga K x)) = some true) && (isO (PySem.W.typeIn K (.ref (He.ga K x))) (some (.type "type")) &&
  (PySem.W.hasDictIn K (He.ga K x) && (He.eqO (PySem.W.ks_superIn K (He.ga K x) (He.ga K x) "__init__") (some (some (.builtin "ValueError.__init__"))) && (He.eqO (PySem.W.nsIn K cStatics "thirdparty.any") (some none) && errFnB K file x)))))))))))))))
/-- what the text of an own error's __init__ must say -/
structure ErrTxt (d : ErrD) : Prop where
  txt : PySem.OwnE.InitTxt d.fl (defArgs d.st) (defScope d.st)
  body : ∃ (msg : Str) (c1 : Nat) (q0 q1 q2 q3 q4 q5 r1 r2 r3 r4 : Pos), defBody d.st = PySem.OwnE.initBody d.fl msg c1 q0 q1 q2 q3 q4 q5 r1 r2 r3 r4 ∧ PySem.OwnE.SupCall msg c1 q0 q1 q2 q3 q4
theorem err_own {P : Program} {K : PySem.W.Frag} {h : Heap} {mg : Str → Option Value} {d : ErrD} (X : K.In h) (G : h.Ns mainGlobals mg) (hw : errW K d.x = d.val) (hb : errB K P.main.file d.x d.fl = true) (hsg : mg "super" = none) (htop : (P.main.scope.names.lookup ("super" : Str)).isSome = false) (T : ErrTxt d) :
    PySem.OwnE.OwnTxt P K mg d.x d.fl (He.ga K d.x) (errF K d.x) := by
  unfold errB at hb
  obtain ⟨b1, hb⟩ := He.ba hb
  obtain ⟨b2, hb⟩ := He.ba hb
  obtain ⟨b3, hb⟩ := He.ba hb
  obtain ⟨b4, hb⟩ := He.ba hb
  obtain ⟨b5, hb⟩ := He.ba hb
  obtain ⟨b6, hb⟩ := He.ba hb
  obtain ⟨b7, hb⟩ := He.ba hb
  obtain ⟨b8, hb⟩ := He.ba hb
  obtain ⟨b9, hb⟩ := He.ba hb
  obtain ⟨b10, hb⟩ := He.ba hb
  obtain ⟨b11, hb⟩ := He.ba hb
  obtain ⟨b12, hb⟩ := He.ba hb
  obtain ⟨b13, hb⟩ := He.ba hb
  obtain ⟨b14, hb⟩ := He.ba hb
  obtain ⟨b15, hb⟩ := He.ba hb
  obtain ⟨b16, b17⟩ := He.ba hb
  refine ⟨He.glo_ok X G b1, clsB_ok b2, He.eqO_ok b3, He.eqO_ok b4, He.eqO_ok b5, He.eqO_ok b6, He.eqO_ok b7, of_decide_eq_true b8, b9, of_decide_eq_true b10, of_decide_eq_true b11, of_decide_eq_true b12, of_decide_eq_true b13, b14, He.eqO_ok b15, He.eqO_ok b16, hsg, htop, ?_⟩
  obtain ⟨msg, c1, q0, q1, q2, q3, q4, q5, r1, r2, r3, r4, eb, hsc⟩ := T.body
  unfold errFnB at b17
  unfold errW at hw
  cases e : K.lookup (errF K d.x) with
  | none => rw [e] at b17; cases b17
  | some o =>
    obtain ⟨oc, od, dt, osl⟩ := o
    rw [e] at b17 hw
    cases dt with
    | func fd =>
      obtain ⟨n1, n2, n3, n4, n5, n6, n7, n8, n9, n10, n11, n12, n13, n14, n15⟩ := fd
      have hw : (some (n1, n2, n3, n4, n5, n6, n7.map (·.1), n15) : ErrW) = d.val := hw
      simp only [ErrD.val, Option.some.injEq, Prod.mk.injEq] at hw
      obtain ⟨w1, w2, w3, w4, w5, w6, w7, w8⟩ := hw
      subst w1 w2 w3 w4 w5 w6 w8
      dsimp only at b17
      split at b17
      · rename_i _ _ _ _ cda nm cc
        have w7 : nm = ("__class__" : Str) := by simpa using w7
        subst w7
        obtain ⟨c1', b17⟩ := He.ba b17
        obtain ⟨c2, c3⟩ := He.ba b17
        split at c2
        · rename_i ccl cdd vs ccs hk
          split at c2
          · rename_i f tf hv
            split at c3
            · rename_i cl cld C csl hc
              have hC := of_decide_eq_true c3
              subst hC
              refine ⟨oc, od, n10, n11, n12, cda, n14, osl, _, _, _, cc, msg, c1, q0, q1, q2, q3, q4, q5, r1, r2, r3, r4, vs, f, tf, ccl, cl, cdd, cld, ccs, csl, T.txt, hsc, ?_, c1', hk, hv, c2, hc⟩
              rw [← eb]
            · cases c3
          · cases c2
        · cases c2
      · cases b17
    | _ => cases b17
end DL
/-! # DL, twenty-fifth part: the Hook of such a program, and its law's end. -/
namespace DL
open PySem PySem.Spec PyProof.Rows L2
/-- a def at the top, with defaults that are None -/
def defAt (x : Str) (st : Stmt) (n : Nat) : He.DefD := ⟨(x, none), x, x, defArgs st, defBody st, defScope st, List.replicate n .non, []⟩
def tabsY (g : Addr → Option Obj) (tf : List Str) (K : PySem.W.Frag) : Bool := (tf.all fun x => PySem.W.codeHdIn K (He.cT K (x, none)).1 (He.cT K (x, none)).2 && (match g (He.cT K (x, none)).2 with
    | some o => He.emptyTab o
    | none => false)) && decide ((tf.map fun x => (He.cT K (x, none)).2).Nodup)
abbrev AlY : Type := Bool × (List He.FnW × List ErrW)
def obsY (file : Str) (fa : List He.Fa) (fn : List He.DefD) (es : List ErrD) (tf : List Str) (ex : PySem.W.Frag → Bool) (g : Addr → Option Obj) (K : PySem.W.Frag) : AlY :=
  ((fa.all fun f => f.ok K) && ((fn.all fun d => d.ok K) && ((es.all fun d => errB K file d.x d.fl) && (ex K && tabsY g tf K))), fn.map fun d => He.fnW K d.at_, es.map fun d => errW K d.x)
def valY (fn : List He.DefD) (es : List ErrD) : AlY := (true, fn.map He.DefD.val, es.map ErrD.val)
structure SaysY (file : Str) (fa : List He.Fa) (fn : List He.DefD) (es : List ErrD) (tf : List Str) (ex : PySem.W.Frag → Bool) (h : Heap) (K : PySem.W.Frag) : Prop where
  fa : ∀ f ∈ fa, f.ok K = true
  fn : ∀ d ∈ fn, d.ok K = true ∧ He.fnW K d.at_ = d.val
  es : ∀ d ∈ es, errB K file d.x d.fl = true ∧ errW K d.x = d.val
  ex : ex K = true
  hd : ∀ x ∈ tf, PySem.W.codeHdIn K (He.cT K (x, none)).1 (He.cT K (x, none)).2 = true
  out : ∀ x ∈ tf, K.lookup (He.cT K (x, none)).2 = none
  empty : ∀ x ∈ tf, h.get? (He.cT K (x, none)).2 = some { cls := .none, data := .fields #[] }
  nd : (tf.map fun x => (He.cT K (x, none)).2).Nodup
theorem map_mem_eq {α β : Type} {f g : α → β} {l : List α} (h : l.map f = l.map g) : ∀ a ∈ l, f a = g a := fun a ha => by
  obtain ⟨i, hi, rfl⟩ := List.mem_iff_getElem.mp ha
  have e := congrArg (fun z => z[i]?) h
  simp only [List.getElem?_map, List.getElem?_eq_getElem hi, Option.map_some] at e
  exact Option.some.inj e
def asY (g : Addr → Option Obj) (n : Nat) : List Addr := He.asD g n ++ [cStatics]
theorem saysY_of {file : Str} {fa : List He.Fa} {fn : List He.DefD} {es : List ErrD} {tf : List Str} {ex : PySem.W.Frag → Bool} {h : Heap} {as : List Addr} (e : obsY file fa fn es tf ex h.get? (He.frT h.get? as) = valY fn es) : SaysY file fa fn es tf ex h (He.frT h.get? as) := by
  have e1 := congrArg Prod.fst e
  have e2 := congrArg (fun z : AlY => z.2.1) e
  have e3 := congrArg (fun z : AlY => z.2.2) e
  obtain ⟨a1, e1⟩ := He.ba (show (_ && _) = true from e1)
  obtain ⟨a2, e1⟩ := He.ba e1
  obtain ⟨a3, e1⟩ := He.ba e1
  obtain ⟨a4, a5⟩ := He.ba e1
  obtain ⟨a5, a6⟩ := He.ba (show (_ && _) = true from a5)
  have key : ∀ x ∈ tf, PySem.W.codeHdIn (He.frT h.get? as) (He.cT (He.frT h.get? as) (x, none)).1 (He.cT (He.frT h.get? as) (x, none)).2 = true ∧ ∃ o, h.get? (He.cT (He.frT h.get? as) (x, none)).2 = some o ∧ He.emptyTab o = true := fun x hx => by
    obtain ⟨z1, z2⟩ := He.ba (List.all_eq_true.mp a5 x hx)
    refine ⟨z1, ?_⟩
    split at z2
    · rename_i o q
      exact ⟨o, q, z2⟩
    · cases z2
  exact ⟨List.all_eq_true.mp a1, fun d hd => ⟨List.all_eq_true.mp a2 d hd, map_mem_eq e2 d hd⟩, fun d hd => ⟨List.all_eq_true.mp a3 d hd, map_mem_eq e3 d hd⟩, a4, fun x hx => (key x hx).1, fun x hx => by
    obtain ⟨_, o, q1, q2⟩ := key x hx
    exact He.frT_none q1 q2, fun x hx => by
    obtain ⟨_, o, q1, q2⟩ := key x hx
    rw [q1, He.emptyTab_eq q2], of_decide_eq_true a6⟩
def hookY (n : Nat) (file : Str) (fa : List He.Fa) (fn : List He.DefD) (es : List ErrD) (tf : List Str) (ex : PySem.W.Frag → Bool) : PySem.W.Hook where
  α := AlY
  obs := fun s => obsY file fa fn es tf ex s.heap.get? (He.frT s.heap.get? (asY s.heap.get? n))
  val := fun _ => valY fn es
  says := fun _ h => ∃ K : PySem.W.Frag, K.In h ∧ SaysY file fa fn es tf ex h K
  of := fun _ _ e => ⟨_, He.frT_in, saysY_of e⟩
  keeps := fun _ _ _ ⟨K, hK, c⟩ k => ⟨K, PySem.W.Frag.In.keeps hK k, ⟨c.fa, c.fn, c.es, c.ex, c.hd, c.out, fun x hx => k _ _ (c.empty x hx), c.nd⟩⟩
theorem obsY_eq {n : Nat} {file : Str} {fa : List He.Fa} {fn : List He.DefD} {es : List ErrD} {tf : List Str} {ex : PySem.W.Frag → Bool} {g : Addr → Option Obj} {s : Shared} (h : ∀ a, g a = s.heap.get? a) : obsY file fa fn es tf ex g (He.frT g (asY g n)) = (hookY n file fa fn es tf ex).obs s := by
  have e : g = s.heap.get? := funext h
  rw [e] <;> rfl
section
variable {file : Str} {fa : List He.Fa} {fn : List He.DefD} {es : List ErrD} {tf : List Str} {ex : PySem.W.Frag → Bool} {h : Heap} {K : PySem.W.Frag} {P : Program} {w : World} {mg : Str → Option Value} {base : Heap}
def tabsOf (K : PySem.W.Frag) (tf : List Str) : List (Addr × Str) := tf.map fun x => ((He.cT K (x, none)).2, (x ++ ".<locals>.") ++ "<lambda>")
theorem rep_non : ∀ (n : Nat) (K : PySem.W.Frag), (List.replicate n He.Dv.non).map (He.Dv.v K) = List.replicate n V.non := fun n K => by
  rw [List.map_replicate]
  rfl
/-- a def, told by the Hook -/
theorem SaysY.fnd (c : SaysY file fa fn es tf ex h K) {x : Str} {st : Stmt} {n : Nat} (X : K.In h) (G : h.Ns mainGlobals mg) (hm : defAt x st n ∈ fn) (hg : He.Fa.glo x ∈ fa) : ∃ fd, FunD K x x (defArgs st) (defBody st) (defScope st) (List.replicate n V.non) [] (He.ga K x) fd ∧ mg x = some (.ref (He.ga K x)) := by
  obtain ⟨c1, c2⟩ := c.fn _ hm
  obtain ⟨fd, F⟩ := He.DefD.funD c2 c1
  refine ⟨fd, ?_, He.glo_ok X G (c.fa _ hg)⟩
  have e : (defAt x st n).dvs K = List.replicate n V.non := rep_non n K
  rw [e] at F
  exact F
theorem nodup_inj {α β : Type} {f : α → β} : ∀ {l : List α}, (l.map f).Nodup → ∀ a ∈ l, ∀ b ∈ l, f a = f b → a = b
  | x :: l, hn, a, ha, b, hb, e => by
    rw [List.map_cons, List.nodup_cons] at hn
    rcases List.mem_cons.mp ha with qa | qa <;> rcases List.mem_cons.mp hb with qb | qb
    · rw [qa, qb]
    · exact absurd (List.mem_map.mpr ⟨b, qb, by rw [← e, qa]⟩) hn.1
    · exact absurd (List.mem_map.mpr ⟨a, qa, by rw [e, qb]⟩) hn.1
    · exact nodup_inj hn.2 a qa b qb e
theorem SaysY.tab (c : SaysY file fa fn es tf ex h K) {x : Str} (hx : x ∈ tf) : ((He.cT K (x, none)).2, (x ++ ".<locals>.") ++ "<lambda>") ∈ tabsOf K tf ∧ ∀ p ∈ tabsOf K tf, p.1 = (He.cT K (x, none)).2 → p.2 = (x ++ ".<locals>.") ++ "<lambda>" := by
  refine ⟨List.mem_map.mpr ⟨x, hx, rfl⟩, fun p hp e => ?_⟩
  obtain ⟨y, hy, rfl⟩ := List.mem_map.mp hp
  have := nodup_inj c.nd y hy x hx e
  rw [this]
/-- a def's code object -/
theorem fd_code {x : Str} {st : Stmt} {dvs : List V} {fd : FuncData} (F : FunD K x x (defArgs st) (defBody st) (defScope st) dvs [] (He.ga K x) fd) : fd.code = .ref (He.cT K (x, none)).1 := by
  obtain ⟨oc, od, dV, kV, doc, pm, an, cdv, ct, osl, rfl, lk, hcd, _, _⟩ := F.ex
  obtain ⟨ca, hc⟩ := He.codeIn_ref hcd
  show cdv = _
  have := He.codeOf_eq (p := (x, none)) lk (show _ = Value.ref ca from hc)
  rw [hc]
  exact congrArg Value.ref this.symm
end
theorem sqL_frz {K : PySem.W.Frag} {H : Hp} {a : Addr} {xs : List V} (h : SqL K H a xs) : SqL K (frz H []) a xs := by
  rcases h with h | h
  · refine .inl ?_
    rcases h with h | ⟨o, h⟩
    · exact .inl (frz_of h (fun _ z => by cases z) (by simp))
    · exact .inr ⟨o, frz_of h (fun _ z => by cases z) (by simp)⟩
  · exact .inr h
theorem tabs_nil {K : PySem.W.Frag} {tf : List Str} {H : Hp} (h : ∀ p ∈ tf.map fun x => He.cT K (x, none), H p.2 = some (.tbl #[])) : LamX.Tabs (tabsOf K tf) H := fun p hp => by
  obtain ⟨x, hx, rfl⟩ := List.mem_map.mp hp
  exact LamX.TabS.nil (h _ (List.mem_map.mpr ⟨x, hx, rfl⟩))
theorem glo_int {e : Wd} {h : Heap} {x : Str} {i : Int} (X : e.K.In h) (G : h.Ns mainGlobals e.mg) (c : (He.Fa.int x i).ok e.K = true) : Glo e x (.int i) := by
  obtain ⟨t, ht⟩ := He.int_ok X G c
  exact ⟨.int i, _, ht, ⟨t, rfl⟩, fun _ => rfl⟩
theorem glo_str {e : Wd} {h : Heap} {x z : Str} (X : e.K.In h) (G : h.Ns mainGlobals e.mg) (c : (He.Fa.str x z).ok e.K = true) : Glo e x (.str z) := by
  obtain ⟨t, ht⟩ := He.str_ok X G c
  exact ⟨.str z, _, ht, ⟨t, rfl⟩, fun _ => rfl⟩
/-- a tuple of ints at the top -/
theorem glo_tupI {e : Wd} {h : Heap} {x : Str} {ns : List Int} (X : e.K.In h) (G : h.Ns mainGlobals e.mg) (c : (He.Fa.glo x).ok e.K = true) (t : He.tupB e.K x (ns.map He.Dv.int) = true) : Glo e x (.tuple (ns.map .int)) := by
  refine ⟨.ref (He.ga e.K x), _, He.glo_ok X G c, rfl, fun H => ⟨_, _, rfl, He.tupB_ok t H, ?_⟩⟩
  have e1 : (ns.map He.Dv.int).map (He.Dv.v e.K) = ns.map V.int := by rw [List.map_map]; rfl
  rw [e1]
  exact DaAll.ints ns
end DL
/-! # Rank of rows of fractions by elimination: what the program and the law compute, and why it is full where nothing is sent to 0. -/
namespace RK
abbrev Row := List Rat
def dot : Row → Row → Rat
  | a :: r, b :: v => a * b + dot r v
  | _, _ => 0
def ent (r : Row) (j : Nat) : Rat := r.getD j 0
/-- a row less so much of another one that its place j is 0 -/
def red (p : Row) (j : Nat) (r : Row) : Row := List.zipWith (fun x y => x - ent r j / ent p j * y) r p
def leads (j f : Nat) (left : List Row) : List Nat := (List.range' f (left.length - f)).filter fun n => decide (ent (left.getD n []) j ≠ 0)
def swap (left : List Row) (f l : Nat) : List Row := (left.set f (left.getD l [])).set l (left.getD f [])
def step (j : Nat) (q : List Row × Nat) : List Row × Nat := match leads j q.2 q.1 with
  | [] => q
  | l :: _ => ((swap q.1 q.2 l).take (q.2 + 1) ++ ((swap q.1 q.2 l).drop (q.2 + 1)).map (red (q.1.getD l []) j), q.2 + 1)
def run : List Nat → List Row × Nat → List Row × Nat
  | [], q => q
  | j :: js, q => run js (step j q)
def qs (r : List Int) : Row := r.map fun i : Int => (i : Rat)
def rank (rows : List (List Int)) (c : Nat) : Nat := (run (List.range c) (rows.map qs, 0)).2
/-! ### full rank -/
/-- nothing but 0, of those that are 0 before j, is sent to 0 by the rows -/
def Tr (c j : Nat) (rest : List Row) : Prop := ∀ v : Row, v.length = c → (∀ i, i < j → ent v i = 0) → (∀ r ∈ rest, dot r v = 0) → ∀ i, ent v i = 0
theorem dot_set : ∀ (r v : Row) (j : Nat) (x : Rat), j < v.length → j < r.length → dot r (v.set j x) = dot r v - ent r j * ent v j + ent r j * x
  | [], _, _, _, _, h => by simp at h
  | _ :: _, [], _, _, h, _ => by simp at h
  | a :: r, b :: v, 0, x, _, _ => by
    simp only [List.set_cons_zero, dot, ent, List.getD_cons_zero]
    grind
  | a :: r, b :: v, j + 1, x, h1, h2 => by
    have ih := dot_set r v j x (by simpa using h1) (by simpa using h2)
    simp only [List.set_cons_succ, dot, ent, List.getD_cons_succ] at ih ⊢
    rw [ih]
    grind
theorem dot_comb (q : Rat) : ∀ (r p v : Row), r.length = v.length → p.length = v.length → dot (List.zipWith (fun x y => x - q * y) r p) v = dot r v - q * dot p v
  | [], [], [], _, _ => by simp only [List.zipWith_nil_left, dot]; grind
  | [], [], _ :: _, h, _ => by simp at h
  | [], _ :: _, [], _, h => by simp at h
  | [], _ :: _, _ :: _, h, _ => by simp at h
  | _ :: _, [], [], h, _ => by simp at h
  | _ :: _, [], _ :: _, _, h => by simp at h
  | _ :: _, _ :: _, [], h, _ => by simp at h
  | a :: r, b :: p, c :: v, h1, h2 => by
    have ih := dot_comb q r p v (by simpa using h1) (by simpa using h2)
    simp only [List.zipWith_cons_cons, dot]
    rw [ih]
    grind
theorem dot_zero : ∀ (n : Nat) (r : Row), dot r (List.replicate n 0) = 0
  | 0, [] => rfl
  | 0, _ :: _ => rfl
  | n + 1, [] => rfl
  | n + 1, a :: r => by
    rw [List.replicate_succ]
    simp only [dot]
    rw [dot_zero n r]
    grind
theorem ent_set_same (v : Row) (j : Nat) (x : Rat) (h : j < v.length) : ent (v.set j x) j = x := by
  unfold ent
  rw [List.getD_eq_getElem?_getD, List.getElem?_set_self h]
  rfl
theorem ent_set_ne (v : Row) (i j : Nat) (x : Rat) (h : j ≠ i) : ent (v.set j x) i = ent v i := by
  unfold ent
  rw [List.getD_eq_getElem?_getD, List.getElem?_set_ne h, List.getD_eq_getElem?_getD]
theorem ent_rep (n i : Nat) : ent (List.replicate n (0 : Rat)) i = 0 := by
  unfold ent
  rw [List.getD_eq_getElem?_getD, List.getElem?_replicate]
  split <;> rfl
/-- where the rows tell all apart, one of them has a place j that is not 0 -/
theorem has_lead {c j : Nat} {rest : List Row} (hj : j < c) (hr : ∀ r ∈ rest, r.length = c) (h : Tr c j rest) : ∃ r ∈ rest, ent r j ≠ 0 := by
  apply Classical.byContradiction
  intro hn
  have hz : ∀ r ∈ rest, ent r j = 0 := fun r hm => by
    apply Classical.byContradiction
    intro z
    exact hn ⟨r, hm, z⟩
  have q := h ((List.replicate c 0).set j 1) (by simp) (fun i hi => by rw [ent_set_ne _ _ _ _ (by omega)]; exact ent_rep _ _) (fun r hm => by
    rw [dot_set _ _ _ _ (by simpa using hj) (by rw [hr r hm]; exact hj), hz r hm, dot_zero]
    grind) j
  rw [ent_set_same _ _ _ (by simpa using hj)] at q
  exact absurd q (by decide)
/-- .. and so do the others behind j, once that one is taken off them -/
theorem tr_next {c j : Nat} {rest others : List Row} {p : Row} (hj : j < c) (hp : p.length = c) (hpj : ent p j ≠ 0) (ho : ∀ r ∈ others, r.length = c) (hm : ∀ r ∈ rest, r = p ∨ r ∈ others) (h : Tr c j rest) : Tr c (j + 1) (others.map (red p j)) := by
  intro v hv hz hk i
  have hvj : ent v j = 0 := hz j (by omega)
  have q := h (v.set j (- dot p v / ent p j)) (by rw [List.length_set]; exact hv) (fun k hk' => by rw [ent_set_ne _ _ _ _ (by omega)]; exact hz k (by omega)) (fun r hr => by
    have hp0 : dot p (v.set j (- dot p v / ent p j)) = 0 := by
      rw [dot_set _ _ _ _ (by omega) (by omega), hvj]
      grind
    rcases hm r hr with e | e
    · rw [e]; exact hp0
    · have h1 := hk _ (List.mem_map.mpr ⟨r, e, rfl⟩)
      unfold red at h1
      rw [dot_comb _ _ _ _ (by rw [ho r e, hv]) (by rw [hp, hv])] at h1
      rw [dot_set _ _ _ _ (by omega) (by rw [ho r e]; exact hj), hvj]
      grind) i
  by_cases e : i = j
  · rw [e]; exact hvj
  · rwa [ent_set_ne _ _ _ _ (fun z => e z.symm)] at q
theorem red_len {p r : Row} {j c : Nat} (h1 : p.length = c) (h2 : r.length = c) : (red p j r).length = c := by
  unfold red
  simp [h1, h2]
theorem mem_drop_iff {α : Type} {l : List α} {n : Nat} {x : α} : x ∈ l.drop n ↔ ∃ i, n ≤ i ∧ l[i]? = some x := by
  rw [List.mem_iff_getElem?]
  constructor
  · rintro ⟨i, h⟩
    rw [List.getElem?_drop] at h
    exact ⟨n + i, by omega, h⟩
  · rintro ⟨i, h1, h2⟩
    refine ⟨i - n, ?_⟩
    rw [List.getElem?_drop]
    rw [show n + (i - n) = i by omega]
    exact h2
theorem step_tr {c j : Nat} {left : List Row} {f : Nat} (hj : j < c) (hr : ∀ r ∈ left, r.length = c) (h : Tr c j (left.drop f)) : (step j (left, f)).2 = f + 1 ∧ (∀ r ∈ (step j (left, f)).1, r.length = c) ∧ Tr c (j + 1) ((step j (left, f)).1.drop (f + 1)) := by
  obtain ⟨r0, hm0, hne⟩ := has_lead hj (fun r hm => hr r (List.mem_of_mem_drop hm)) h
  obtain ⟨i0, hi0, he0⟩ := mem_drop_iff.mp hm0
  have hl0 : i0 < left.length := (List.getElem?_eq_some_iff.mp he0).1
  have hmem : i0 ∈ leads j f left := by
    unfold leads
    rw [List.mem_filter, List.mem_range'_1]
    refine ⟨⟨hi0, by omega⟩, ?_⟩
    rw [List.getD_eq_getElem?_getD, he0]
    exact decide_eq_true hne
  unfold step
  show (match leads j f left with | [] => (left, f) | l :: _ => _).2 = f + 1 ∧ _
  cases e : leads j f left with
  | nil => rw [e] at hmem; cases hmem
  | cons l ls =>
    have hl : l ∈ leads j f left := by rw [e]; exact List.mem_cons_self
    unfold leads at hl
    rw [List.mem_filter, List.mem_range'_1] at hl
    obtain ⟨⟨hl1, hl2⟩, hl3⟩ := hl
    have hl3 := of_decide_eq_true hl3
    have hll : l < left.length := by omega
    have hpe : left.getD l [] = left[l] := by rw [List.getD_eq_getElem?_getD, List.getElem?_eq_getElem hll]; rfl
    have hfl : f < left.length := by omega
    have hfe : left.getD f [] = left[f] := by rw [List.getD_eq_getElem?_getD, List.getElem?_eq_getElem hfl]; rfl
    have hpl : (left.getD l []).length = c := by rw [hpe]; exact hr _ (List.getElem_mem hll)
    have hsw : ∀ r ∈ swap left f l, r.length = c := fun r hm => by
      unfold swap at hm
      rcases List.mem_or_eq_of_mem_set hm with z | z
      · rcases List.mem_or_eq_of_mem_set z with z | z
        · exact hr r z
        · rw [z]; exact hpl
      · rw [z, hfe]; exact hr _ (List.getElem_mem hfl)
    have hlen : (swap left f l).length = left.length := by unfold swap; simp
    refine ⟨rfl, fun r hm => ?_, ?_⟩
    · rcases List.mem_append.mp hm with z | z
      · exact hsw r (List.mem_of_mem_take z)
      · obtain ⟨r', h1, h2⟩ := List.mem_map.mp z
        rw [← h2]
        exact red_len hpl (hsw r' (List.mem_of_mem_drop h1))
    · show Tr c (j + 1) (((swap left f l).take (f + 1) ++ ((swap left f l).drop (f + 1)).map (red (left.getD l []) j)).drop (f + 1))
      rw [List.drop_append_of_le_length (by rw [List.length_take, hlen]; omega), List.drop_of_length_le (by rw [List.length_take]; omega), List.nil_append]
      refine tr_next hj hpl hl3 (fun r hm => hsw r (List.mem_of_mem_drop hm)) (fun r hm => ?_) h
      obtain ⟨i, hi1, hi2⟩ := mem_drop_iff.mp hm
      have hil := (List.getElem?_eq_some_iff.mp hi2).1
      by_cases hil2 : i = l
      · left
        rw [hil2] at hi2
        rw [List.getD_eq_getElem?_getD, hi2]; rfl
      · right
        by_cases hif : i = f
        · -- stands at l now
          refine mem_drop_iff.mpr ⟨l, by omega, ?_⟩
          unfold swap
          rw [List.getElem?_set_self (by simpa using hll), List.getD_eq_getElem?_getD, ← hif, hi2]; rfl
        · refine mem_drop_iff.mpr ⟨i, by omega, ?_⟩
          unfold swap
          rw [List.getElem?_set_ne (fun z => hil2 z.symm), List.getElem?_set_ne (fun z => hif z.symm)]
          exact hi2
theorem run_tr {c : Nat} : ∀ (n j : Nat) (left : List Row) (f : Nat), j + n = c → (∀ r ∈ left, r.length = c) → Tr c j (left.drop f) → (run (List.range' j n) (left, f)).2 = f + n
  | 0, j, left, f, _, _, _ => rfl
  | n + 1, j, left, f, hc, hr, h => by
    obtain ⟨h1, h2, h3⟩ := step_tr (f := f) (show j < c by omega) hr h
    rw [List.range'_succ]
    show (run (List.range' (j + 1) n) (step j (left, f))).2 = _
    have e : step j (left, f) = ((step j (left, f)).1, f + 1) := by rw [← h1]
    rw [e, run_tr n (j + 1) _ (f + 1) (by omega) h2 h3]
    omega
theorem rank_full {rows : List (List Int)} {c : Nat} (hr : ∀ r ∈ rows, r.length = c) (h : ∀ k, k < c → ∃ r ∈ rows, r = (List.replicate c 0).set k 1) : rank rows c = c := by
  unfold rank
  rw [List.range_eq_range']
  have q := run_tr (c := c) c 0 (rows.map qs) 0 (by omega) (fun r hm => by
    obtain ⟨r', h1, h2⟩ := List.mem_map.mp hm
    rw [← h2]; unfold qs; rw [List.length_map]; exact hr r' h1) (by
    rw [List.drop_zero]
    intro v hv _ hz i
    by_cases hi : i < c
    · obtain ⟨r, h1, h2⟩ := h i hi
      have q := hz _ (List.mem_map.mpr ⟨r, h1, rfl⟩)
      have e : qs r = (List.replicate c 0).set i 1 := by
        unfold qs
        rw [h2, List.map_set, List.map_replicate]; rfl
      rw [e] at q
      have comm : ∀ (a b : Row), dot a b = dot b a := fun a => by
        induction a with
        | nil => intro b; cases b <;> rfl
        | cons x a ih => intro b; cases b with
          | nil => rfl
          | cons y b => simp only [dot]; rw [ih]; grind
      rw [comm, dot_set _ _ _ _ (by simpa using hi) (by omega), dot_zero, ent_rep] at q
      grind
    · unfold ent
      rw [List.getD_eq_getElem?_getD, List.getElem?_eq_none (by omega)]
      rfl)
  rw [q]; omega
theorem step_le (j : Nat) (q : List Row × Nat) : (step j q).2 ≤ q.2 + 1 := by
  unfold step
  split
  · exact Nat.le_succ _
  · exact Nat.le_refl _
theorem run_le : ∀ (js : List Nat) (q : List Row × Nat), (run js q).2 ≤ q.2 + js.length
  | [], q => Nat.le_refl _
  | j :: js, q => by
    have h1 := run_le js (step j q)
    have h2 := step_le j q
    show (run js (step j q)).2 ≤ _
    rw [List.length_cons]; omega
theorem rank_le (rows : List (List Int)) (c : Nat) : rank rows c ≤ c := by
  have h := run_le (List.range c) (rows.map qs, 0)
  unfold rank
  rw [List.length_range] at h
  simpa using h
end RK
/-! # PL: the plain law. First part: the monad's laws, words on known data, runs that draw. -/
namespace DL
open PySem PySem.Spec L2
theorem pure_app {α : Type} (a : α) (S : DS) : (pure a : M α) S = .ok a S := rfl
instance : LawfulMonad M := LawfulMonad.mk' M
  (id_map := fun x => by
    funext S
    show (x >>= fun a => pure (id a)) S = x S
    rw [bind_app]
    cases x S <;> rfl)
  (pure_bind := fun a k => by
    funext S
    rw [bind_app]
    rfl)
  (bind_assoc := fun m f g => by
    funext S
    rw [bind_app, bind_app, bind_app]
    cases m S with
    | ok a S' =>
      show _ = (f a >>= g) S'
      rw [bind_app]
    | exc c n x S' => rfl
    | stuck => rfl)
@[simp] theorem stuck_bind {α β : Type} (k : α → M β) : ((stuck : M α) >>= k) = stuck := by
  funext S
  rw [bind_app]
  rfl
@[simp] theorem raise_bind {α β : Type} (c n : Str) (x : D) (k : α → M β) : ((raise c n x : M α) >>= k) = raise c n x := by
  funext S
  rw [bind_app]
  rfl
@[simp] theorem lift_some {α : Type} (a : α) : (lift (some a) : M α) = pure a := rfl
@[simp] theorem lift_none {α : Type} : (lift none : M α) = stuck := rfl
@[simp] theorem asB_bool (b : Bool) : asB (.bool b) = pure b := rfl
@[simp] theorem asI_int (i : Int) : asI (.int i) = pure (some i) := rfl
@[simp] theorem asSq_list (ds : List D) : asSq (.list ds) = pure ds := rfl
@[simp] theorem asSq_tuple (ds : List D) : asSq (.tuple ds) = pure ds := rfl
@[simp] theorem asLs_list (ds : List D) : asLs (.list ds) = pure ds := rfl
@[simp] theorem asZip_list (xs ys : List D) : asZip (.list xs) (.list ys) = pure (zipL xs ys) := rfl
@[simp] theorem asZip_tuple (xs ys : List D) : asZip (.tuple xs) (.tuple ys) = pure (zipL xs ys) := rfl
theorem asN_int {i : Int} (h : -1000000 ≤ i ∧ i ≤ 1000000) : asN (.int i) = pure i := if_pos h
theorem mkTup_of {ds : List D} (h : ds.length ≤ 1000) : mkTup ds = pure (.tuple ds) := if_pos h
theorem mkLst_of {ds : List D} (h : ds.length ≤ 1000) : mkLst ds = pure (.list ds) := if_pos h
theorem okLen_of {ds : List D} (h : ds.length ≤ 1000) : okLen ds = pure ds := if_pos h
theorem pushL_of {ds : List D} {d : D} (h : ds.length ≤ 1000) : pushL ds d = pure (ds ++ [d]) := if_pos h
@[simp] theorem two_tup {α : Type} (f : D → D → M α) (a b : D) : two f (.tuple [a, b]) = f a b := rfl
@[simp] theorem fn1_dat (g : D → M D) (a : D) : fn1 g [.dat a] = g a := rfl
@[simp] theorem fn2_dat (g : D → D → M D) (a b : D) : fn2 g [.dat a, .dat b] = g a b := rfl
@[simp] theorem fn3_dat (g : D → D → D → M D) (a b d : D) : fn3 g [.dat a, .dat b, .dat d] = g a b d := rfl
@[simp] theorem fm0_dat (g : M D) : fm0 g [.drw] = g := rfl
@[simp] theorem fm1_dat (g : D → M D) (a : D) : fm1 g [.drw, .dat a] = g a := rfl
@[simp] theorem fm2_dat (g : D → D → M D) (a b : D) : fm2 g [.drw, .dat a, .dat b] = g a b := rfl
@[simp] theorem fg1_giv (g : List Int → M D) (a : List Int) : fg1 g [.giv a] = g a := rfl
@[simp] theorem quiet_pure {α : Type} (a : α) : quiet (pure a : M α) = pure a := rfl
/-! ### words on known data -/
theorem dp_int (i : Int) : (PyData.int i).depth = 0 := rfl
theorem ord_int (a b : Int) : ordP (.int a) (.int b) = true := by simp [ordP, PySem.W.alike, PyData.depth]
@[simp] theorem add_int (a b : Int) : addD (.int a) (.int b) = some (.int (a + b)) := rfl
@[simp] theorem sub_int (a b : Int) : subD (.int a) (.int b) = some (.int (a - b)) := rfl
@[simp] theorem neg_int (a : Int) : negD (.int a) = some (.int (-a)) := rfl
theorem mod_int {a b : Int} (h : b ≠ 0) : modD (.int a) (.int b) = some (.int (a.fmod b)) := if_neg h
@[simp] theorem lt_int (a b : Int) : ltD (.int a) (.int b) = some (.bool (decide (a < b))) := by
  unfold ltD
  rw [if_pos (ord_int a b), PySem.W.dataLt_int]
@[simp] theorem gt_int (a b : Int) : gtD (.int a) (.int b) = some (.bool (decide (b < a))) := by
  unfold gtD
  rw [if_pos (ord_int a b), PySem.W.dataLt_int]
@[simp] theorem le_int (a b : Int) : leD (.int a) (.int b) = some (.bool (decide (a ≤ b))) := by
  unfold leD
  rw [if_pos (ord_int a b), PySem.W.dataLt_int]
  congr 2
  by_cases h : b < a <;> simp [h] <;> omega
@[simp] theorem ge_int (a b : Int) : geD (.int a) (.int b) = some (.bool (decide (b ≤ a))) := by
  unfold geD
  rw [if_pos (ord_int a b), PySem.W.dataLt_int]
  congr 2
  by_cases h : a < b <;> simp [h] <;> omega
theorem eq_plain {x y : D} (hx : x.plain = true) (hy : y.plain = true) (dx : x.depth ≤ 60) (dy : y.depth ≤ 60) : eqD x y = some (.bool (PyData.eqv x y)) := by
  unfold eqD eqP
  rw [if_pos ⟨hx, hy, dx, dy⟩]
  rfl
theorem ne_plain {x y : D} (hx : x.plain = true) (hy : y.plain = true) (dx : x.depth ≤ 60) (dy : y.depth ≤ 60) : neD' x y = some (.bool (!PyData.eqv x y)) := by
  unfold neD'
  rw [if_pos ⟨hx, hy, dx, dy⟩]
@[simp] theorem eqv_int (a b : Int) : PyData.eqv (.int a) (.int b) = decide (a = b) := by
  simp only [PyData.eqv]
  by_cases h : a = b <;> simp [h]
@[simp] theorem eqv_str (a b : Str) : PyData.eqv (.str a) (.str b) = decide (a = b) := by
  simp only [PyData.eqv]
  by_cases h : a = b <;> simp [h]
@[simp] theorem eq_int (a b : Int) : eqD (.int a) (.int b) = some (.bool (decide (a = b))) := by
  rw [eq_plain rfl rfl (by simp [PyData.depth]) (by simp [PyData.depth]), eqv_int]
@[simp] theorem ne_int (a b : Int) : neD' (.int a) (.int b) = some (.bool (decide (a ≠ b))) := by
  rw [ne_plain rfl rfl (by simp [PyData.depth]) (by simp [PyData.depth]), eqv_int]
  simp
@[simp] theorem eq_str (a b : Str) : eqD (.str a) (.str b) = some (.bool (decide (a = b))) := by
  rw [eq_plain rfl rfl (by simp [PyData.depth]) (by simp [PyData.depth]), eqv_str]
@[simp] theorem ne_str (a b : Str) : neD' (.str a) (.str b) = some (.bool (decide (a ≠ b))) := by
  rw [ne_plain rfl rfl (by simp [PyData.depth]) (by simp [PyData.depth]), eqv_str]
  simp
@[simp] theorem is_nn : isD .none .none = some (.bool true) := rfl
@[simp] theorem is_bn (b : Bool) : isD (.bool b) .none = some (.bool false) := rfl
@[simp] theorem is_in (b : Int) : isD (.int b) .none = some (.bool false) := rfl
@[simp] theorem is_sn (b : Str) : isD (.str b) .none = some (.bool false) := rfl
@[simp] theorem is_ln (b : List D) : isD (.list b) .none = some (.bool false) := rfl
@[simp] theorem is_tn (b : List D) : isD (.tuple b) .none = some (.bool false) := rfl
@[simp] theorem is_dn (b : List (D × D)) : isD (.dict b) .none = some (.bool false) := rfl
@[simp] theorem len_list (ds : List D) : lenD [.list ds] = some (.int ds.length) := rfl
@[simp] theorem len_tuple (ds : List D) : lenD [.tuple ds] = some (.int ds.length) := rfl
@[simp] theorem tuple_list (ds : List D) : tupleD [.list ds] = some (.tuple ds) := rfl
@[simp] theorem tuple_tuple (ds : List D) : tupleD [.tuple ds] = some (.tuple ds) := rfl
@[simp] theorem list_list (ds : List D) : listD [.list ds] = some (.list ds) := rfl
@[simp] theorem list_tuple (ds : List D) : listD [.tuple ds] = some (.list ds) := rfl
@[simp] theorem int_int (i : Int) : intD [.int i] = some (.int i) := rfl
@[simp] theorem int_bool (b : Bool) : intD [.bool b] = some (.int (if b = true then 1 else 0)) := rfl
theorem abs_int (i : Int) : absD [.int i] = some (.int (i.natAbs : Int)) := by
  show some (PyData.int (if i < 0 then -i else i)) = _
  congr 2
  split <;> omega
@[simp] theorem max_int (i j : Int) : maxD [.int i, .int j] = some (.int (max i j)) := rfl
@[simp] theorem min_int (i j : Int) : minD [.int i, .int j] = some (.int (min i j)) := rfl
@[simp] theorem rev_list (ds : List D) : revD (.list ds) = some (.list ds.reverse) := rfl
@[simp] theorem rev_tuple (ds : List D) : revD (.tuple ds) = some (.tuple ds.reverse) := rfl
@[simp] theorem sl_list (ds : List D) (a b : Option Int) : slD (.list ds) a b = some (.list (cutL ds a b)) := rfl
@[simp] theorem sl_tuple (ds : List D) (a b : Option Int) : slD (.tuple ds) a b = some (.tuple (cutL ds a b)) := rfl
/-! ### items by place -/
theorem ixN_nat {n : Nat} {i : Nat} (h : i < n) : ixN n (i : Int) = some i := by
  unfold ixN
  rw [if_pos (by omega), if_pos (by omega)]
  simp
theorem at_nat {α : Type} (xs : List α) {i : Nat} (h : i < xs.length) : atI xs (i : Int) = some xs[i] := by
  unfold atI
  rw [ixN_nat h]
  exact List.getElem?_eq_getElem h
theorem ix_list {xs : List D} {i : Nat} {d : D} (h : xs[i]? = some d) : ixD (.list xs) (.int (i : Int)) = some d := by
  have hl := (List.getElem?_eq_some_iff.mp h).1
  show atI xs (i : Int) = _
  rw [at_nat xs hl, ← List.getElem?_eq_getElem hl, h]
theorem ix_tuple {xs : List D} {i : Nat} {d : D} (h : xs[i]? = some d) : ixD (.tuple xs) (.int (i : Int)) = some d := ix_list h
theorem ix_tuple0 (d : D) (ds : List D) : ixD (.tuple (d :: ds)) (.int 0) = some d := ix_tuple (i := 0) rfl
theorem ix_list0 (d : D) (ds : List D) : ixD (.list (d :: ds)) (.int 0) = some d := ix_list (i := 0) rfl
theorem ix_tuple1 (a d : D) (ds : List D) : ixD (.tuple (a :: d :: ds)) (.int 1) = some d := ix_tuple (i := 1) rfl
theorem setL_nat {xs : List D} {i : Nat} {d : D} (h : i < xs.length) : setL xs (.int (i : Int)) d = pure (xs.set i d) := by
  show setAt xs d (ixN xs.length (i : Int)) = _
  rw [ixN_nat h]
  rfl
/-! ### comprehensions without draws -/
theorem compM_pure {f : D → M (Option D)} {g : D → Option D} : ∀ {ds : List D}, (∀ d ∈ ds, f d = pure (g d)) → compM f ds = pure (ds.filterMap g)
  | [], _ => rfl
  | d :: ds, h => by
    rw [compM, h d List.mem_cons_self, quiet_pure, pure_bind, compM_pure (ds := ds) fun x hx => h x (List.mem_cons_of_mem _ hx), pure_bind]
    rw [List.filterMap_cons]
    cases g d <;> rfl
theorem lcM_pure {f : D → M (Option D)} {g : D → Option D} {ds : List D} (hl : ds.length ≤ 1000) (h : ∀ d ∈ ds, f d = pure (g d)) : lcM f ds = pure (ds.filterMap g) := by
  unfold lcM
  rw [if_pos hl]
  exact compM_pure h
theorem lcM_map {f : D → M (Option D)} {g : D → D} {ds : List D} (hl : ds.length ≤ 1000) (h : ∀ d ∈ ds, f d = pure (some (g d))) : lcM f ds = pure (ds.map g) := by
  rw [lcM_pure (g := fun d => some (g d)) hl h]
  congr 1
  induction ds with
  | nil => rfl
  | cons d ds ih => rw [List.filterMap_cons, List.map_cons, ih (by simp at hl; omega) fun x hx => h x (List.mem_cons_of_mem _ hx)]
theorem elM_true (m : M D) : elM (pure true) m = (m >>= fun x => pure (some x)) := by
  unfold elM
  rw [pure_bind]
  rfl
theorem elM_pure (b : Bool) (d : D) : elM (pure b) (pure d) = pure (if b = true then some d else none) := by
  unfold elM
  rw [pure_bind]
  cases b
  · rfl
  · show (pure d >>= fun x => pure (some x)) = _
    rw [pure_bind]
    rfl
theorem bools_map' (bs : List Bool) : asBools (bs.map .bool) = some bs := by
  induction bs with
  | nil => rfl
  | cons n r ih => show (asBools (r.map .bool)).map (n :: ·) = _; rw [ih]; rfl
theorem ints_map' (ns : List Int) : asInts (ns.map .int) = some ns := by
  induction ns with
  | nil => rfl
  | cons n r ih => show (asInts (r.map .int)).map (n :: ·) = _; rw [ih]; rfl
theorem all_bools (bs : List Bool) : allD [.list (bs.map .bool)] = some (.bool (bs.all id)) := by
  show (asBools (bs.map .bool)).map _ = _
  rw [bools_map']
  rfl
theorem sum_list (ns : List Int) : sumD [.list (ns.map .int)] = some (.int ns.sum) := by
  show (asInts (ns.map .int)).map _ = _
  rw [ints_map']
  rfl
theorem sum_tuple (ns : List Int) : sumD [.tuple (ns.map .int)] = some (.int ns.sum) := sum_list ns
theorem zip_ints : ∀ (xs ys : List Int), zipL (xs.map .int) (ys.map .int) = (List.zip xs ys).map fun p => PyData.tuple [.int p.1, .int p.2]
  | [], _ => rfl
  | _ :: _, [] => rfl
  | x :: xs, y :: ys => by
    simp only [List.map_cons, zipL, List.zip_cons_cons]
    rw [zip_ints]
theorem rng_succ (lo : Int) (n : Nat) : rngL lo (n + 1) = .int lo :: rngL (lo + 1) n := by
  unfold rngL
  rw [List.range_succ_eq_map, List.map_cons, List.map_map]
  have e : PyData.int (lo + ((0 : Nat) : Int)) = .int lo := by
    congr 1
    simp
  rw [e]
  congr 1
  apply List.map_congr_left
  intro i _
  show PyData.int _ = PyData.int _
  congr 1
  simp only [Nat.succ_eq_add_one]
  omega
theorem rng_len (lo : Int) (n : Nat) : (rngL lo n).length = n := by simp [rngL]
theorem rng_mem {lo : Int} {n : Nat} {d : D} (h : d ∈ rngL lo n) : ∃ i : Nat, i < n ∧ d = .int (lo + i) := by
  obtain ⟨i, h1, h2⟩ := List.mem_map.mp h
  exact ⟨i, List.mem_range.mp h1, h2.symm⟩
/-! ### plain data -/
theorem plain_ints : ∀ (ns : List Int), PyData.plainAll (ns.map .int) = true
  | [] => rfl
  | _ :: ns => by simp [PyData.plainAll, PyData.plain, plain_ints ns]
theorem depth_ints : ∀ (ns : List Int), PyData.depthAll (ns.map .int) = 0
  | [] => rfl
  | _ :: ns => by simp [PyData.depthAll, PyData.depth, depth_ints ns]
end DL
namespace DL
open PySem PySem.Spec L2
def g_MOST_VARIABLES : D := .int 4
def g_MOST_EXPONENT : D := .int 60
def g_NONE : D := .tuple [.int 0, .int 1]
def g_MOST_WEIGHT : D := .int 100
def g_MOST_ROWS : D := .int 8
def pi_greatest_divisor_monomial_other {α : Type} : List α → List α
  | [a0, a1] => [a0, a1]
  | l => l
def pi_is_below_order_other_monomial {α : Type} : List α → List α
  | [a0, a1, a2] => [a2, a1, a0]
  | l => l
def pi_least_multiple_other_monomial {α : Type} : List α → List α
  | [a0, a1] => [a1, a0]
  | l => l
def pi_monomial_divides_other_monomial {α : Type} : List α → List α
  | [a0, a1] => [a1, a0]
  | l => l
def pi_need_order_order_number {α : Type} : List α → List α
  | [a0, a1] => [a1, a0]
  | l => l
def hdsK : List (Str × Str × Str) := [("BadOrder", "place", "order"), ("BadMonomial", "value", "monomial"), ("BadNumber", "value", "number"), ("Unalike", "place", "unalike")]
def m_is_whole (v_value1 : D) (v_least2 : D) (v_most3 : D) : M D := (do let k ← (do let k ← (do let k ← (do let x ← (do let d ← (pure v_value1); pure (.bool (PyData.isInt d))); asB x); pure (!k)); if k = true then pure true else (do let x ← (do let d ← (pure v_value1); pure (.bool (PyData.isBool d))); asB x)); if k = true then (pure (.bool false)) else (do let x ← (do let x ← (do let x ← (pure v_least2); let y ← (pure PyData.none); lift (isD x y)); let k ← asB x; if k = true then pure (.bool true) else (do let x ← (pure v_value1); let y ← (pure v_least2); lift (geD x y))); let k ← asB x; if k = true then (do let x ← (do let x ← (pure v_most3); let y ← (pure PyData.none); lift (isD x y)); let k ← asB x; if k = true then pure (.bool true) else (do let x ← (pure v_value1); let y ← (pure v_most3); lift (leD x y))) else pure (.bool false)))

def m_is_row (v_value4 : D) (v_length5 : D) : M D := (do let x ← (do let d ← (pure v_value4); pure (.bool (PyData.isTuple d))); let k ← asB x; if k = true then (do let x ← (do let x ← (pure v_length5); let y ← (pure PyData.none); lift (isD x y)); let k ← asB x; if k = true then pure (.bool true) else (do let x ← (do let ds ← (do let x ← (pure v_value4); let xs ← pure []; pure (x :: xs)); lift (lenD ds)); let y ← (pure v_length5); lift (eqD x y))) else pure (.bool false))

def m_are_wholes (v_value6 : D) (v_least7 : D) (v_most8 : D) : M D := (do let x ← (do let as ← (do let x ← (pure v_value6); let xs ← pure []; pure (Ar.dat x :: xs)); fn2 m_is_row (as ++ ([PyData.none]).map Ar.dat)); let k ← asB x; if k = true then (do let ds ← (do let x ← (do let ds ← (do let ds ← (do let x ← (pure v_value6); asSq x); lcM (fun v_one9 => elM (pure true) (do let as ← (do let x ← (pure v_one9); let xs ← (do let x ← (pure v_least7); let xs ← (do let x ← (pure v_most8); let xs ← pure []; pure (Ar.dat x :: xs)); pure (Ar.dat x :: xs)); pure (Ar.dat x :: xs)); fn3 m_is_whole (as ++ (([] : List D)).map Ar.dat))) ds); pure (.list ds)); let xs ← pure []; pure (x :: xs)); lift (allD ds)) else pure (.bool false))

def m_gcd_l0 (kk0 : D × D → M D) : Nat → D × D → M D
  | 0, _ => stuck
  | nn0 + 1, (v_one13, v_other14) => (do let k ← (do let x ← (pure v_other14); let y ← (pure (.int 0)); let z ← lift (neD' x y); asB z); if k = true then ((do let u ← (pure v_other14); let v ← (do let x ← (do let ds ← (do let x ← (pure v_one13); let xs ← pure []; pure (x :: xs)); lift (intD ds)); let y ← (pure v_other14); lift (modD x y)); pure (u, v)) >>= fun v_q15 => (m_gcd_l0 kk0 nn0 (v_q15.1, v_q15.2))) else kk0 (v_one13, v_other14))

def m_gcd (v_one10 : D) (v_other11 : D) : M D := ((do let u ← (do let ds ← (do let x ← (pure v_one10); let xs ← pure []; pure (x :: xs)); lift (absD ds)); let v ← (do let ds ← (do let x ← (pure v_other11); let xs ← pure []; pure (x :: xs)); lift (absD ds)); pure (u, v)) >>= fun v_q12 => ((m_gcd_l0 (fun (v_one13, v_other14) => (pure v_one13))) (fuelD v_q12.2) (v_q12.1, v_q12.2)))

def m_need_monomial (v_monomial16 : D) : M D := (do let k ← (do let k ← (do let k ← (do let x ← (do let as ← (do let x ← (pure v_monomial16); let xs ← (do let x ← (pure (.int 0)); let xs ← (do let x ← (pure g_MOST_EXPONENT); let xs ← pure []; pure (Ar.dat x :: xs)); pure (Ar.dat x :: xs)); pure (Ar.dat x :: xs)); fn3 m_are_wholes (as ++ (([] : List D)).map Ar.dat)); asB x); pure (!k)); if k = true then pure true else (do let x ← (do let ds ← (do let x ← (pure v_monomial16); let xs ← pure []; pure (x :: xs)); lift (lenD ds)); let y ← (pure g_MOST_VARIABLES); let z ← lift (gtD x y); asB z)); if k = true then (do let x ← (pure v_monomial16); raise "BadMonomial" "value" x) else (pure v_monomial16))

def m_need_count (v_number17 : D) : M D := (do let k ← (do let k ← (do let x ← (do let as ← (do let x ← (pure v_number17); let xs ← (do let x ← (pure (.int 0)); let xs ← (do let x ← (pure g_MOST_VARIABLES); let xs ← pure []; pure (Ar.dat x :: xs)); pure (Ar.dat x :: xs)); pure (Ar.dat x :: xs)); fn3 m_is_whole (as ++ (([] : List D)).map Ar.dat)); asB x); pure (!k)); if k = true then (do let x ← (pure v_number17); raise "BadNumber" "value" x) else (pure v_number17))

def m_divides (v_one18 : D) (v_other19 : D) : M D := (do let ds ← (do let x ← (do let ds ← (do let ds ← (do let x ← (pure v_one18); let y ← (pure v_other19); asZip x y); lcM (two fun v_a20 v_b21 => elM (pure true) (do let x ← (pure v_a20); let y ← (pure v_b21); lift (leD x y))) ds); pure (.list ds)); let xs ← pure []; pure (x :: xs)); lift (allD ds))

def m_multiple_of (v_one22 : D) (v_other23 : D) : M D := (do let ds ← (do let x ← (do let ds ← (do let ds ← (do let x ← (pure v_one22); let y ← (pure v_other23); asZip x y); lcM (two fun v_a24 v_b25 => elM (pure true) (do let ds ← (do let x ← (pure v_a24); let xs ← (do let x ← (pure v_b25); let xs ← pure []; pure (x :: xs)); pure (x :: xs)); lift (maxD ds))) ds); pure (.list ds)); let xs ← pure []; pure (x :: xs)); lift (tupleD ds))

def m_divisor_of (v_one26 : D) (v_other27 : D) : M D := (do let ds ← (do let x ← (do let ds ← (do let ds ← (do let x ← (pure v_one26); let y ← (pure v_other27); asZip x y); lcM (two fun v_a28 v_b29 => elM (pure true) (do let ds ← (do let x ← (pure v_a28); let xs ← (do let x ← (pure v_b29); let xs ← pure []; pure (x :: xs)); pure (x :: xs)); lift (minD ds))) ds); pure (.list ds)); let xs ← pure []; pure (x :: xs)); lift (tupleD ds))

def m_need_two (v_monomial30 : D) (v_other31 : D) : M D := ((do let as ← (do let x ← (pure v_monomial30); let xs ← pure []; pure (Ar.dat x :: xs)); fn1 m_need_monomial (as ++ (([] : List D)).map Ar.dat)) >>= fun v_u32 => ((do let as ← (do let x ← (pure v_other31); let xs ← pure []; pure (Ar.dat x :: xs)); fn1 m_need_monomial (as ++ (([] : List D)).map Ar.dat)) >>= fun v_u33 => (do let k ← (do let x ← (do let ds ← (do let x ← (pure v_monomial30); let xs ← pure []; pure (x :: xs)); lift (lenD ds)); let y ← (do let ds ← (do let x ← (pure v_other31); let xs ← pure []; pure (x :: xs)); lift (lenD ds)); let z ← lift (neD' x y); asB z); if k = true then (do let x ← (pure (.str "variables")); raise "Unalike" "place" x) else (pure PyData.none))))

def m_monomial_divides (v_monomial34 : D) (v_other35 : D) : M D := ((do let as ← (do let x ← (pure v_monomial34); let xs ← (do let x ← (pure v_other35); let xs ← pure []; pure (Ar.dat x :: xs)); pure (Ar.dat x :: xs)); fn2 m_need_two (as ++ (([] : List D)).map Ar.dat)) >>= fun v_u36 => (do let as ← (do let x ← (pure v_monomial34); let xs ← (do let x ← (pure v_other35); let xs ← pure []; pure (Ar.dat x :: xs)); pure (Ar.dat x :: xs)); fn2 m_divides (as ++ (([] : List D)).map Ar.dat)))

def m_least_multiple (v_monomial37 : D) (v_other38 : D) : M D := ((do let as ← (do let x ← (pure v_monomial37); let xs ← (do let x ← (pure v_other38); let xs ← pure []; pure (Ar.dat x :: xs)); pure (Ar.dat x :: xs)); fn2 m_need_two (as ++ (([] : List D)).map Ar.dat)) >>= fun v_u39 => (do let as ← (do let x ← (pure v_monomial37); let xs ← (do let x ← (pure v_other38); let xs ← pure []; pure (Ar.dat x :: xs)); pure (Ar.dat x :: xs)); fn2 m_multiple_of (as ++ (([] : List D)).map Ar.dat)))

def m_greatest_divisor (v_monomial40 : D) (v_other41 : D) : M D := ((do let as ← (do let x ← (pure v_monomial40); let xs ← (do let x ← (pure v_other41); let xs ← pure []; pure (Ar.dat x :: xs)); pure (Ar.dat x :: xs)); fn2 m_need_two (as ++ (([] : List D)).map Ar.dat)) >>= fun v_u42 => (do let as ← (do let x ← (pure v_monomial40); let xs ← (do let x ← (pure v_other41); let xs ← pure []; pure (Ar.dat x :: xs)); pure (Ar.dat x :: xs)); fn2 m_divisor_of (as ++ (([] : List D)).map Ar.dat)))

def m_ratio (v_upper43 : D) (v_under44 : D) : M D := (do let k ← (do let x ← (pure v_under44); let y ← (pure (.int 0)); let z ← lift (ltD x y); asB z); if k = true then ((do let u ← (do let x ← (pure v_upper43); lift (negD x)); let v ← (do let x ← (pure v_under44); lift (negD x)); pure (u, v)) >>= fun v_q45 => ((do let as ← (do let x ← (pure v_q45.1); let xs ← (do let x ← (pure v_q45.2); let xs ← pure []; pure (Ar.dat x :: xs)); pure (Ar.dat x :: xs)); fn2 m_gcd (as ++ (([] : List D)).map Ar.dat)) >>= fun v_common46 => (do let ds ← (do let x ← (do let x ← (pure v_q45.1); let y ← (pure v_common46); lift (fdivD x y)); let xs ← (do let x ← (do let x ← (pure v_q45.2); let y ← (pure v_common46); lift (fdivD x y)); let xs ← pure []; pure (x :: xs)); pure (x :: xs)); mkTup ds))) else ((do let as ← (do let x ← (pure v_upper43); let xs ← (do let x ← (pure v_under44); let xs ← pure []; pure (Ar.dat x :: xs)); pure (Ar.dat x :: xs)); fn2 m_gcd (as ++ (([] : List D)).map Ar.dat)) >>= fun v_common47 => (do let ds ← (do let x ← (do let x ← (pure v_upper43); let y ← (pure v_common47); lift (fdivD x y)); let xs ← (do let x ← (do let x ← (pure v_under44); let y ← (pure v_common47); lift (fdivD x y)); let xs ← pure []; pure (x :: xs)); pure (x :: xs)); mkTup ds)))

def m_ratio_minus (v_one48 : D) (v_other49 : D) : M D := (do let as ← (do let x ← (do let x ← (do let x ← (do let x ← (pure v_one48); let y ← (pure (.int 0)); lift (ixD x y)); let y ← (do let x ← (pure v_other49); let y ← (pure (.int 1)); lift (ixD x y)); lift (mulD x y)); let y ← (do let x ← (do let x ← (pure v_other49); let y ← (pure (.int 0)); lift (ixD x y)); let y ← (do let x ← (pure v_one48); let y ← (pure (.int 1)); lift (ixD x y)); lift (mulD x y)); lift (subD x y)); let xs ← (do let x ← (do let x ← (do let x ← (pure v_one48); let y ← (pure (.int 1)); lift (ixD x y)); let y ← (do let x ← (pure v_other49); let y ← (pure (.int 1)); lift (ixD x y)); lift (mulD x y)); let xs ← pure []; pure (Ar.dat x :: xs)); pure (Ar.dat x :: xs)); fn2 m_ratio (as ++ (([] : List D)).map Ar.dat))

def m_ratio_times (v_one50 : D) (v_other51 : D) : M D := (do let as ← (do let x ← (do let x ← (do let x ← (pure v_one50); let y ← (pure (.int 0)); lift (ixD x y)); let y ← (do let x ← (pure v_other51); let y ← (pure (.int 0)); lift (ixD x y)); lift (mulD x y)); let xs ← (do let x ← (do let x ← (do let x ← (pure v_one50); let y ← (pure (.int 1)); lift (ixD x y)); let y ← (do let x ← (pure v_other51); let y ← (pure (.int 1)); lift (ixD x y)); lift (mulD x y)); let xs ← pure []; pure (Ar.dat x :: xs)); pure (Ar.dat x :: xs)); fn2 m_ratio (as ++ (([] : List D)).map Ar.dat))

def m_ratio_over (v_one52 : D) (v_other53 : D) : M D := (do let as ← (do let x ← (do let x ← (do let x ← (pure v_one52); let y ← (pure (.int 0)); lift (ixD x y)); let y ← (do let x ← (pure v_other53); let y ← (pure (.int 1)); lift (ixD x y)); lift (mulD x y)); let xs ← (do let x ← (do let x ← (do let x ← (pure v_one52); let y ← (pure (.int 1)); lift (ixD x y)); let y ← (do let x ← (pure v_other53); let y ← (pure (.int 0)); lift (ixD x y)); lift (mulD x y)); let xs ← pure []; pure (Ar.dat x :: xs)); pure (Ar.dat x :: xs)); fn2 m_ratio (as ++ (([] : List D)).map Ar.dat))

def m_rank_of_l1 (v_column61 : D) (v_found60 : D) (kk1 : List D → M D) : List D → List D → M D
  | [], q => kk1 q
  | v_place68 :: rs1, v_left66 => ((do let as ← (do let x ← (do let x ← (do let y ← (pure v_place68); lift (ixD (.list v_left66) y)); let y ← (pure v_column61); lift (ixD x y)); let xs ← (do let x ← (do let x ← (do let y ← (pure v_found60); lift (ixD (.list v_left66) y)); let y ← (pure v_column61); lift (ixD x y)); let xs ← pure []; pure (Ar.dat x :: xs)); pure (Ar.dat x :: xs)); fn2 m_ratio_over (as ++ (([] : List D)).map Ar.dat)) >>= fun v_part69 => ((do let v ← (do let ds ← (do let ds ← (do let x ← (do let y ← (pure v_place68); lift (ixD (.list v_left66) y)); let y ← (do let y ← (pure v_found60); lift (ixD (.list v_left66) y)); asZip x y); lcM (two fun v_one71 v_two72 => elM (pure true) (do let as ← (do let x ← (pure v_one71); let xs ← (do let x ← (do let as ← (do let x ← (pure v_part69); let xs ← (do let x ← (pure v_two72); let xs ← pure []; pure (Ar.dat x :: xs)); pure (Ar.dat x :: xs)); fn2 m_ratio_times (as ++ (([] : List D)).map Ar.dat)); let xs ← pure []; pure (Ar.dat x :: xs)); pure (Ar.dat x :: xs)); fn2 m_ratio_minus (as ++ (([] : List D)).map Ar.dat))) ds); pure (.list ds)); let k ← (pure v_place68); setL v_left66 k v) >>= fun v_left70 => (m_rank_of_l1 v_column61 v_found60 kk1 rs1 (v_left70))))

def m_rank_of_l0 (kk0 : List D × D → M D) : List D → List D × D → M D
  | [], q => kk0 q
  | v_column61 :: rs0, (v_left59, v_found60) => ((do let ds ← (do let x ← (pure v_found60); let y ← (pure (.int (v_left59 : List D).length)); let i ← asN x; let j ← asN y; pure (rngL i (j - i).toNat)); lcM (fun v_place63 => elM (do let x ← (do let x ← (do let y ← (pure v_place63); lift (ixD (.list v_left59) y)); let y ← (pure v_column61); lift (ixD x y)); let y ← (pure g_NONE); let z ← lift (neD' x y); asB z) (pure v_place63)) ds) >>= fun v_leads62 => (do let k ← (do let x ← (pure (.list v_leads62)); let y ← (do let ds ← pure []; mkLst ds); let z ← lift (neD' x y); asB z); if k = true then ((do let u ← (do let y ← (do let x ← (pure (.list v_leads62)); let y ← (pure (.int 0)); lift (ixD x y)); lift (ixD (.list v_left59) y)); let v ← (do let y ← (pure v_found60); lift (ixD (.list v_left59) y)); let n ← (pure v_found60); let v_ds65 ← setL v_left59 n u; let l ← quiet (do let x ← (pure (.list v_leads62)); let y ← (pure (.int 0)); lift (ixD x y)); setL v_ds65 l v) >>= fun v_left64 => (do let ds ← (do let x ← (do let x ← (pure v_found60); let y ← (pure (.int 1)); lift (addD x y)); let y ← (pure (.int (v_left64 : List D).length)); let i ← asN x; let j ← asN y; pure (rngL i (j - i).toNat)); (m_rank_of_l1 v_column61 v_found60 (fun v_left66 => ((do let x ← (pure v_found60); let y ← (pure (.int 1)); lift (addD x y)) >>= fun v_found67 => (m_rank_of_l0 kk0 rs0 (v_left66, v_found67))))) ds (v_left64))) else (m_rank_of_l0 kk0 rs0 (v_left59, v_found60))))

def m_rank_of (v_rows54 : D) (v_columns55 : D) : M D := ((do let u ← (do let ds ← (do let x ← (pure v_rows54); asSq x); lcM (fun v_row57 => elM (pure true) (do let ds ← (do let ds ← (do let x ← (pure v_row57); asSq x); lcM (fun v_one58 => elM (pure true) (do let as ← (do let x ← (pure v_one58); let xs ← (do let x ← (pure (.int 1)); let xs ← pure []; pure (Ar.dat x :: xs)); pure (Ar.dat x :: xs)); fn2 m_ratio (as ++ (([] : List D)).map Ar.dat))) ds); pure (.list ds))) ds); let v ← (pure (.int 0)); pure (u, v)) >>= fun v_q56 => (do let ds ← (do let x ← (pure v_columns55); let n ← asN x; pure (rngL 0 n.toNat)); (m_rank_of_l0 (fun (v_left59, v_found60) => (pure v_found60))) ds (v_q56.1, v_q56.2)))

def m_first_above (v_rows73 : D) (v_column74 : D) : M D := ((do let ds ← (do let x ← (pure v_rows73); asSq x); lcM (fun v_row76 => elM (do let x ← (do let x ← (pure v_row76); let y ← (pure v_column74); lift (ixD x y)); let y ← (pure (.int 0)); let z ← lift (neD' x y); asB z) (do let x ← (pure v_row76); let y ← (pure v_column74); lift (ixD x y))) ds) >>= fun v_numbers75 => (do let x ← (do let x ← (pure (.list v_numbers75)); let y ← (do let ds ← pure []; mkLst ds); lift (neD' x y)); let k ← asB x; if k = true then (do let x ← (do let x ← (pure (.list v_numbers75)); let y ← (pure (.int 0)); lift (ixD x y)); let y ← (pure (.int 0)); lift (gtD x y)) else pure (.bool false)))

def m_are_weights (v_count77 : D) (v_rows78 : D) : M D := (do let k ← (do let k ← (do let k ← (do let x ← (do let as ← (do let x ← (pure v_rows78); let xs ← pure []; pure (Ar.dat x :: xs)); fn2 m_is_row (as ++ ([PyData.none]).map Ar.dat)); asB x); pure (!k)); if k = true then pure true else (do let x ← (do let ds ← (do let x ← (pure v_rows78); let xs ← pure []; pure (x :: xs)); lift (lenD ds)); let y ← (pure g_MOST_ROWS); let z ← lift (gtD x y); asB z)); if k = true then (pure (.bool false)) else (do let ds ← (do let x ← (do let ds ← (do let ds ← (do let x ← (pure v_rows78); asSq x); lcM (fun v_row79 => elM (pure true) (do let x ← (do let as ← (do let x ← (pure v_row79); let xs ← (do let x ← (do let x ← (pure g_MOST_WEIGHT); lift (negD x)); let xs ← (do let x ← (pure g_MOST_WEIGHT); let xs ← pure []; pure (Ar.dat x :: xs)); pure (Ar.dat x :: xs)); pure (Ar.dat x :: xs)); fn3 m_are_wholes (as ++ (([] : List D)).map Ar.dat)); let k ← asB x; if k = true then (do let x ← (do let ds ← (do let x ← (pure v_row79); let xs ← pure []; pure (x :: xs)); lift (lenD ds)); let y ← (pure v_count77); lift (eqD x y)) else pure (.bool false))) ds); pure (.list ds)); let xs ← pure []; pure (x :: xs)); lift (allD ds)))

def m_order_fault (v_count80 : D) (v_value81 : D) : M D := (do let k ← (do let k ← (do let k ← (do let x ← (do let as ← (do let x ← (pure v_value81); let xs ← pure []; pure (Ar.dat x :: xs)); fn2 m_is_row (as ++ ([PyData.none]).map Ar.dat)); asB x); pure (!k)); if k = true then pure true else (do let k ← (do let x ← (pure v_value81); let y ← (do let ds ← pure []; mkTup ds); let z ← lift (eqD x y); asB z); if k = true then pure true else (do let k ← (do let x ← (do let d ← (do let x ← (pure v_value81); let y ← (pure (.int 0)); lift (ixD x y)); pure (.bool (PyData.isStr d))); asB x); pure (!k)))); if k = true then (do let ds ← (do let x ← (pure (.str "form")); let xs ← pure []; pure (x :: xs)); mkTup ds) else (do let k ← (do let x ← (pure v_value81); let y ← (do let ds ← (do let x ← (do let ds ← (do let x ← (pure (.str "lex")); let xs ← pure []; pure (x :: xs)); mkTup ds); let xs ← (do let x ← (do let ds ← (do let x ← (pure (.str "degree")); let xs ← pure []; pure (x :: xs)); mkTup ds); let xs ← pure []; pure (x :: xs)); pure (x :: xs)); mkTup ds); let z ← lift (inD x y); asB z); if k = true then (do let ds ← pure []; mkTup ds) else (do let k ← (do let k ← (do let x ← (do let ds ← (do let x ← (pure v_value81); let xs ← pure []; pure (x :: xs)); lift (lenD ds)); let y ← (pure (.int 2)); let z ← lift (neD' x y); asB z); if k = true then pure true else (do let x ← (do let x ← (pure v_value81); let y ← (pure (.int 0)); lift (ixD x y)); let y ← (do let ds ← (do let x ← (pure (.str "out")); let xs ← (do let x ← (pure (.str "weights")); let xs ← pure []; pure (x :: xs)); pure (x :: xs)); mkTup ds); let z ← lift (notInD x y); asB z)); if k = true then (do let ds ← (do let x ← (pure (.str "form")); let xs ← pure []; pure (x :: xs)); mkTup ds) else (do let k ← (do let x ← (do let x ← (pure v_value81); let y ← (pure (.int 0)); lift (ixD x y)); let y ← (pure (.str "out")); let z ← lift (eqD x y); asB z); if k = true then (do let k ← (do let x ← (do let as ← (do let x ← (do let x ← (pure v_value81); let y ← (pure (.int 1)); lift (ixD x y)); let xs ← (do let x ← (pure (.int 0)); let xs ← (do let x ← (pure v_count80); let xs ← pure []; pure (Ar.dat x :: xs)); pure (Ar.dat x :: xs)); pure (Ar.dat x :: xs)); fn3 m_is_whole (as ++ (([] : List D)).map Ar.dat)); asB x); if k = true then (do let ds ← pure []; mkTup ds) else (do let ds ← (do let x ← (pure (.str "out")); let xs ← pure []; pure (x :: xs)); mkTup ds)) else (do let k ← (do let k ← (do let x ← (do let as ← (do let x ← (pure v_count80); let xs ← (do let x ← (do let x ← (pure v_value81); let y ← (pure (.int 1)); lift (ixD x y)); let xs ← pure []; pure (Ar.dat x :: xs)); pure (Ar.dat x :: xs)); fn2 m_are_weights (as ++ (([] : List D)).map Ar.dat)); asB x); pure (!k)); if k = true then (do let ds ← (do let x ← (pure (.str "weights")); let xs ← pure []; pure (x :: xs)); mkTup ds) else (do let k ← (do let k ← (do let x ← (do let as ← (do let x ← (do let x ← (pure v_value81); let y ← (pure (.int 1)); lift (ixD x y)); let xs ← (do let x ← (pure v_count80); let xs ← pure []; pure (Ar.dat x :: xs)); pure (Ar.dat x :: xs)); fn2 m_rank_of (as ++ (([] : List D)).map Ar.dat)); let y ← (pure v_count80); let z ← lift (ltD x y); asB z); if k = true then pure true else (do let k ← (do let x ← (do let ds ← (do let x ← (do let ds ← (do let ds ← (do let x ← (pure v_count80); let n ← asN x; pure (rngL 0 n.toNat)); lcM (fun v_column82 => elM (pure true) (do let as ← (do let x ← (do let x ← (pure v_value81); let y ← (pure (.int 1)); lift (ixD x y)); let xs ← (do let x ← (pure v_column82); let xs ← pure []; pure (Ar.dat x :: xs)); pure (Ar.dat x :: xs)); fn2 m_first_above (as ++ (([] : List D)).map Ar.dat))) ds); pure (.list ds)); let xs ← pure []; pure (x :: xs)); lift (allD ds)); asB x); pure (!k))); if k = true then (do let ds ← (do let x ← (pure (.str "no order")); let xs ← pure []; pure (x :: xs)); mkTup ds) else (do let ds ← pure []; mkTup ds)))))))

def m_need_order (v_number83 : D) (v_order84 : D) : M D := ((do let as ← (do let x ← (pure v_number83); let xs ← pure []; pure (Ar.dat x :: xs)); fn1 m_need_count (as ++ (([] : List D)).map Ar.dat)) >>= fun v_u85 => ((do let as ← (do let x ← (pure v_number83); let xs ← (do let x ← (pure v_order84); let xs ← pure []; pure (Ar.dat x :: xs)); pure (Ar.dat x :: xs)); fn2 m_order_fault (as ++ (([] : List D)).map Ar.dat)) >>= fun v_fault86 => (do let k ← (do let x ← (pure v_fault86); let y ← (do let ds ← pure []; mkTup ds); let z ← lift (neD' x y); asB z); if k = true then (do let x ← (do let x ← (pure v_fault86); let y ← (pure (.int 0)); lift (ixD x y)); raise "BadOrder" "place" x) else (pure v_order84))))

def m_by_degree (v_exponents87 : D) : M D := (do let x ← (do let ds ← (do let x ← (do let ds ← (do let x ← (pure v_exponents87); let xs ← pure []; pure (x :: xs)); lift (sumD ds)); let xs ← pure []; pure (x :: xs)); mkTup ds); let y ← (do let ds ← (do let x ← (do let ds ← (do let ds ← (do let x ← (pure v_exponents87); let ds ← asSq x; pure ds.reverse); lcM (fun v_one88 => elM (pure true) (do let x ← (pure v_one88); lift (negD x))) ds); pure (.list ds)); let xs ← pure []; pure (x :: xs)); lift (tupleD ds)); lift (addD x y))

def m_key_of (v_order89 : D) (v_monomial90 : D) : M D := (do let k ← (do let x ← (do let x ← (pure v_order89); let y ← (pure (.int 0)); lift (ixD x y)); let y ← (pure (.str "lex")); let z ← lift (eqD x y); asB z); if k = true then (pure v_monomial90) else (do let k ← (do let x ← (do let x ← (pure v_order89); let y ← (pure (.int 0)); lift (ixD x y)); let y ← (pure (.str "degree")); let z ← lift (eqD x y); asB z); if k = true then (do let as ← (do let x ← (pure v_monomial90); let xs ← pure []; pure (Ar.dat x :: xs)); fn1 m_by_degree (as ++ (([] : List D)).map Ar.dat)) else (do let k ← (do let x ← (do let x ← (pure v_order89); let y ← (pure (.int 0)); lift (ixD x y)); let y ← (pure (.str "out")); let z ← lift (eqD x y); asB z); if k = true then (do let x ← (do let as ← (do let x ← (do let x ← (pure v_monomial90); let l ← (pure (none : Option Int)); let h ← (do let x ← (do let x ← (pure v_order89); let y ← (pure (.int 1)); lift (ixD x y)); asI x); lift (slD x l h)); let xs ← pure []; pure (Ar.dat x :: xs)); fn1 m_by_degree (as ++ (([] : List D)).map Ar.dat)); let y ← (do let as ← (do let x ← (do let x ← (pure v_monomial90); let l ← (do let x ← (do let x ← (pure v_order89); let y ← (pure (.int 1)); lift (ixD x y)); asI x); let h ← (pure (none : Option Int)); lift (slD x l h)); let xs ← pure []; pure (Ar.dat x :: xs)); fn1 m_by_degree (as ++ (([] : List D)).map Ar.dat)); lift (addD x y)) else (do let ds ← (do let x ← (do let ds ← (do let ds ← (do let x ← (do let x ← (pure v_order89); let y ← (pure (.int 1)); lift (ixD x y)); asSq x); lcM (fun v_row91 => elM (pure true) (do let ds ← (do let x ← (do let ds ← (do let ds ← (do let x ← (pure v_row91); let y ← (pure v_monomial90); asZip x y); lcM (two fun v_weight92 v_one93 => elM (pure true) (do let x ← (pure v_weight92); let y ← (pure v_one93); lift (mulD x y))) ds); pure (.list ds)); let xs ← pure []; pure (x :: xs)); lift (sumD ds))) ds); pure (.list ds)); let xs ← pure []; pure (x :: xs)); lift (tupleD ds)))))

def m_is_below (v_monomial94 : D) (v_other95 : D) (v_order96 : D) : M D := ((do let as ← (do let x ← (pure v_monomial94); let xs ← (do let x ← (pure v_other95); let xs ← pure []; pure (Ar.dat x :: xs)); pure (Ar.dat x :: xs)); fn2 m_need_two (as ++ (([] : List D)).map Ar.dat)) >>= fun v_u97 => ((do let as ← (do let x ← (do let ds ← (do let x ← (pure v_monomial94); let xs ← pure []; pure (x :: xs)); lift (lenD ds)); let xs ← (do let x ← (pure v_order96); let xs ← pure []; pure (Ar.dat x :: xs)); pure (Ar.dat x :: xs)); fn2 m_need_order (as ++ (([] : List D)).map Ar.dat)) >>= fun v_u98 => (do let x ← (do let as ← (do let x ← (pure v_order96); let xs ← (do let x ← (pure v_monomial94); let xs ← pure []; pure (Ar.dat x :: xs)); pure (Ar.dat x :: xs)); fn2 m_key_of (as ++ (([] : List D)).map Ar.dat)); let y ← (do let as ← (do let x ← (pure v_order96); let xs ← (do let x ← (pure v_other95); let xs ← pure []; pure (Ar.dat x :: xs)); pure (Ar.dat x :: xs)); fn2 m_key_of (as ++ (([] : List D)).map Ar.dat)); lift (ltD x y))))

def m__law_mixed (v_cell99 : D) (v_n100 : D) : M D := ((do let x ← (do let x ← (do let x ← (do let ds ← (do let x ← (do let x ← (do let x ← (pure v_cell99); let y ← (do let x ← (pure (.int 1)); let y ← (do let x ← (pure (.int 2)); let y ← (pure v_n100); lift (mulD x y)); lift (addD x y)); lift (mulD x y)); let y ← (pure (.int 48271)); lift (mulD x y)); let xs ← pure []; pure (x :: xs)); lift (intD ds)); let y ← (pure (.int 2147483647)); lift (modD x y)); let y ← (do let x ← (do let x ← (pure (.int 7919)); let y ← (pure v_n100); lift (mulD x y)); let y ← (pure v_n100); lift (mulD x y)); lift (addD x y)); let y ← (do let x ← (pure (.int 104729)); let y ← (pure v_n100); lift (mulD x y)); lift (addD x y)) >>= fun v_blend101 => (do let x ← (do let x ← (do let ds ← (do let x ← (do let x ← (pure v_blend101); let y ← (pure (.int 69621)); lift (mulD x y)); let xs ← pure []; pure (x :: xs)); lift (intD ds)); let y ← (pure (.int 2147483629)); lift (modD x y)); let y ← (pure (.int 7)); lift (fdivD x y)))

def m__law_folded_l1 (kk1 : List D → M D) : List D → List D → M D
  | [], q => kk1 q
  | v_n107 :: rs1, v_found106 => ((do let v ← (do let x ← (do let ds ← (do let x ← (do let x ← (do let y ← (pure v_n107); lift (ixD (.list v_found106) y)); let y ← (do let x ← (do let y ← (do let x ← (pure v_n107); let y ← (pure (.int 1)); lift (subD x y)); lift (ixD (.list v_found106) y)); let y ← (pure (.int 16807)); lift (mulD x y)); lift (addD x y)); let xs ← pure []; pure (x :: xs)); lift (intD ds)); let y ← (pure (.int 2147483647)); lift (modD x y)); let k ← (pure v_n107); setL v_found106 k v) >>= fun v_found108 => (m__law_folded_l1 kk1 rs1 (v_found108)))

def m__law_folded_l0 (kk0 : List D → M D) : List D → List D → M D
  | [], q => kk0 q
  | v_d112 :: rs0, v_found105 => two (fun v_n109 v_cell110 => ((do let v ← (do let x ← (do let ds ← (do let x ← (do let x ← (do let x ← (do let y ← (do let x ← (do let ds ← (do let x ← (pure v_n109); let xs ← pure []; pure (x :: xs)); lift (intD ds)); let y ← (pure (.int 64)); lift (modD x y)); lift (ixD (.list v_found105) y)); let y ← (pure (.int 48271)); lift (mulD x y)); let y ← (pure v_cell110); lift (addD x y)); let xs ← pure []; pure (x :: xs)); lift (intD ds)); let y ← (pure (.int 2147483647)); lift (modD x y)); let k ← (do let x ← (do let ds ← (do let x ← (pure v_n109); let xs ← pure []; pure (x :: xs)); lift (intD ds)); let y ← (pure (.int 64)); lift (modD x y)); setL v_found105 k v) >>= fun v_found111 => (m__law_folded_l0 kk0 rs0 (v_found111)))) v_d112

def m__law_folded (v_script102 : List Int) : M D := ((do let ds ← (do let x ← (pure (.int 64)); let n ← asN x; pure (rngL 0 n.toNat)); lcM (fun v_n104 => elM (pure true) (do let x ← (pure (.int 17)); let y ← (pure v_n104); lift (addD x y))) ds) >>= fun v_found103 => (do let ds ← (pure (enumL 0 (v_script102.map .int))); (m__law_folded_l0 (fun v_found105 => (do let ds ← (do let x ← (pure (.int 1)); let y ← (pure (.int 64)); let i ← asN x; let j ← asN y; pure (rngL i (j - i).toNat)); (m__law_folded_l1 (fun v_found106 => (pure (.list v_found106)))) ds (v_found105)))) ds (v_found103)))

def m__law_draw (v_limit113 : D) : M D := (getSpot >>= fun v_n114 => ((do let d ← (do let x ← (pure v_n114); let y ← (pure (.int 1)); lift (addD x y)); setSpot d) >>= fun _ => (do let k ← greatNe; if k = true then ((pure () : M Unit) >>= fun _ => ((do let x ← (do let ds ← (do let x ← (pure v_n114); let xs ← pure []; pure (x :: xs)); lift (intD ds)); let y ← (lenMem true); lift (modD x y)) >>= fun v_here115 => ((do let y ← (pure v_here115); getMem true y) >>= fun v_cell116 => (do let k ← (do let x ← (pure v_cell116); let y ← (pure (.int 0)); let z ← lift (gtD x y); asB z); if k = true then ((do let v ← (do let x ← (pure v_cell116); let y ← (pure v_limit113); lift (fdivD x y)); let k ← (pure v_here115); setMem k v) >>= fun _ => (do let x ← (do let ds ← (do let x ← (pure v_cell116); let xs ← pure []; pure (x :: xs)); lift (intD ds)); let y ← (pure v_limit113); lift (modD x y))) else ((pure () : M Unit) >>= fun _ => (do let x ← (do let ds ← (do let x ← (do let as ← (do let x ← (do let as ← (do let x ← (do let x ← (do let y ← (do let x ← (do let ds ← (do let x ← (pure v_n114); let xs ← pure []; pure (x :: xs)); lift (intD ds)); let y ← (pure (.int 64)); lift (modD x y)); getMem false y); let y ← (do let x ← (pure (.int 31)); let y ← (do let x ← (pure v_n114); let y ← (pure (.int 64)); lift (fdivD x y)); lift (mulD x y)); lift (addD x y)); let xs ← (do let x ← (pure v_n114); let xs ← pure []; pure (Ar.dat x :: xs)); pure (Ar.dat x :: xs)); fn2 m__law_mixed (as ++ (([] : List D)).map Ar.dat)); let xs ← (do let x ← (do let x ← (pure v_n114); let y ← (pure (.int 7)); lift (addD x y)); let xs ← pure []; pure (Ar.dat x :: xs)); pure (Ar.dat x :: xs)); fn2 m__law_mixed (as ++ (([] : List D)).map Ar.dat)); let xs ← pure []; pure (x :: xs)); lift (intD ds)); let y ← (pure v_limit113); lift (modD x y))))))) else ((pure () : M Unit) >>= fun _ => (do let x ← (do let ds ← (do let x ← (do let as ← (do let x ← (do let as ← (do let x ← (do let x ← (do let y ← (do let x ← (do let ds ← (do let x ← (pure v_n114); let xs ← pure []; pure (x :: xs)); lift (intD ds)); let y ← (pure (.int 64)); lift (modD x y)); getMem false y); let y ← (do let x ← (pure (.int 31)); let y ← (do let x ← (pure v_n114); let y ← (pure (.int 64)); lift (fdivD x y)); lift (mulD x y)); lift (addD x y)); let xs ← (do let x ← (pure v_n114); let xs ← pure []; pure (Ar.dat x :: xs)); pure (Ar.dat x :: xs)); fn2 m__law_mixed (as ++ (([] : List D)).map Ar.dat)); let xs ← (do let x ← (do let x ← (pure v_n114); let y ← (pure (.int 7)); lift (addD x y)); let xs ← pure []; pure (Ar.dat x :: xs)); pure (Ar.dat x :: xs)); fn2 m__law_mixed (as ++ (([] : List D)).map Ar.dat)); let xs ← pure []; pure (x :: xs)); lift (intD ds)); let y ← (pure v_limit113); lift (modD x y))))))

def m1__law_begun (v_script : List Int) : M D := (do let as ← (do let xs ← pure []; pure (Ar.giv v_script :: xs)); fg1 m__law_folded (as ++ (([] : List D)).map Ar.dat))
def m2__law_begun (v_script : List Int) : M D := (do let ds ← (do let ds ← (pure (v_script.map .int)); lcM (fun v_cell117 => elM (pure true) (do let k ← (do let x ← (pure v_cell117); let y ← (do let x ← (pure (.int 10)); let y ← (pure (.int 18)); lift (powD x y)); let z ← lift (geD x y); asB z); if k = true then (pure v_cell117) else (pure (.int 0)))) ds); pure (.list ds))

def m__law_of (v_some118 : D) : M D := (do let x ← (pure v_some118); let y ← (do let as ← (do let xs ← (do let x ← (do let ds ← (do let x ← (pure v_some118); let xs ← pure []; pure (x :: xs)); lift (lenD ds)); let xs ← pure []; pure (Ar.dat x :: xs)); pure (Ar.drw :: xs)); fm1 m__law_draw (as ++ (([] : List D)).map Ar.dat)); lift (ixD x y))

def m__law_like_l0 (rf : D → D → M D) (v_due120 : D) (v_got119 : D) (kk0 : Unit → M D) : List D → Unit → M D
  | [], q => kk0 q
  | v_n121 :: rs0, _ => (do let k ← (do let k ← (do let x ← (do let as ← (do let x ← (do let x ← (pure v_got119); let y ← (pure v_n121); lift (ixD x y)); let xs ← (do let x ← (do let x ← (pure v_due120); let y ← (pure v_n121); lift (ixD x y)); let xs ← pure []; pure (Ar.dat x :: xs)); pure (Ar.dat x :: xs)); fn2 rf (as ++ (([] : List D)).map Ar.dat)); asB x); pure (!k)); if k = true then (pure (.bool false)) else (m__law_like_l0 rf v_due120 v_got119 kk0 rs0 ()))

def r__law_like : Nat → D → D → M D
  | 0, _, _ => stuck
  | n + 1, v_got119, v_due120 => (do let k ← (do let x ← (pure v_due120); let y ← (pure PyData.none); let z ← lift (isD x y); asB z); if k = true then (do let x ← (pure v_got119); let y ← (pure PyData.none); lift (isD x y)) else (do let k ← (do let x ← (do let d ← (pure v_due120); pure (.bool (PyData.isBool d))); asB x); if k = true then (do let x ← (do let d ← (pure v_got119); pure (.bool (PyData.isBool d))); let k ← asB x; if k = true then (do let x ← (pure v_got119); let y ← (pure v_due120); lift (eqD x y)) else pure (.bool false)) else (do let k ← (do let x ← (do let d ← (pure v_due120); pure (.bool (PyData.isInt d))); asB x); if k = true then (do let x ← (do let d ← (pure v_got119); pure (.bool (PyData.isInt d))); let k ← asB x; if k = true then (do let x ← (do let x ← (do let d ← (pure v_got119); pure (.bool (PyData.isBool d))); let k ← asB x; pure (.bool (!k))); let k ← asB x; if k = true then (do let x ← (pure v_got119); let y ← (pure v_due120); lift (eqD x y)) else pure (.bool false)) else pure (.bool false)) else (do let k ← (do let x ← (do let d ← (pure v_due120); pure (.bool (PyData.isStr d))); asB x); if k = true then (do let x ← (do let d ← (pure v_got119); pure (.bool (PyData.isStr d))); let k ← asB x; if k = true then (do let x ← (pure v_got119); let y ← (pure v_due120); lift (eqD x y)) else pure (.bool false)) else (do let k ← (do let k ← (do let k ← (do let x ← (do let d ← (pure v_due120); pure (.bool (PyData.isTuple d))); asB x); if k = true then (do let k ← (do let x ← (do let d ← (pure v_got119); pure (.bool (PyData.isTuple d))); asB x); pure (!k)) else pure false); if k = true then pure true else (do let k ← (do let x ← (do let d ← (pure v_due120); pure (.bool (PyData.isList d))); asB x); if k = true then (do let k ← (do let x ← (do let d ← (pure v_got119); pure (.bool (PyData.isList d))); asB x); pure (!k)) else pure false)); if k = true then (pure (.bool false)) else (do let k ← (do let x ← (do let ds ← (do let x ← (pure v_got119); let xs ← pure []; pure (x :: xs)); lift (lenD ds)); let y ← (do let ds ← (do let x ← (pure v_due120); let xs ← pure []; pure (x :: xs)); lift (lenD ds)); let z ← lift (neD' x y); asB z); if k = true then (pure (.bool false)) else (do let ds ← (do let x ← (do let ds ← (do let x ← (pure v_due120); let xs ← pure []; pure (x :: xs)); lift (lenD ds)); let n ← asN x; pure (rngL 0 n.toNat)); (m__law_like_l0 (r__law_like n) v_due120 v_got119 (fun (_ : Unit) => (pure (.bool true)))) ds ())))))))
def m__law_like : D → D → M D := r__law_like 8

def m__law_order_l0 (kk0 : List D × List D → M D) : Nat → List D × List D → M D
  | 0, _ => stuck
  | nn0 + 1, (v_left124, v_found125) => (do let k ← (do let z ← lift (neD' (.list v_left124) (.list [])); asB z); if k = true then ((do let k ← (do let as ← (do let xs ← (do let x ← (pure (.int (v_left124 : List D).length)); let xs ← pure []; pure (Ar.dat x :: xs)); pure (Ar.drw :: xs)); fm1 m__law_draw (as ++ (([] : List D)).map Ar.dat)); let q ← popL v_left124 k; let ds' ← pushL v_found125 q.1; pure (ds', q.2)) >>= fun v_q126 => (m__law_order_l0 kk0 nn0 (v_q126.2, v_q126.1))) else kk0 (v_left124, v_found125))

def m__law_order (v_many122 : D) : M D := ((do let u ← (do let x ← (pure v_many122); let n ← asN x; pure (rngL 0 n.toNat)); let v ← (do let ds ← pure []; okLen ds); pure (u, v)) >>= fun v_q123 => ((m__law_order_l0 (fun (v_left124, v_found125) => (pure (.list v_found125)))) ((v_q123.1).length + 1) (v_q123.1, v_q123.2)))

def m__law_common_l0 (kk0 : D × D → M D) : Nat → D × D → M D
  | 0, _ => stuck
  | nn0 + 1, (v_one130, v_other131) => (do let k ← (do let x ← (pure v_other131); let y ← (pure (.int 0)); let z ← lift (neD' x y); asB z); if k = true then ((do let u ← (pure v_other131); let v ← (do let x ← (do let ds ← (do let x ← (pure v_one130); let xs ← pure []; pure (x :: xs)); lift (intD ds)); let y ← (pure v_other131); lift (modD x y)); pure (u, v)) >>= fun v_q132 => (m__law_common_l0 kk0 nn0 (v_q132.1, v_q132.2))) else kk0 (v_one130, v_other131))

def m__law_common (v_one127 : D) (v_other128 : D) : M D := ((do let u ← (do let ds ← (do let x ← (pure v_one127); let xs ← pure []; pure (x :: xs)); lift (absD ds)); let v ← (do let ds ← (do let x ← (pure v_other128); let xs ← pure []; pure (x :: xs)); lift (absD ds)); pure (u, v)) >>= fun v_q129 => ((m__law_common_l0 (fun (v_one130, v_other131) => (pure v_one130))) (fuelD v_q129.2) (v_q129.1, v_q129.2)))

def m__law_ratio (v_upper133 : D) (v_under134 : D) : M D := ((do let as ← (do let x ← (pure v_upper133); let xs ← (do let x ← (pure v_under134); let xs ← pure []; pure (Ar.dat x :: xs)); pure (Ar.dat x :: xs)); fn2 m__law_common (as ++ (([] : List D)).map Ar.dat)) >>= fun v_common135 => ((do let k ← (do let x ← (pure v_under134); let y ← (pure (.int 0)); let z ← lift (ltD x y); asB z); if k = true then (do let x ← (pure v_common135); lift (negD x)) else (pure v_common135)) >>= fun v_common136 => (do let ds ← (do let x ← (do let x ← (pure v_upper133); let y ← (pure v_common136); lift (fdivD x y)); let xs ← (do let x ← (do let x ← (pure v_under134); let y ← (pure v_common136); lift (fdivD x y)); let xs ← pure []; pure (x :: xs)); pure (x :: xs)); mkTup ds)))

def m__law_times_l0 (kk0 : D → M D) : List D → D → M D
  | [], q => kk0 q
  | v_d143 :: rs0, v_found139 => two (fun v_upper140 v_under141 => ((do let as ← (do let x ← (do let x ← (do let x ← (pure v_found139); let y ← (pure (.int 0)); lift (ixD x y)); let y ← (pure v_upper140); lift (mulD x y)); let xs ← (do let x ← (do let x ← (do let x ← (pure v_found139); let y ← (pure (.int 1)); lift (ixD x y)); let y ← (pure v_under141); lift (mulD x y)); let xs ← pure []; pure (Ar.dat x :: xs)); pure (Ar.dat x :: xs)); fn2 m__law_ratio (as ++ (([] : List D)).map Ar.dat)) >>= fun v_found142 => (m__law_times_l0 kk0 rs0 (v_found142)))) v_d143

def m__law_times (v_fractions137 : D) : M D := ((do let ds ← (do let x ← (pure (.int 1)); let xs ← (do let x ← (pure (.int 1)); let xs ← pure []; pure (x :: xs)); pure (x :: xs)); mkTup ds) >>= fun v_found138 => (do let ds ← (do let x ← (pure v_fractions137); asSq x); (m__law_times_l0 (fun v_found139 => (pure v_found139))) ds (v_found138)))

def m__law_over (v_one144 : D) (v_other145 : D) : M D := (do let as ← (do let x ← (do let x ← (do let x ← (pure v_one144); let y ← (pure (.int 0)); lift (ixD x y)); let y ← (do let x ← (pure v_other145); let y ← (pure (.int 1)); lift (ixD x y)); lift (mulD x y)); let xs ← (do let x ← (do let x ← (do let x ← (pure v_one144); let y ← (pure (.int 1)); lift (ixD x y)); let y ← (do let x ← (pure v_other145); let y ← (pure (.int 0)); lift (ixD x y)); lift (mulD x y)); let xs ← pure []; pure (Ar.dat x :: xs)); pure (Ar.dat x :: xs)); fn2 m__law_ratio (as ++ (([] : List D)).map Ar.dat))

def m__law_minus (v_one146 : D) (v_other147 : D) : M D := (do let as ← (do let x ← (do let x ← (do let x ← (do let x ← (pure v_one146); let y ← (pure (.int 0)); lift (ixD x y)); let y ← (do let x ← (pure v_other147); let y ← (pure (.int 1)); lift (ixD x y)); lift (mulD x y)); let y ← (do let x ← (do let x ← (pure v_other147); let y ← (pure (.int 0)); lift (ixD x y)); let y ← (do let x ← (pure v_one146); let y ← (pure (.int 1)); lift (ixD x y)); lift (mulD x y)); lift (subD x y)); let xs ← (do let x ← (do let x ← (do let x ← (pure v_one146); let y ← (pure (.int 1)); lift (ixD x y)); let y ← (do let x ← (pure v_other147); let y ← (pure (.int 1)); lift (ixD x y)); lift (mulD x y)); let xs ← pure []; pure (Ar.dat x :: xs)); pure (Ar.dat x :: xs)); fn2 m__law_ratio (as ++ (([] : List D)).map Ar.dat))

def m__law_monomial_l0 (v_count148 : D) (kk0 : List D → M D) : List D → List D → M D
  | [], q => kk0 q
  | v_turn152 :: rs0, v_found151 => ((do let as ← (do let xs ← (do let x ← (pure v_count148); let xs ← pure []; pure (Ar.dat x :: xs)); pure (Ar.drw :: xs)); fm1 m__law_draw (as ++ (([] : List D)).map Ar.dat)) >>= fun v_place153 => ((do let v ← (do let x ← (do let y ← (pure v_place153); lift (ixD (.list v_found151) y)); let y ← (pure (.int 1)); lift (addD x y)); let k ← (pure v_place153); setL v_found151 k v) >>= fun v_found154 => (m__law_monomial_l0 v_count148 kk0 rs0 (v_found154))))

def m__law_monomial (v_count148 : D) (v_degree149 : D) : M D := ((do let x ← (do let ds ← (do let x ← (pure (.int 0)); let xs ← pure []; pure (x :: xs)); mkLst ds); let y ← (pure v_count148); repL x y) >>= fun v_found150 => (do let k ← (do let x ← (pure v_count148); let y ← (pure (.int 0)); let z ← lift (gtD x y); asB z); if k = true then (do let ds ← (do let x ← (do let as ← (do let xs ← (do let x ← (do let x ← (pure v_degree149); let y ← (pure (.int 1)); lift (addD x y)); let xs ← pure []; pure (Ar.dat x :: xs)); pure (Ar.drw :: xs)); fm1 m__law_draw (as ++ (([] : List D)).map Ar.dat)); let n ← asN x; pure (rngL 0 n.toNat)); (m__law_monomial_l0 v_count148 (fun v_found151 => (do let ds ← (do let x ← (pure (.list v_found151)); let xs ← pure []; pure (x :: xs)); lift (tupleD ds)))) ds (v_found150)) else (do let ds ← (do let x ← (pure (.list v_found150)); let xs ← pure []; pure (x :: xs)); lift (tupleD ds))))

def m__law_key_l0 (kk0 : D → M D) : List D → D → M D
  | [], q => kk0 q
  | v_part163 :: rs0, v_found162 => ((do let x ← (do let x ← (pure v_found162); let y ← (do let ds ← (do let x ← (do let ds ← (do let x ← (pure v_part163); let xs ← pure []; pure (x :: xs)); lift (sumD ds)); let xs ← pure []; pure (x :: xs)); mkLst ds); lift (addD x y)); let y ← (do let ds ← (do let ds ← (do let x ← (do let x ← (pure v_part163); lift (revD x)); asSq x); lcM (fun v_one165 => elM (pure true) (do let x ← (pure v_one165); lift (negD x))) ds); pure (.list ds)); lift (addD x y)) >>= fun v_found164 => (m__law_key_l0 kk0 rs0 (v_found164)))

def m__law_key (v_order155 : D) (v_monomial156 : D) : M D := (do let k ← (do let x ← (do let x ← (pure v_order155); let y ← (pure (.int 0)); lift (ixD x y)); let y ← (pure (.str "lex")); let z ← lift (eqD x y); asB z); if k = true then (do let ds ← (do let x ← (pure v_monomial156); let xs ← pure []; pure (x :: xs)); lift (listD ds)) else (do let k ← (do let x ← (do let x ← (pure v_order155); let y ← (pure (.int 0)); lift (ixD x y)); let y ← (pure (.str "weights")); let z ← lift (eqD x y); asB z); if k = true then (do let ds ← (do let ds ← (do let x ← (do let x ← (pure v_order155); let y ← (pure (.int 1)); lift (ixD x y)); asSq x); lcM (fun v_row157 => elM (pure true) (do let ds ← (do let x ← (do let ds ← (do let ds ← (do let x ← (pure v_row157); let y ← (pure v_monomial156); asZip x y); lcM (two fun v_a158 v_b159 => elM (pure true) (do let x ← (pure v_a158); let y ← (pure v_b159); lift (mulD x y))) ds); pure (.list ds)); let xs ← pure []; pure (x :: xs)); lift (sumD ds))) ds); pure (.list ds)) else ((do let k ← (do let x ← (do let x ← (pure v_order155); let y ← (pure (.int 0)); lift (ixD x y)); let y ← (pure (.str "degree")); let z ← lift (eqD x y); asB z); if k = true then (do let ds ← (do let x ← (pure v_monomial156); let xs ← pure []; pure (x :: xs)); lift (lenD ds)) else (do let x ← (pure v_order155); let y ← (pure (.int 1)); lift (ixD x y))) >>= fun v_spot160 => ((do let ds ← pure []; mkLst ds) >>= fun v_found161 => (do let ds ← (do let x ← (do let ds ← (do let x ← (do let x ← (pure v_monomial156); let l ← (pure (none : Option Int)); let h ← (do let x ← (pure v_spot160); asI x); lift (slD x l h)); let xs ← (do let x ← (do let x ← (pure v_monomial156); let l ← (do let x ← (pure v_spot160); asI x); let h ← (pure (none : Option Int)); lift (slD x l h)); let xs ← pure []; pure (x :: xs)); pure (x :: xs)); mkLst ds); asSq x); (m__law_key_l0 (fun v_found162 => (pure v_found162))) ds (v_found161))))))

def m__law_divides (v_one166 : D) (v_other167 : D) : M D := (do let x ← (do let ds ← (do let ds ← (do let x ← (pure v_one166); let y ← (pure v_other167); asZip x y); lcM (two fun v_a168 v_b169 => elM (do let x ← (pure v_a168); let y ← (pure v_b169); let z ← lift (gtD x y); asB z) (pure (.int 1))) ds); pure (.list ds)); let y ← (do let ds ← pure []; mkLst ds); lift (eqD x y))

def m__law_some_order_l0 (v_count170 : D) (v_turned174 : D) (kk0 : List D → M D) : List D → List D → M D
  | [], q => kk0 q
  | v_place176 :: rs0, v_rows175 => ((do let d ← (do let ds ← (do let x ← (do let ds ← (do let ds ← (do let x ← (pure v_count170); let n ← asN x; pure (rngL 0 n.toNat)); lcM (fun v_other177 => elM (pure true) (do let ds ← (do let x ← (do let x ← (do let x ← (pure v_turned174); let y ← (pure v_other177); lift (ixD x y)); let y ← (pure v_place176); lift (eqD x y)); let xs ← pure []; pure (x :: xs)); lift (intD ds))) ds); pure (.list ds)); let xs ← pure []; pure (x :: xs)); lift (tupleD ds)); pushL v_rows175 d) >>= fun v_rows178 => (m__law_some_order_l0 v_count170 v_turned174 kk0 rs0 (v_rows178)))

def m__law_some_order (v_count170 : D) : M D := ((do let as ← (do let xs ← (do let x ← (pure (.int 5)); let xs ← pure []; pure (Ar.dat x :: xs)); pure (Ar.drw :: xs)); fm1 m__law_draw (as ++ (([] : List D)).map Ar.dat)) >>= fun v_pick171 => (do let k ← (do let x ← (pure v_pick171); let y ← (pure (.int 2)); let z ← lift (ltD x y); asB z); if k = true then (do let x ← (do let ds ← (do let x ← (do let ds ← (do let x ← (pure (.str "lex")); let xs ← pure []; pure (x :: xs)); mkTup ds); let xs ← (do let x ← (do let ds ← (do let x ← (pure (.str "degree")); let xs ← pure []; pure (x :: xs)); mkTup ds); let xs ← pure []; pure (x :: xs)); pure (x :: xs)); mkLst ds); let y ← (pure v_pick171); lift (ixD x y)) else (do let k ← (do let x ← (pure v_pick171); let y ← (pure (.int 2)); let z ← lift (eqD x y); asB z); if k = true then (do let ds ← (do let x ← (pure (.str "out")); let xs ← (do let x ← (do let as ← (do let xs ← (do let x ← (do let x ← (pure v_count170); let y ← (pure (.int 1)); lift (addD x y)); let xs ← pure []; pure (Ar.dat x :: xs)); pure (Ar.drw :: xs)); fm1 m__law_draw (as ++ (([] : List D)).map Ar.dat)); let xs ← pure []; pure (x :: xs)); pure (x :: xs)); mkTup ds) else ((do let k ← (do let x ← (pure v_pick171); let y ← (pure (.int 3)); let z ← lift (eqD x y); asB z); if k = true then (do let ds ← (do let x ← (do let ds ← (do let x ← (do let ds ← (do let ds ← (do let x ← (pure v_count170); let n ← asN x; pure (rngL 0 n.toNat)); lcM (fun v_place173 => elM (pure true) (do let x ← (pure (.int 1)); let y ← (do let as ← (do let xs ← (do let x ← (pure (.int 4)); let xs ← pure []; pure (Ar.dat x :: xs)); pure (Ar.drw :: xs)); fm1 m__law_draw (as ++ (([] : List D)).map Ar.dat)); lift (addD x y))) ds); pure (.list ds)); let xs ← pure []; pure (x :: xs)); lift (tupleD ds)); let xs ← pure []; pure (x :: xs)); okLen ds) else (do let ds ← pure []; okLen ds)) >>= fun v_rows172 => ((do let as ← (do let xs ← (do let x ← (pure v_count170); let xs ← pure []; pure (Ar.dat x :: xs)); pure (Ar.drw :: xs)); fm1 m__law_order (as ++ (([] : List D)).map Ar.dat)) >>= fun v_turned174 => (do let ds ← (do let x ← (pure v_count170); let n ← asN x; pure (rngL 0 n.toNat)); (m__law_some_order_l0 v_count170 v_turned174 (fun v_rows175 => (do let ds ← (do let x ← (pure (.str "weights")); let xs ← (do let x ← (do let ds ← (do let x ← (pure (.list v_rows175)); let xs ← pure []; pure (x :: xs)); lift (tupleD ds)); let xs ← pure []; pure (x :: xs)); pure (x :: xs)); mkTup ds))) ds (v_rows172)))))))

def m__law_rank_l1 (v_column186 : D) (v_found185 : D) (kk1 : List D → M D) : List D → List D → M D
  | [], q => kk1 q
  | v_n193 :: rs1, v_left191 => ((do let as ← (do let x ← (do let x ← (do let y ← (pure v_n193); lift (ixD (.list v_left191) y)); let y ← (pure v_column186); lift (ixD x y)); let xs ← (do let x ← (do let x ← (do let y ← (pure v_found185); lift (ixD (.list v_left191) y)); let y ← (pure v_column186); lift (ixD x y)); let xs ← pure []; pure (Ar.dat x :: xs)); pure (Ar.dat x :: xs)); fn2 m__law_over (as ++ (([] : List D)).map Ar.dat)) >>= fun v_part194 => ((do let v ← (do let ds ← (do let ds ← (do let x ← (do let y ← (pure v_n193); lift (ixD (.list v_left191) y)); let y ← (do let y ← (pure v_found185); lift (ixD (.list v_left191) y)); asZip x y); lcM (two fun v_one196 v_two197 => elM (pure true) (do let as ← (do let x ← (pure v_one196); let xs ← (do let x ← (do let as ← (do let x ← (do let ds ← (do let x ← (pure v_part194); let xs ← (do let x ← (pure v_two197); let xs ← pure []; pure (x :: xs)); pure (x :: xs)); mkLst ds); let xs ← pure []; pure (Ar.dat x :: xs)); fn1 m__law_times (as ++ (([] : List D)).map Ar.dat)); let xs ← pure []; pure (Ar.dat x :: xs)); pure (Ar.dat x :: xs)); fn2 m__law_minus (as ++ (([] : List D)).map Ar.dat))) ds); pure (.list ds)); let k ← (pure v_n193); setL v_left191 k v) >>= fun v_left195 => (m__law_rank_l1 v_column186 v_found185 kk1 rs1 (v_left195))))

def m__law_rank_l0 (kk0 : List D × D → M D) : List D → List D × D → M D
  | [], q => kk0 q
  | v_column186 :: rs0, (v_left184, v_found185) => ((do let ds ← (do let x ← (pure v_found185); let y ← (pure (.int (v_left184 : List D).length)); let i ← asN x; let j ← asN y; pure (rngL i (j - i).toNat)); lcM (fun v_n188 => elM (do let x ← (do let x ← (do let y ← (pure v_n188); lift (ixD (.list v_left184) y)); let y ← (pure v_column186); lift (ixD x y)); let y ← (do let ds ← (do let x ← (pure (.int 0)); let xs ← (do let x ← (pure (.int 1)); let xs ← pure []; pure (x :: xs)); pure (x :: xs)); mkTup ds); let z ← lift (neD' x y); asB z) (pure v_n188)) ds) >>= fun v_leads187 => (do let k ← (do let x ← (pure (.list v_leads187)); let y ← (do let ds ← pure []; mkLst ds); let z ← lift (neD' x y); asB z); if k = true then ((do let u ← (do let y ← (do let x ← (pure (.list v_leads187)); let y ← (pure (.int 0)); lift (ixD x y)); lift (ixD (.list v_left184) y)); let v ← (do let y ← (pure v_found185); lift (ixD (.list v_left184) y)); let n ← (pure v_found185); let v_ds190 ← setL v_left184 n u; let l ← quiet (do let x ← (pure (.list v_leads187)); let y ← (pure (.int 0)); lift (ixD x y)); setL v_ds190 l v) >>= fun v_left189 => (do let ds ← (do let x ← (do let x ← (pure v_found185); let y ← (pure (.int 1)); lift (addD x y)); let y ← (pure (.int (v_left189 : List D).length)); let i ← asN x; let j ← asN y; pure (rngL i (j - i).toNat)); (m__law_rank_l1 v_column186 v_found185 (fun v_left191 => ((do let x ← (pure v_found185); let y ← (pure (.int 1)); lift (addD x y)) >>= fun v_found192 => (m__law_rank_l0 kk0 rs0 (v_left191, v_found192))))) ds (v_left189))) else (m__law_rank_l0 kk0 rs0 (v_left184, v_found185))))

def m__law_rank (v_rows179 : D) (v_columns180 : D) : M D := ((do let u ← (do let ds ← (do let x ← (pure v_rows179); asSq x); lcM (fun v_row182 => elM (pure true) (do let ds ← (do let ds ← (do let x ← (pure v_row182); asSq x); lcM (fun v_one183 => elM (pure true) (do let ds ← (do let x ← (pure v_one183); let xs ← (do let x ← (pure (.int 1)); let xs ← pure []; pure (x :: xs)); pure (x :: xs)); mkTup ds)) ds); pure (.list ds))) ds); let v ← (pure (.int 0)); pure (u, v)) >>= fun v_q181 => (do let ds ← (do let x ← (pure v_columns180); let n ← asN x; pure (rngL 0 n.toNat)); (m__law_rank_l0 (fun (v_left184, v_found185) => (pure v_found185))) ds (v_q181.1, v_q181.2)))

def m__law_is_within (v_value198 : D) (v_low199 : D) (v_high200 : D) : M D := (do let x ← (do let d ← (pure v_value198); pure (.bool (PyData.isInt d))); let k ← asB x; if k = true then (do let x ← (do let x ← (do let d ← (pure v_value198); pure (.bool (PyData.isBool d))); let k ← asB x; pure (.bool (!k))); let k ← asB x; if k = true then (do let x ← (pure v_low199); let y ← (pure v_value198); let z ← lift (leD x y); let k ← asB z; if k = true then (do let w ← (pure v_high200); lift (leD y w)) else pure (.bool false)) else pure (.bool false)) else pure (.bool false))

def m__law_due_l1 (v_rows203 : D) (kk1 : Unit → M D) : List D → Unit → M D
  | [], q => kk1 q
  | v_column204 :: rs1, _ => ((do let ds ← (do let x ← (pure v_rows203); asSq x); lcM (fun v_row206 => elM (do let x ← (do let x ← (pure v_row206); let y ← (pure v_column204); lift (ixD x y)); let y ← (pure (.int 0)); let z ← lift (neD' x y); asB z) (do let x ← (pure v_row206); let y ← (pure v_column204); lift (ixD x y))) ds) >>= fun v_numbers205 => (do let k ← (do let k ← (do let x ← (pure (.list v_numbers205)); let y ← (do let ds ← pure []; mkLst ds); let z ← lift (eqD x y); asB z); if k = true then pure true else (do let x ← (do let x ← (pure (.list v_numbers205)); let y ← (pure (.int 0)); lift (ixD x y)); let y ← (pure (.int 0)); let z ← lift (ltD x y); asB z)); if k = true then (pure (.str "no order")) else (m__law_due_l1 v_rows203 kk1 rs1 ())))

def m__law_due_l0 (v_count201 : D) (kk0 : Unit → M D) : List D → Unit → M D
  | [], q => kk0 q
  | v_row207 :: rs0, _ => (do let k ← (do let k ← (do let k ← (do let x ← (do let d ← (pure v_row207); pure (.bool (PyData.isTuple d))); asB x); pure (!k)); if k = true then pure true else (do let k ← (do let x ← (do let ds ← (do let x ← (pure v_row207); let xs ← pure []; pure (x :: xs)); lift (lenD ds)); let y ← (pure v_count201); let z ← lift (neD' x y); asB z); if k = true then pure true else (do let x ← (do let ds ← (do let ds ← (do let x ← (pure v_row207); asSq x); lcM (fun v_one208 => elM (do let k ← (do let x ← (do let as ← (do let x ← (pure v_one208); let xs ← (do let x ← (do let x ← (pure (.int 100)); lift (negD x)); let xs ← (do let x ← (pure (.int 100)); let xs ← pure []; pure (Ar.dat x :: xs)); pure (Ar.dat x :: xs)); pure (Ar.dat x :: xs)); fn3 m__law_is_within (as ++ (([] : List D)).map Ar.dat)); asB x); pure (!k)) (pure (.int 1))) ds); pure (.list ds)); let y ← (do let ds ← pure []; mkLst ds); let z ← lift (neD' x y); asB z))); if k = true then (pure (.str "weights")) else (m__law_due_l0 v_count201 kk0 rs0 ()))

def m__law_due (v_count201 : D) (v_value202 : D) : M D := (do let k ← (do let k ← (do let k ← (do let x ← (do let d ← (pure v_value202); pure (.bool (PyData.isTuple d))); asB x); pure (!k)); if k = true then pure true else (do let k ← (do let x ← (pure v_value202); let y ← (do let ds ← pure []; mkTup ds); let z ← lift (eqD x y); asB z); if k = true then pure true else (do let k ← (do let x ← (do let d ← (do let x ← (pure v_value202); let y ← (pure (.int 0)); lift (ixD x y)); pure (.bool (PyData.isStr d))); asB x); pure (!k)))); if k = true then (pure (.str "form")) else (do let k ← (do let x ← (pure v_value202); let y ← (do let ds ← (do let x ← (do let ds ← (do let x ← (pure (.str "lex")); let xs ← pure []; pure (x :: xs)); mkTup ds); let xs ← (do let x ← (do let ds ← (do let x ← (pure (.str "degree")); let xs ← pure []; pure (x :: xs)); mkTup ds); let xs ← pure []; pure (x :: xs)); pure (x :: xs)); mkLst ds); let z ← lift (inD x y); asB z); if k = true then (pure PyData.none) else (do let k ← (do let k ← (do let x ← (do let ds ← (do let x ← (pure v_value202); let xs ← pure []; pure (x :: xs)); lift (lenD ds)); let y ← (pure (.int 2)); let z ← lift (neD' x y); asB z); if k = true then pure true else (do let x ← (do let x ← (pure v_value202); let y ← (pure (.int 0)); lift (ixD x y)); let y ← (do let ds ← (do let x ← (pure (.str "out")); let xs ← (do let x ← (pure (.str "weights")); let xs ← pure []; pure (x :: xs)); pure (x :: xs)); mkLst ds); let z ← lift (notInD x y); asB z)); if k = true then (pure (.str "form")) else (do let k ← (do let x ← (do let x ← (pure v_value202); let y ← (pure (.int 0)); lift (ixD x y)); let y ← (pure (.str "out")); let z ← lift (eqD x y); asB z); if k = true then (do let k ← (do let x ← (do let as ← (do let x ← (do let x ← (pure v_value202); let y ← (pure (.int 1)); lift (ixD x y)); let xs ← (do let x ← (pure (.int 0)); let xs ← (do let x ← (pure v_count201); let xs ← pure []; pure (Ar.dat x :: xs)); pure (Ar.dat x :: xs)); pure (Ar.dat x :: xs)); fn3 m__law_is_within (as ++ (([] : List D)).map Ar.dat)); asB x); if k = true then (pure PyData.none) else (pure (.str "out"))) else ((do let x ← (pure v_value202); let y ← (pure (.int 1)); lift (ixD x y)) >>= fun v_rows203 => (do let k ← (do let k ← (do let k ← (do let x ← (do let d ← (pure v_rows203); pure (.bool (PyData.isTuple d))); asB x); pure (!k)); if k = true then pure true else (do let x ← (do let ds ← (do let x ← (pure v_rows203); let xs ← pure []; pure (x :: xs)); lift (lenD ds)); let y ← (pure (.int 8)); let z ← lift (gtD x y); asB z)); if k = true then (pure (.str "weights")) else (do let ds ← (do let x ← (pure v_rows203); asSq x); (m__law_due_l0 v_count201 (fun (_ : Unit) => (do let ds ← (do let x ← (pure v_count201); let n ← asN x; pure (rngL 0 n.toNat)); (m__law_due_l1 v_rows203 (fun (_ : Unit) => (do let k ← (do let x ← (do let as ← (do let x ← (pure v_rows203); let xs ← (do let x ← (pure v_count201); let xs ← pure []; pure (Ar.dat x :: xs)); pure (Ar.dat x :: xs)); fn2 m__law_rank (as ++ (([] : List D)).map Ar.dat)); let y ← (pure v_count201); let z ← lift (eqD x y); asB z); if k = true then (pure PyData.none) else (pure (.str "no order"))))) ds ()))) ds ())))))))

def m__law_some_rows_l0 (v_count211 : D) (kk0 : List D → M D) : List D → List D → M D
  | [], q => kk0 q
  | v_turn214 :: rs0, v_rows213 => ((do let d ← (do let ds ← (do let x ← (do let ds ← (do let ds ← (do let x ← (pure v_count211); let n ← asN x; pure (rngL 0 n.toNat)); lcM (fun v_place215 => elM (pure true) (do let x ← (do let as ← (do let xs ← (do let x ← (pure (.int 5)); let xs ← pure []; pure (Ar.dat x :: xs)); pure (Ar.drw :: xs)); fm1 m__law_draw (as ++ (([] : List D)).map Ar.dat)); let y ← (do let as ← (do let xs ← (do let x ← (do let ds ← (do let x ← (pure (.int 0)); let xs ← (do let x ← (pure (.int 0)); let xs ← (do let x ← (pure (.int 1)); let xs ← (do let x ← (pure (.int 2)); let xs ← pure []; pure (x :: xs)); pure (x :: xs)); pure (x :: xs)); pure (x :: xs)); mkLst ds); let xs ← pure []; pure (Ar.dat x :: xs)); pure (Ar.drw :: xs)); fm1 m__law_of (as ++ (([] : List D)).map Ar.dat)); lift (subD x y))) ds); pure (.list ds)); let xs ← pure []; pure (x :: xs)); lift (tupleD ds)); pushL v_rows213 d) >>= fun v_rows216 => (m__law_some_rows_l0 v_count211 kk0 rs0 (v_rows216)))

def m__law_some_rows (v_count211 : D) : M D := ((do let ds ← pure []; okLen ds) >>= fun v_rows212 => (do let ds ← (do let x ← (do let as ← (do let xs ← (do let x ← (pure (.int 6)); let xs ← pure []; pure (Ar.dat x :: xs)); pure (Ar.drw :: xs)); fm1 m__law_draw (as ++ (([] : List D)).map Ar.dat)); let n ← asN x; pure (rngL 0 n.toNat)); (m__law_some_rows_l0 v_count211 (fun v_rows213 => (do let ds ← (do let x ← (pure (.str "weights")); let xs ← (do let x ← (do let ds ← (do let x ← (pure (.list v_rows213)); let xs ← pure []; pure (x :: xs)); lift (tupleD ds)); let xs ← pure []; pure (x :: xs)); pure (x :: xs)); mkTup ds))) ds (v_rows212)))

def m__law_values (v_count217 : D) : M D := ((do let as ← (do let xs ← (do let x ← (do let ds ← (do let x ← (pure PyData.none); let xs ← (do let x ← (pure (.bool true)); let xs ← (do let x ← (do let x ← (pure (.int 1)); lift (negD x)); let xs ← (do let x ← (pure v_count217); let xs ← (do let x ← (do let x ← (pure v_count217); let y ← (pure (.int 1)); lift (addD x y)); let xs ← (do let x ← (pure (.str "0")); let xs ← (do let x ← (do let ds ← (do let x ← (pure (.int 0)); let xs ← pure []; pure (x :: xs)); mkTup ds); let xs ← (do let x ← (pure (.int 101)); let xs ← (do let x ← (do let ds ← pure []; mkLst ds); let xs ← pure []; pure (x :: xs)); pure (x :: xs)); pure (x :: xs)); pure (x :: xs)); pure (x :: xs)); pure (x :: xs)); pure (x :: xs)); pure (x :: xs)); pure (x :: xs)); mkLst ds); let xs ← pure []; pure (Ar.dat x :: xs)); pure (Ar.drw :: xs)); fm1 m__law_of (as ++ (([] : List D)).map Ar.dat)) >>= fun v_odd218 => ((do let ds ← (do let x ← (do let as ← (do let xs ← (do let x ← (pure v_count217); let xs ← pure []; pure (Ar.dat x :: xs)); pure (Ar.drw :: xs)); fm1 m__law_some_order (as ++ (([] : List D)).map Ar.dat)); let xs ← (do let x ← (do let as ← (do let xs ← (do let x ← (pure v_count217); let xs ← pure []; pure (Ar.dat x :: xs)); pure (Ar.drw :: xs)); fm1 m__law_some_rows (as ++ (([] : List D)).map Ar.dat)); let xs ← (do let x ← (do let as ← (do let xs ← (do let x ← (pure v_count217); let xs ← pure []; pure (Ar.dat x :: xs)); pure (Ar.drw :: xs)); fm1 m__law_some_rows (as ++ (([] : List D)).map Ar.dat)); let xs ← (do let x ← (do let ds ← (do let x ← (pure (.str "out")); let xs ← (do let x ← (pure v_odd218); let xs ← pure []; pure (x :: xs)); pure (x :: xs)); mkTup ds); let xs ← (do let x ← (do let ds ← (do let x ← (pure (.str "weights")); let xs ← (do let x ← (pure v_odd218); let xs ← pure []; pure (x :: xs)); pure (x :: xs)); mkTup ds); let xs ← (do let x ← (do let ds ← (do let x ← (pure (.str "lex")); let xs ← (do let x ← (pure (.int 0)); let xs ← pure []; pure (x :: xs)); pure (x :: xs)); mkTup ds); let xs ← (do let x ← (do let ds ← (do let x ← (pure (.str "degree")); let xs ← (do let x ← (pure PyData.none); let xs ← pure []; pure (x :: xs)); pure (x :: xs)); mkTup ds); let xs ← pure []; pure (x :: xs)); pure (x :: xs)); pure (x :: xs)); pure (x :: xs)); pure (x :: xs)); pure (x :: xs)); pure (x :: xs)); mkLst ds) >>= fun v_some219 => ((do let x ← (pure v_some219); let y ← (do let ds ← (do let x ← (do let ds ← (do let x ← (pure (.str "Lex")); let xs ← pure []; pure (x :: xs)); mkTup ds); let xs ← (do let x ← (do let ds ← pure []; mkTup ds); let xs ← (do let x ← (pure PyData.none); let xs ← (do let x ← (pure (.str "lex")); let xs ← (do let x ← (do let ds ← (do let x ← (pure (.str "lex")); let xs ← pure []; pure (x :: xs)); mkLst ds); let xs ← (do let x ← (do let ds ← (do let x ← (do let ds ← (do let x ← (pure (.str "lex")); let xs ← pure []; pure (x :: xs)); mkLst ds); let xs ← pure []; pure (x :: xs)); mkTup ds); let xs ← (do let x ← (do let ds ← (do let x ← (pure (.dict [])); let xs ← pure []; pure (x :: xs)); mkTup ds); let xs ← (do let x ← (do let ds ← (do let x ← (pure (.str "out")); let xs ← pure []; pure (x :: xs)); mkTup ds); let xs ← (do let x ← (do let ds ← (do let x ← (pure (.str "weights")); let xs ← pure []; pure (x :: xs)); mkTup ds); let xs ← (do let x ← (do let ds ← (do let x ← (pure (.str "weights")); let xs ← (do let x ← (do let x ← (do let ds ← (do let x ← (do let x ← (do let ds ← (do let x ← (pure (.int 1)); let xs ← pure []; pure (x :: xs)); mkTup ds); let y ← (pure v_count217); lift (mulD x y)); let xs ← pure []; pure (x :: xs)); mkTup ds); let y ← (pure (.int 9)); lift (mulD x y)); let xs ← pure []; pure (x :: xs)); pure (x :: xs)); mkTup ds); let xs ← (do let x ← (do let ds ← (do let x ← (pure (.str "weights")); let xs ← (do let x ← (do let ds ← (do let x ← (do let x ← (do let ds ← (do let x ← (pure (.int 1)); let xs ← pure []; pure (x :: xs)); mkTup ds); let y ← (do let x ← (pure v_count217); let y ← (pure (.int 1)); lift (addD x y)); lift (mulD x y)); let xs ← pure []; pure (x :: xs)); mkTup ds); let xs ← pure []; pure (x :: xs)); pure (x :: xs)); mkTup ds); let xs ← pure []; pure (x :: xs)); pure (x :: xs)); pure (x :: xs)); pure (x :: xs)); pure (x :: xs)); pure (x :: xs)); pure (x :: xs)); pure (x :: xs)); pure (x :: xs)); pure (x :: xs)); pure (x :: xs)); mkLst ds); lift (addD x y)) >>= fun v_some220 => ((do let as ← (do let xs ← (do let x ← (pure v_count217); let xs ← pure []; pure (Ar.dat x :: xs)); pure (Ar.drw :: xs)); fm1 m__law_some_order (as ++ (([] : List D)).map Ar.dat)) >>= fun v_one221 => (do let k ← (do let k ← (do let x ← (do let x ← (pure v_one221); let y ← (pure (.int 0)); lift (ixD x y)); let y ← (pure (.str "weights")); let z ← lift (eqD x y); asB z); if k = true then (do let k ← (do let x ← (do let x ← (pure v_one221); let y ← (pure (.int 1)); lift (ixD x y)); let y ← (do let ds ← pure []; mkTup ds); let z ← lift (neD' x y); asB z); if k = true then (do let x ← (pure v_count217); let y ← (pure (.int 0)); let z ← lift (gtD x y); asB z) else pure false) else pure false); if k = true then ((do let x ← (do let x ← (do let x ← (pure v_one221); let y ← (pure (.int 1)); lift (ixD x y)); let y ← (pure (.int 0)); lift (ixD x y)); asSq x) >>= fun v_bent222 => ((do let v ← (do let as ← (do let xs ← (do let x ← (do let ds ← (do let x ← (pure (.int 100)); let xs ← (do let x ← (pure (.int 101)); let xs ← (do let x ← (do let x ← (pure (.int 101)); lift (negD x)); let xs ← (do let x ← (pure (.bool true)); let xs ← (do let x ← (pure PyData.none); let xs ← (do let x ← (do let x ← (pure (.int 1)); lift (negD x)); let xs ← (do let x ← (pure (.int 0)); let xs ← pure []; pure (x :: xs)); pure (x :: xs)); pure (x :: xs)); pure (x :: xs)); pure (x :: xs)); pure (x :: xs)); pure (x :: xs)); mkLst ds); let xs ← pure []; pure (Ar.dat x :: xs)); pure (Ar.drw :: xs)); fm1 m__law_of (as ++ (([] : List D)).map Ar.dat)); let k ← (do let as ← (do let xs ← (do let x ← (pure v_count217); let xs ← pure []; pure (Ar.dat x :: xs)); pure (Ar.drw :: xs)); fm1 m__law_draw (as ++ (([] : List D)).map Ar.dat)); setL v_bent222 k v) >>= fun v_bent223 => ((do let x ← (pure v_some220); let y ← (do let ds ← (do let x ← (do let ds ← (do let x ← (pure (.str "weights")); let xs ← (do let x ← (do let x ← (do let ds ← (do let x ← (do let ds ← (do let x ← (pure (.list v_bent223)); let xs ← pure []; pure (x :: xs)); lift (tupleD ds)); let xs ← pure []; pure (x :: xs)); mkTup ds); let y ← (do let x ← (do let x ← (pure v_one221); let y ← (pure (.int 1)); lift (ixD x y)); let l ← (do let x ← (pure (.int 1)); asI x); let h ← (pure (none : Option Int)); lift (slD x l h)); lift (addD x y)); let xs ← pure []; pure (x :: xs)); pure (x :: xs)); mkTup ds); let xs ← (do let x ← (do let ds ← (do let x ← (pure (.str "weights")); let xs ← (do let x ← (do let x ← (do let x ← (pure v_one221); let y ← (pure (.int 1)); lift (ixD x y)); let l ← (pure (none : Option Int)); let h ← (do let x ← (do let x ← (pure (.int 1)); lift (negD x)); asI x); lift (slD x l h)); let xs ← pure []; pure (x :: xs)); pure (x :: xs)); mkTup ds); let xs ← (do let x ← (do let ds ← (do let x ← (pure (.str "weights")); let xs ← (do let x ← (do let ds ← (do let x ← (do let x ← (pure v_one221); let y ← (pure (.int 1)); lift (ixD x y)); let xs ← pure []; pure (x :: xs)); lift (listD ds)); let xs ← pure []; pure (x :: xs)); pure (x :: xs)); mkTup ds); let xs ← (do let x ← (do let ds ← (do let x ← (pure (.str "weights")); let xs ← (do let x ← (do let x ← (do let ds ← (do let x ← (do let ds ← (do let x ← (do let x ← (do let x ← (pure v_one221); let y ← (pure (.int 1)); lift (ixD x y)); let y ← (pure (.int 0)); lift (ixD x y)); let xs ← pure []; pure (x :: xs)); lift (listD ds)); let xs ← pure []; pure (x :: xs)); mkTup ds); let y ← (do let x ← (do let x ← (pure v_one221); let y ← (pure (.int 1)); lift (ixD x y)); let l ← (do let x ← (pure (.int 1)); asI x); let h ← (pure (none : Option Int)); lift (slD x l h)); lift (addD x y)); let xs ← pure []; pure (x :: xs)); pure (x :: xs)); mkTup ds); let xs ← pure []; pure (x :: xs)); pure (x :: xs)); pure (x :: xs)); pure (x :: xs)); mkLst ds); lift (addD x y)) >>= fun v_some224 => (pure v_some224)))) else (pure v_some220))))))

def m__law_orders_right_l0 (v_count225 : D) (kk0 : Unit → M D) : List D → Unit → M D
  | [], q => kk0 q
  | v_value226 :: rs0, _ => ((do let as ← (do let x ← (pure v_count225); let xs ← (do let x ← (pure v_value226); let xs ← pure []; pure (Ar.dat x :: xs)); pure (Ar.dat x :: xs)); fn2 m__law_due (as ++ (([] : List D)).map Ar.dat)) >>= fun v_due227 => ((heardM hdsK (do let as ← (do let x ← (pure v_value226); let xs ← (do let x ← (pure v_count225); let xs ← pure []; pure (Ar.dat x :: xs)); pure (Ar.dat x :: xs)); fn2 m_need_order (pi_need_order_order_number as))) >>= fun v_heard228 => (do let k ← (do let k ← (do let x ← (do let as ← (do let x ← (pure v_heard228); let xs ← (do let x ← (do let k ← (do let x ← (pure v_due227); let y ← (pure PyData.none); let z ← lift (isD x y); asB z); if k = true then (do let ds ← (do let x ← (pure (.str "told")); let xs ← (do let x ← (pure v_value226); let xs ← pure []; pure (x :: xs)); pure (x :: xs)); mkLst ds) else (do let ds ← (do let x ← (pure (.str "order")); let xs ← (do let x ← (pure v_due227); let xs ← pure []; pure (x :: xs)); pure (x :: xs)); mkLst ds)); let xs ← pure []; pure (Ar.dat x :: xs)); pure (Ar.dat x :: xs)); fn2 m__law_like (as ++ (([] : List D)).map Ar.dat)); asB x); pure (!k)); if k = true then (pure (.bool false)) else (m__law_orders_right_l0 v_count225 kk0 rs0 ()))))

def m__law_orders_right (v_count225 : D) : M D := (do let ds ← (do let x ← (do let as ← (do let xs ← (do let x ← (pure v_count225); let xs ← pure []; pure (Ar.dat x :: xs)); pure (Ar.drw :: xs)); fm1 m__law_values (as ++ (([] : List D)).map Ar.dat)); asSq x); (m__law_orders_right_l0 v_count225 (fun (_ : Unit) => (pure (.bool true)))) ds ())

def m__law_below_right_l1 (v_count229 : D) (v_one233 : D) (v_order230 : D) (kk1 : Unit → M D) : List D → Unit → M D
  | [], q => kk1 q
  | v_other234 :: rs1, _ => ((do let x ← (do let as ← (do let x ← (pure v_order230); let xs ← (do let x ← (pure v_one233); let xs ← pure []; pure (Ar.dat x :: xs)); pure (Ar.dat x :: xs)); fn2 m__law_key (as ++ (([] : List D)).map Ar.dat)); let y ← (do let as ← (do let x ← (pure v_order230); let xs ← (do let x ← (pure v_other234); let xs ← pure []; pure (Ar.dat x :: xs)); pure (Ar.dat x :: xs)); fn2 m__law_key (as ++ (([] : List D)).map Ar.dat)); lift (ltD x y)) >>= fun v_due235 => (do let k ← (do let k ← (do let x ← (do let as ← (do let x ← (do let as ← (do let x ← (pure v_order230); let xs ← (do let x ← (pure v_other234); let xs ← (do let x ← (pure v_one233); let xs ← pure []; pure (Ar.dat x :: xs)); pure (Ar.dat x :: xs)); pure (Ar.dat x :: xs)); fn3 m_is_below (pi_is_below_order_other_monomial as)); let xs ← (do let x ← (pure v_due235); let xs ← pure []; pure (Ar.dat x :: xs)); pure (Ar.dat x :: xs)); fn2 m__law_like (as ++ (([] : List D)).map Ar.dat)); asB x); pure (!k)); if k = true then (pure (.bool false)) else ((do let as ← (do let xs ← (do let x ← (pure v_count229); let xs ← (do let x ← (pure (.int 3)); let xs ← pure []; pure (Ar.dat x :: xs)); pure (Ar.dat x :: xs)); pure (Ar.drw :: xs)); fm2 m__law_monomial (as ++ (([] : List D)).map Ar.dat)) >>= fun v_by236 => ((do let u ← (do let ds ← (do let ds ← (do let x ← (pure v_one233); let y ← (pure v_by236); asZip x y); lcM (two fun v_a238 v_b239 => elM (pure true) (do let x ← (pure v_a238); let y ← (pure v_b239); lift (addD x y))) ds); pure (.list ds)); let v ← (do let ds ← (do let ds ← (do let x ← (pure v_other234); let y ← (pure v_by236); asZip x y); lcM (two fun v_a240 v_b241 => elM (pure true) (do let x ← (pure v_a240); let y ← (pure v_b241); lift (addD x y))) ds); pure (.list ds)); pure (u, v)) >>= fun v_q237 => (do let k ← (do let k ← (do let x ← (do let ds ← (do let x ← (do let x ← (do let x ← (do let ds ← (do let x ← (pure (.int 0)); let xs ← pure []; pure (x :: xs)); mkLst ds); let y ← (pure v_q237.1); lift (addD x y)); let y ← (pure v_q237.2); lift (addD x y)); let xs ← pure []; pure (x :: xs)); lift (maxD ds)); let y ← (pure (.int 60)); let z ← lift (leD x y); asB z); if k = true then (do let x ← (do let as ← (do let x ← (do let ds ← (do let x ← (pure v_q237.1); let xs ← pure []; pure (x :: xs)); lift (tupleD ds)); let xs ← (do let x ← (do let ds ← (do let x ← (pure v_q237.2); let xs ← pure []; pure (x :: xs)); lift (tupleD ds)); let xs ← (do let x ← (pure v_order230); let xs ← pure []; pure (Ar.dat x :: xs)); pure (Ar.dat x :: xs)); pure (Ar.dat x :: xs)); fn3 m_is_below (as ++ (([] : List D)).map Ar.dat)); let y ← (pure v_due235); let z ← lift (neD' x y); asB z) else pure false); if k = true then (pure (.bool false)) else ((do let ds ← (do let x ← (do let as ← (do let x ← (pure v_other234); let xs ← (do let x ← (pure v_one233); let xs ← pure []; pure (Ar.dat x :: xs)); pure (Ar.dat x :: xs)); fn2 m_monomial_divides (pi_monomial_divides_other_monomial as)); let xs ← (do let x ← (do let as ← (do let x ← (pure v_other234); let xs ← (do let x ← (pure v_one233); let xs ← pure []; pure (Ar.dat x :: xs)); pure (Ar.dat x :: xs)); fn2 m_least_multiple (pi_least_multiple_other_monomial as)); let xs ← (do let x ← (do let as ← (do let x ← (pure v_one233); let xs ← (do let x ← (pure v_other234); let xs ← pure []; pure (Ar.dat x :: xs)); pure (Ar.dat x :: xs)); fn2 m_greatest_divisor (pi_greatest_divisor_monomial_other as)); let xs ← pure []; pure (x :: xs)); pure (x :: xs)); pure (x :: xs)); mkLst ds) >>= fun v_told242 => ((do let u ← (do let ds ← (do let x ← (do let ds ← (do let ds ← (do let x ← (pure v_one233); let y ← (pure v_other234); asZip x y); lcM (two fun v_a244 v_b245 => elM (pure true) (do let ds ← (do let x ← (pure v_a244); let xs ← (do let x ← (pure v_b245); let xs ← pure []; pure (x :: xs)); pure (x :: xs)); lift (maxD ds))) ds); pure (.list ds)); let xs ← pure []; pure (x :: xs)); lift (tupleD ds)); let v ← (do let ds ← (do let x ← (do let ds ← (do let ds ← (do let x ← (pure v_one233); let y ← (pure v_other234); asZip x y); lcM (two fun v_a246 v_b247 => elM (pure true) (do let ds ← (do let x ← (pure v_a246); let xs ← (do let x ← (pure v_b247); let xs ← pure []; pure (x :: xs)); pure (x :: xs)); lift (minD ds))) ds); pure (.list ds)); let xs ← pure []; pure (x :: xs)); lift (tupleD ds)); pure (u, v)) >>= fun v_q243 => (do let k ← (do let k ← (do let x ← (do let as ← (do let x ← (pure v_told242); let xs ← (do let x ← (do let ds ← (do let x ← (do let as ← (do let x ← (pure v_one233); let xs ← (do let x ← (pure v_other234); let xs ← pure []; pure (Ar.dat x :: xs)); pure (Ar.dat x :: xs)); fn2 m__law_divides (as ++ (([] : List D)).map Ar.dat)); let xs ← (do let x ← (pure v_q243.1); let xs ← (do let x ← (pure v_q243.2); let xs ← pure []; pure (x :: xs)); pure (x :: xs)); pure (x :: xs)); mkLst ds); let xs ← pure []; pure (Ar.dat x :: xs)); pure (Ar.dat x :: xs)); fn2 m__law_like (as ++ (([] : List D)).map Ar.dat)); asB x); pure (!k)); if k = true then (pure (.bool false)) else (m__law_below_right_l1 v_count229 v_one233 v_order230 kk1 rs1 ())))))))))

def m__law_below_right_l0 (v_count229 : D) (v_order230 : D) (v_some231 : List D) (kk0 : Unit → M D) : List D → Unit → M D
  | [], q => kk0 q
  | v_one233 :: rs0, _ => (do let ds ← (do let x ← (pure (.list v_some231)); asSq x); (m__law_below_right_l1 v_count229 v_one233 v_order230 (fun (_ : Unit) => (do let k ← (do let k ← (do let x ← (pure v_one233); let y ← (do let x ← (do let ds ← (do let x ← (pure (.int 0)); let xs ← pure []; pure (x :: xs)); mkTup ds); let y ← (pure v_count229); lift (mulD x y)); let z ← lift (neD' x y); asB z); if k = true then (do let x ← (do let as ← (do let x ← (do let x ← (do let ds ← (do let x ← (pure (.int 0)); let xs ← pure []; pure (x :: xs)); mkTup ds); let y ← (pure v_count229); lift (mulD x y)); let xs ← (do let x ← (pure v_one233); let xs ← (do let x ← (pure v_order230); let xs ← pure []; pure (Ar.dat x :: xs)); pure (Ar.dat x :: xs)); pure (Ar.dat x :: xs)); fn3 m_is_below (as ++ (([] : List D)).map Ar.dat)); let y ← (pure (.bool true)); let z ← lift (isNotD x y); asB z) else pure false); if k = true then (pure (.bool false)) else (m__law_below_right_l0 v_count229 v_order230 v_some231 kk0 rs0 ())))) ds ())

def m__law_below_right (v_count229 : D) (v_order230 : D) : M D := ((do let ds ← (do let x ← (pure (.int 5)); let n ← asN x; pure (rngL 0 n.toNat)); lcM (fun v_turn232 => elM (pure true) (do let as ← (do let xs ← (do let x ← (pure v_count229); let xs ← (do let x ← (do let as ← (do let xs ← (do let x ← (do let ds ← (do let x ← (pure (.int 2)); let xs ← (do let x ← (pure (.int 5)); let xs ← (do let x ← (pure (.int 60)); let xs ← pure []; pure (x :: xs)); pure (x :: xs)); pure (x :: xs)); mkLst ds); let xs ← pure []; pure (Ar.dat x :: xs)); pure (Ar.drw :: xs)); fm1 m__law_of (as ++ (([] : List D)).map Ar.dat)); let xs ← pure []; pure (Ar.dat x :: xs)); pure (Ar.dat x :: xs)); pure (Ar.drw :: xs)); fm2 m__law_monomial (as ++ (([] : List D)).map Ar.dat))) ds) >>= fun v_some231 => (do let ds ← (do let x ← (pure (.list v_some231)); asSq x); (m__law_below_right_l0 v_count229 v_order230 v_some231 (fun (_ : Unit) => (pure (.bool true)))) ds ()))

def m_law_l0 (kk0 : Unit → M D) : List D → Unit → M D
  | [], q => kk0 q
  | v_turn259 :: rs0, _ => ((do let as ← (do let xs ← (do let x ← (pure (.int 5)); let xs ← pure []; pure (Ar.dat x :: xs)); pure (Ar.drw :: xs)); fm1 m__law_draw (as ++ (([] : List D)).map Ar.dat)) >>= fun v_count260 => ((do let as ← (do let xs ← (do let x ← (pure v_count260); let xs ← pure []; pure (Ar.dat x :: xs)); pure (Ar.drw :: xs)); fm1 m__law_some_order (as ++ (([] : List D)).map Ar.dat)) >>= fun v_order261 => (do let k ← (do let k ← (do let k ← (do let x ← (do let as ← (do let xs ← (do let x ← (pure v_count260); let xs ← pure []; pure (Ar.dat x :: xs)); pure (Ar.drw :: xs)); fm1 m__law_orders_right (as ++ (([] : List D)).map Ar.dat)); asB x); pure (!k)); if k = true then pure true else (do let k ← (do let x ← (do let as ← (do let xs ← (do let x ← (pure v_count260); let xs ← (do let x ← (pure v_order261); let xs ← pure []; pure (Ar.dat x :: xs)); pure (Ar.dat x :: xs)); pure (Ar.drw :: xs)); fm2 m__law_below_right (as ++ (([] : List D)).map Ar.dat)); asB x); pure (!k))); if k = true then (pure (.bool false)) else (m_law_l0 kk0 rs0 ()))))

def m_law (v_script248 : D) : M D := (do let ds ← (do let x ← (pure (.int 4)); let n ← asN x; pure (rngL 0 n.toNat)); (m_law_l0 (fun (_ : Unit) => ((do let as ← (do let xs ← (do let x ← (do let ds ← (do let x ← (do let x ← (pure (.int 1)); lift (negD x)); let xs ← (do let x ← (pure (.int 5)); let xs ← (do let x ← (pure (.bool true)); let xs ← (do let x ← (pure PyData.none); let xs ← (do let x ← (pure (.str "2")); let xs ← (do let x ← (do let ds ← (do let x ← (pure (.int 1)); let xs ← pure []; pure (x :: xs)); mkTup ds); let xs ← pure []; pure (x :: xs)); pure (x :: xs)); pure (x :: xs)); pure (x :: xs)); pure (x :: xs)); pure (x :: xs)); mkLst ds); let xs ← pure []; pure (Ar.dat x :: xs)); pure (Ar.drw :: xs)); fm1 m__law_of (as ++ (([] : List D)).map Ar.dat)) >>= fun v_odd249 => ((do let ds ← (do let x ← (heardM hdsK (do let as ← (do let x ← (pure v_odd249); let xs ← (do let x ← (pure PyData.none); let xs ← pure []; pure (Ar.dat x :: xs)); pure (Ar.dat x :: xs)); fn2 m_need_order (as ++ (([] : List D)).map Ar.dat))); let xs ← pure []; pure (x :: xs)); okLen ds) >>= fun v_told250 => ((do let d ← (heardM hdsK (do let as ← (do let x ← (do let ds ← (do let x ← (pure (.int 1)); let xs ← (do let x ← (pure (.int 61)); let xs ← pure []; pure (x :: xs)); pure (x :: xs)); mkTup ds); let xs ← (do let x ← (pure PyData.none); let xs ← (do let x ← (pure PyData.none); let xs ← pure []; pure (Ar.dat x :: xs)); pure (Ar.dat x :: xs)); pure (Ar.dat x :: xs)); fn3 m_is_below (as ++ (([] : List D)).map Ar.dat))); pushL v_told250 d) >>= fun v_told251 => ((do let d ← (heardM hdsK (do let as ← (do let x ← (do let ds ← (do let x ← (pure (.int 1)); let xs ← pure []; pure (x :: xs)); mkTup ds); let xs ← (do let x ← (do let ds ← (do let x ← (pure (.int 1)); let xs ← (do let x ← (pure (.int 0)); let xs ← pure []; pure (x :: xs)); pure (x :: xs)); mkTup ds); let xs ← (do let x ← (pure PyData.none); let xs ← pure []; pure (Ar.dat x :: xs)); pure (Ar.dat x :: xs)); pure (Ar.dat x :: xs)); fn3 m_is_below (as ++ (([] : List D)).map Ar.dat))); pushL v_told251 d) >>= fun v_told252 => ((do let d ← (heardM hdsK (do let as ← (do let x ← (do let ds ← (do let x ← (pure (.int 1)); let xs ← pure []; pure (x :: xs)); mkTup ds); let xs ← (do let x ← (do let ds ← (do let x ← (pure (.bool true)); let xs ← pure []; pure (x :: xs)); mkTup ds); let xs ← (do let x ← (pure PyData.none); let xs ← pure []; pure (Ar.dat x :: xs)); pure (Ar.dat x :: xs)); pure (Ar.dat x :: xs)); fn3 m_is_below (as ++ (([] : List D)).map Ar.dat))); pushL v_told252 d) >>= fun v_told253 => ((do let d ← (heardM hdsK (do let as ← (do let x ← (do let ds ← (do let x ← (pure (.int 1)); let xs ← (do let x ← (pure (.int 0)); let xs ← pure []; pure (x :: xs)); pure (x :: xs)); mkTup ds); let xs ← (do let x ← (do let ds ← (do let x ← (pure (.int 0)); let xs ← (do let x ← (pure (.int 1)); let xs ← pure []; pure (x :: xs)); pure (x :: xs)); mkTup ds); let xs ← (do let x ← (do let ds ← (do let x ← (pure (.str "out")); let xs ← (do let x ← (pure (.int 3)); let xs ← pure []; pure (x :: xs)); pure (x :: xs)); mkTup ds); let xs ← pure []; pure (Ar.dat x :: xs)); pure (Ar.dat x :: xs)); pure (Ar.dat x :: xs)); fn3 m_is_below (as ++ (([] : List D)).map Ar.dat))); pushL v_told253 d) >>= fun v_told254 => ((do let d ← (heardM hdsK (do let as ← (do let x ← (do let x ← (do let ds ← (do let x ← (pure (.int 0)); let xs ← pure []; pure (x :: xs)); mkTup ds); let y ← (pure (.int 5)); lift (mulD x y)); let xs ← (do let x ← (pure PyData.none); let xs ← pure []; pure (Ar.dat x :: xs)); pure (Ar.dat x :: xs)); fn2 m_monomial_divides (as ++ (([] : List D)).map Ar.dat))); pushL v_told254 d) >>= fun v_told255 => ((do let d ← (heardM hdsK (do let as ← (do let x ← (do let ds ← (do let x ← (pure (.int 1)); let xs ← pure []; pure (x :: xs)); mkTup ds); let xs ← (do let x ← (do let ds ← pure []; mkTup ds); let xs ← pure []; pure (Ar.dat x :: xs)); pure (Ar.dat x :: xs)); fn2 m_least_multiple (as ++ (([] : List D)).map Ar.dat))); pushL v_told255 d) >>= fun v_told256 => ((do let d ← (heardM hdsK (do let as ← (do let x ← (do let ds ← (do let x ← (pure (.int 1)); let xs ← pure []; pure (x :: xs)); mkTup ds); let xs ← (do let x ← (do let ds ← (do let x ← (pure (.int 1)); let xs ← pure []; pure (x :: xs)); mkLst ds); let xs ← pure []; pure (Ar.dat x :: xs)); pure (Ar.dat x :: xs)); fn2 m_greatest_divisor (as ++ (([] : List D)).map Ar.dat))); pushL v_told256 d) >>= fun v_told257 => ((do let ds ← (do let x ← (do let ds ← (do let x ← (pure (.str "number")); let xs ← (do let x ← (pure v_odd249); let xs ← pure []; pure (x :: xs)); pure (x :: xs)); mkLst ds); let xs ← (do let x ← (do let ds ← (do let x ← (pure (.str "monomial")); let xs ← (do let x ← (do let ds ← (do let x ← (pure (.int 1)); let xs ← (do let x ← (pure (.int 61)); let xs ← pure []; pure (x :: xs)); pure (x :: xs)); mkTup ds); let xs ← pure []; pure (x :: xs)); pure (x :: xs)); mkLst ds); let xs ← (do let x ← (do let ds ← (do let x ← (pure (.str "unalike")); let xs ← (do let x ← (pure (.str "variables")); let xs ← pure []; pure (x :: xs)); pure (x :: xs)); mkLst ds); let xs ← (do let x ← (do let ds ← (do let x ← (pure (.str "monomial")); let xs ← (do let x ← (do let ds ← (do let x ← (pure (.bool true)); let xs ← pure []; pure (x :: xs)); mkTup ds); let xs ← pure []; pure (x :: xs)); pure (x :: xs)); mkLst ds); let xs ← (do let x ← (do let ds ← (do let x ← (pure (.str "order")); let xs ← (do let x ← (pure (.str "out")); let xs ← pure []; pure (x :: xs)); pure (x :: xs)); mkLst ds); let xs ← (do let x ← (do let ds ← (do let x ← (pure (.str "monomial")); let xs ← (do let x ← (do let x ← (do let ds ← (do let x ← (pure (.int 0)); let xs ← pure []; pure (x :: xs)); mkTup ds); let y ← (pure (.int 5)); lift (mulD x y)); let xs ← pure []; pure (x :: xs)); pure (x :: xs)); mkLst ds); let xs ← pure []; pure (x :: xs)); pure (x :: xs)); pure (x :: xs)); pure (x :: xs)); pure (x :: xs)); pure (x :: xs)); mkLst ds) >>= fun v_due258 => (do let as ← (do let x ← (pure (.list v_told257)); let xs ← (do let x ← (do let x ← (pure v_due258); let y ← (do let ds ← (do let x ← (do let ds ← (do let x ← (pure (.str "unalike")); let xs ← (do let x ← (pure (.str "variables")); let xs ← pure []; pure (x :: xs)); pure (x :: xs)); mkLst ds); let xs ← (do let x ← (do let ds ← (do let x ← (pure (.str "monomial")); let xs ← (do let x ← (do let ds ← (do let x ← (pure (.int 1)); let xs ← pure []; pure (x :: xs)); mkLst ds); let xs ← pure []; pure (x :: xs)); pure (x :: xs)); mkLst ds); let xs ← pure []; pure (x :: xs)); pure (x :: xs)); mkLst ds); lift (addD x y)); let xs ← pure []; pure (Ar.dat x :: xs)); pure (Ar.dat x :: xs)); fn2 m__law_like (as ++ (([] : List D)).map Ar.dat)))))))))))))) ds ())

end DL
namespace DL
open PySem PySem.Spec L2
/-! # PL, second part: what the small defs compute. -/
/-- a whole number within bounds -/
def inB (v : D) (a b : Int) : Bool := match v with
  | .int i => decide (a ≤ i) && decide (i ≤ b)
  | _ => false
theorem q_is_whole (v : D) (a b : Int) : m_is_whole v (.int a) (.int b) = pure (.bool (inB v a b)) := by
  unfold m_is_whole
  cases v <;> simp [PyData.isInt, PyData.isBool, inB]
  rename_i i
  by_cases h : a ≤ i <;> simp [h]
theorem q_within (v : D) (a b : Int) : m__law_is_within v (.int a) (.int b) = pure (.bool (inB v a b)) := by
  unfold m__law_is_within
  cases v <;> simp [PyData.isInt, PyData.isBool, inB]
  rename_i i
  by_cases h : a ≤ i <;> simp [h]
theorem q_is_row (v : D) : m_is_row v .none = pure (.bool v.isTuple) := by
  unfold m_is_row
  cases v <;> simp [PyData.isTuple]
def allB (v : D) (a b : Int) : Bool := match v with
  | .tuple ds => ds.all fun d => inB d a b
  | _ => false
/-- lists and tuples have at most a thousand items -/
def Short : D → Prop
  | .list ds => ds.length ≤ 1000
  | .tuple ds => ds.length ≤ 1000
  | _ => True
theorem q_are_wholes (v : D) (a b : Int) (h : Short v) : m_are_wholes v (.int a) (.int b) = pure (.bool (allB v a b)) := by
  unfold m_are_wholes
  cases v <;> simp [q_is_row, PyData.isTuple, allB]
  rename_i ds
  rw [lcM_map (g := fun d => .bool (inB d a b)) h (fun d _ => by rw [elM_true, q_is_whole, pure_bind])]
  rw [pure_bind]
  have e : ds.map (fun d => PyData.bool (inB d a b)) = (ds.map fun d => inB d a b).map .bool := by rw [List.map_map]; rfl
  rw [e, all_bools]
  simp [List.all_map]
/-! ### greatest common divisors -/
theorem fmod_nat (a b : Nat) : ((a : Int).fmod (b : Int)) = ((a % b : Nat) : Int) := by
  rw [Int.fmod_eq_emod_of_nonneg _ (by omega)]
  rfl
theorem q_gcd_l0 (kk : D × D → M D) : ∀ (n a b : Nat), b < n → m_gcd_l0 kk n (.int (a : Int), .int (b : Int)) = kk (.int (Nat.gcd a b : Nat), .int 0)
  | 0, _, _, h => absurd h (Nat.not_lt_zero _)
  | n + 1, a, 0, _ => by
    unfold m_gcd_l0
    simp
  | n + 1, a, b + 1, h => by
    unfold m_gcd_l0
    have hz : ((b + 1 : Nat) : Int) ≠ 0 := by omega
    simp only [pure_bind, ne_int, lift_some, asB_bool, int_int, mod_int hz, fmod_nat, decide_eq_true hz, if_pos]
    rw [q_gcd_l0 kk n (b + 1) (a % (b + 1)) (by have := Nat.mod_lt a (show b + 1 > 0 by omega); omega)]
    rw [Nat.gcd_comm a, Nat.gcd_rec (b + 1) a, Nat.gcd_comm]
theorem q_gcd (a b : Int) : m_gcd (.int a) (.int b) = pure (.int (Int.gcd a b : Nat)) := by
  unfold m_gcd
  simp only [pure_bind, abs_int, lift_some]
  rw [show fuelD (.int (b.natAbs : Int)) = b.natAbs + 2 from by simp [fuelD]]
  rw [q_gcd_l0 _ _ _ _ (by omega)]
  rfl
theorem q_common_l0 (kk : D × D → M D) : ∀ (n a b : Nat), b < n → m__law_common_l0 kk n (.int (a : Int), .int (b : Int)) = kk (.int (Nat.gcd a b : Nat), .int 0)
  | 0, _, _, h => absurd h (Nat.not_lt_zero _)
  | n + 1, a, 0, _ => by
    unfold m__law_common_l0
    simp
  | n + 1, a, b + 1, h => by
    unfold m__law_common_l0
    have hz : ((b + 1 : Nat) : Int) ≠ 0 := by omega
    simp only [pure_bind, ne_int, lift_some, asB_bool, int_int, mod_int hz, fmod_nat, decide_eq_true hz, if_pos]
    rw [q_common_l0 kk n (b + 1) (a % (b + 1)) (by have := Nat.mod_lt a (show b + 1 > 0 by omega); omega)]
    rw [Nat.gcd_comm a, Nat.gcd_rec (b + 1) a, Nat.gcd_comm]
theorem q_common (a b : Int) : m__law_common (.int a) (.int b) = pure (.int (Int.gcd a b : Nat)) := by
  unfold m__law_common
  simp only [pure_bind, abs_int, lift_some]
  rw [show fuelD (.int (b.natAbs : Int)) = b.natAbs + 2 from by simp [fuelD]]
  rw [q_common_l0 _ _ _ _ (by omega)]
  rfl
end DL
namespace DL
open PySem PySem.Spec L2
/-! # PL, third part: fractions. -/
theorem bits_le {i : Int} {B : Nat} (h : i.natAbs < 2 ^ B) : Builtin.Int.intBits i ≤ B := by
  unfold Builtin.Int.intBits
  split
  · exact Nat.zero_le _
  · rename_i hz
    have h0 : i.natAbs ≠ 0 := fun e => hz (by simpa using e)
    have := (Nat.log2_lt h0).mpr h
    omega
theorem mul_int {a b : Int} {A B : Nat} (ha : a.natAbs < 2 ^ A) (hb : b.natAbs < 2 ^ B) (h : A + B ≤ 134217728) : mulD (.int a) (.int b) = some (.int (a * b)) := by
  have h1 := bits_le ha
  have h2 := bits_le hb
  exact if_pos (by omega)
theorem mulB {a b : Int} {A B : Nat} (ha : a.natAbs < 2 ^ A) (hb : b.natAbs < 2 ^ B) : (a * b).natAbs < 2 ^ (A + B) := by
  rw [Int.natAbs_mul, Nat.pow_add]
  exact Nat.mul_lt_mul'' ha hb
theorem subB {a b : Int} {A B : Nat} (ha : a.natAbs < 2 ^ A) (hb : b.natAbs < 2 ^ A) (h : A < B) : (a - b).natAbs < 2 ^ B := by
  have h1 : 2 ^ (A + 1) ≤ 2 ^ B := Nat.pow_le_pow_right (by omega) h
  rw [Nat.pow_succ] at h1
  omega
theorem addB {a b : Int} {A B : Nat} (ha : a.natAbs < 2 ^ A) (hb : b.natAbs < 2 ^ A) (h : A < B) : (a + b).natAbs < 2 ^ B := by
  have h1 : 2 ^ (A + 1) ≤ 2 ^ B := Nat.pow_le_pow_right (by omega) h
  rw [Nat.pow_succ] at h1
  omega
theorem upB {n A B : Nat} (h : n < 2 ^ A) (hAB : A ≤ B) : n < 2 ^ B := Nat.lt_of_lt_of_le h (Nat.pow_le_pow_right (by omega) hAB)
/-- bits of what is divided by -/
def lim : Nat := 9000
theorem lim_eq : lim = 9000 := rfl
theorem pylong_no {a b : Int} (h : b.natAbs < 2 ^ lim) : Builtin.divisionGoesByPylong a b = false := by
  unfold Builtin.divisionGoesByPylong
  have e : (if (b == 0) = true then 0 else b.natAbs.log2 / 30 + 1) ≤ 300 := by
    split
    · omega
    · rename_i hz
      have h0 : b.natAbs ≠ 0 := fun e => hz (by simpa using e)
      have := (Nat.log2_lt h0).mpr h
      rw [lim_eq] at this
      omega
  dsimp only
  rw [decide_eq_false (by omega)]
  rfl
theorem fdiv_int {a b : Int} (h0 : b ≠ 0) (h : b.natAbs < 2 ^ lim) : fdivD (.int a) (.int b) = some (.int (a.fdiv b)) := by
  refine if_neg fun z => ?_
  rcases z with z | z
  · exact h0 z
  · rw [pylong_no h] at z; cases z
/-- a fraction in lowest terms -/
def encQ (q : Rat) : D := .tuple [.int q.num, .int (q.den : Int)]
theorem gcd_pos {a b : Int} (h : b ≠ 0) : Int.gcd a b ≠ 0 := fun e => h (Int.gcd_eq_zero_iff.mp e).2
theorem gcd_lt {a b : Int} {B : Nat} (h : b ≠ 0) (hb : b.natAbs < 2 ^ B) : ((Int.gcd a b : Nat) : Int).natAbs < 2 ^ B := by
  have h1 : Int.gcd a b ≤ b.natAbs := Nat.gcd_le_right _ (by omega)
  simp only [Int.natAbs_natCast]
  omega
theorem ratio_at {a b : Int} (h : b ≠ 0) : encQ (Rat.divInt a b) = .tuple [.int ((b.sign * a).fdiv (Int.gcd a b : Nat)), .int ((b.natAbs : Int).fdiv (Int.gcd a b : Nat))] := by
  unfold encQ
  rw [Rat.num_divInt, Rat.den_divInt, if_neg h, Int.gcd_comm b a]
  rw [Int.fdiv_eq_ediv_of_nonneg _ (by omega), Int.fdiv_eq_ediv_of_nonneg _ (by omega)]
  rfl
theorem q_ratio {a b : Int} (h : b ≠ 0) (hb : b.natAbs < 2 ^ lim) : m_ratio (.int a) (.int b) = pure (encQ (Rat.divInt a b)) := by
  unfold m_ratio
  rw [ratio_at h]
  simp only [pure_bind, lt_int, lift_some, asB_bool, List.map_nil, List.append_nil, fn2_dat, neg_int]
  by_cases hn : b < 0
  · rw [if_pos (decide_eq_true hn), q_gcd, pure_bind]
    have hg : Int.gcd (-a) (-b) = Int.gcd a b := by rw [Int.gcd_neg, Int.neg_gcd]
    rw [hg]
    have h0 : ((Int.gcd a b : Nat) : Int) ≠ 0 := by have := gcd_pos (a := a) h; omega
    simp only [fdiv_int h0 (gcd_lt h hb), lift_some, pure_bind]
    rw [mkTup_of (by simp), Int.sign_eq_neg_one_of_neg hn, show (-1 : Int) * a = -a by omega, show (b.natAbs : Int) = -b by omega]
  · rw [if_neg (by simpa using hn), q_gcd, pure_bind]
    have h0 : ((Int.gcd a b : Nat) : Int) ≠ 0 := by have := gcd_pos (a := a) h; omega
    simp only [fdiv_int h0 (gcd_lt h hb), lift_some, pure_bind]
    rw [mkTup_of (by simp), Int.sign_eq_one_of_pos (by omega), Int.one_mul, show (b.natAbs : Int) = b by omega]
theorem q_lratio {a b : Int} (h : b ≠ 0) (hb : b.natAbs < 2 ^ lim) : m__law_ratio (.int a) (.int b) = pure (encQ (Rat.divInt a b)) := by
  unfold m__law_ratio
  rw [ratio_at h]
  simp only [pure_bind, lt_int, lift_some, asB_bool, List.map_nil, List.append_nil, fn2_dat, neg_int, q_common]
  have h0 : ((Int.gcd a b : Nat) : Int) ≠ 0 := by have := gcd_pos (a := a) h; omega
  by_cases hn : b < 0
  · rw [if_pos (decide_eq_true hn), pure_bind]
    have h1 : -((Int.gcd a b : Nat) : Int) ≠ 0 := by omega
    have h2 : (-((Int.gcd a b : Nat) : Int)).natAbs < 2 ^ lim := by rw [Int.natAbs_neg]; exact gcd_lt h hb
    simp only [fdiv_int h1 h2, lift_some, pure_bind]
    rw [mkTup_of (by simp), Int.sign_eq_neg_one_of_neg hn, show (-1 : Int) * a = -a by omega, show (b.natAbs : Int) = -b by omega]
    have e : ∀ x : Int, x.fdiv (-((Int.gcd a b : Nat) : Int)) = (-x).fdiv (Int.gcd a b : Nat) := fun x => by
      rw [← Int.neg_fdiv_neg, Int.neg_neg]
    rw [e, e]
  · rw [if_neg (by simpa using hn), pure_bind]
    simp only [fdiv_int h0 (gcd_lt h hb), lift_some, pure_bind]
    rw [mkTup_of (by simp), Int.sign_eq_one_of_pos (by omega), Int.one_mul, show (b.natAbs : Int) = b by omega]
/-- of at most so many bits -/
def Qb (q : Rat) (B : Nat) : Prop := q.num.natAbs < 2 ^ B ∧ q.den < 2 ^ B
theorem Qb.up {q : Rat} {A B : Nat} (h : Qb q A) (hAB : A ≤ B) : Qb q B := ⟨upB h.1 hAB, upB h.2 hAB⟩
theorem ix0 (q : Rat) : ixD (encQ q) (.int 0) = some (.int q.num) := ix_tuple0 _ _
theorem ix1 (q : Rat) : ixD (encQ q) (.int 1) = some (.int (q.den : Int)) := ix_tuple1 _ _ _
theorem divInt_B {a b : Int} {B : Nat} (h : b ≠ 0) (ha : a.natAbs < 2 ^ B) (hb : b.natAbs < 2 ^ B) : Qb (Rat.divInt a b) B := by
  unfold Qb
  rw [Rat.num_divInt, Rat.den_divInt, if_neg h]
  constructor
  · have h1 : (b.sign * a).natAbs ≤ a.natAbs := by
      rw [Int.natAbs_mul]
      have : b.sign.natAbs = 1 := by rw [Int.natAbs_sign_of_ne_zero h]
      rw [this]; omega
    have h2 : (b.sign * a / ((Int.gcd b a : Nat) : Int)).natAbs ≤ (b.sign * a).natAbs := Int.natAbs_ediv_le_natAbs _ _
    omega
  · exact Nat.lt_of_le_of_lt (Nat.div_le_self _ _) hb
theorem over_eq {p q : Rat} (h : q ≠ 0) : Rat.divInt (p.num * q.den) (p.den * q.num) = p / q := by
  rw [Rat.div_def, ← Rat.num_divInt_den p, ← Rat.num_divInt_den q, Rat.inv_divInt, Rat.divInt_mul_divInt, Rat.num_divInt_den, Rat.num_divInt_den]
theorem times_eq (p q : Rat) : Rat.divInt (p.num * q.num) (p.den * q.den) = p * q := by
  conv => rhs; rw [← Rat.num_divInt_den p, ← Rat.num_divInt_den q, Rat.divInt_mul_divInt]
theorem minus_eq (p q : Rat) : Rat.divInt (p.num * q.den - q.num * p.den) (p.den * q.den) = p - q := by
  have h1 : (p.den : Int) ≠ 0 := by have := p.den_nz; omega
  have h2 : (q.den : Int) ≠ 0 := by have := q.den_nz; omega
  conv => rhs; rw [← Rat.num_divInt_den p, ← Rat.num_divInt_den q, Rat.divInt_sub_divInt _ _ h1 h2]
theorem num_ne {q : Rat} (h : q ≠ 0) : q.num ≠ 0 := fun e => h (Rat.num_eq_zero.mp e)
section
variable {p q : Rat} {A B : Nat}
theorem den_ne (q : Rat) : (q.den : Int) ≠ 0 := by have := q.den_nz; omega
theorem q_over (h : q ≠ 0) (hp : Qb p A) (hq : Qb q B) (hAB : A + B ≤ lim) : m_ratio_over (encQ p) (encQ q) = pure (encQ (p / q)) ∧ m__law_over (encQ p) (encQ q) = pure (encQ (p / q)) ∧ Qb (p / q) (A + B) := by
  have h1 := mul_int (a := p.num) (b := (q.den : Int)) hp.1 (by simpa using hq.2) (by have := lim_eq; omega)
  have h2 := mul_int (a := (p.den : Int)) (b := q.num) (by simpa using hp.2) hq.1 (by have := lim_eq; omega)
  have hz : (p.den : Int) * q.num ≠ 0 := Int.mul_ne_zero (den_ne p) (num_ne h)
  have hB := mulB (a := (p.den : Int)) (b := q.num) (by simpa using hp.2) hq.1
  unfold m_ratio_over m__law_over
  simp only [pure_bind, ix0, ix1, lift_some, h1, h2, List.map_nil, List.append_nil, fn2_dat]
  rw [q_ratio hz (upB hB hAB), q_lratio hz (upB hB hAB), over_eq h]
  exact ⟨rfl, rfl, by rw [← over_eq h]; exact divInt_B hz (mulB hp.1 (by simpa using hq.2)) hB⟩
theorem q_times (hp : Qb p A) (hq : Qb q B) (hAB : A + B ≤ lim) : m_ratio_times (encQ p) (encQ q) = pure (encQ (p * q)) ∧ Qb (p * q) (A + B) := by
  have h1 := mul_int (a := p.num) (b := q.num) hp.1 hq.1 (by have := lim_eq; omega)
  have h2 := mul_int (a := (p.den : Int)) (b := (q.den : Int)) (by simpa using hp.2) (by simpa using hq.2) (by have := lim_eq; omega)
  have hz : (p.den : Int) * (q.den : Int) ≠ 0 := Int.mul_ne_zero (den_ne p) (den_ne q)
  have hB := mulB (a := (p.den : Int)) (b := (q.den : Int)) (by simpa using hp.2) (by simpa using hq.2)
  unfold m_ratio_times
  simp only [pure_bind, ix0, ix1, lift_some, h1, h2, List.map_nil, List.append_nil, fn2_dat]
  rw [q_ratio hz (upB hB hAB), times_eq]
  exact ⟨rfl, by rw [← times_eq]; exact divInt_B hz (mulB hp.1 hq.1) hB⟩
theorem q_minus (hp : Qb p A) (hq : Qb q B) (hAB : A + B < lim) : m_ratio_minus (encQ p) (encQ q) = pure (encQ (p - q)) ∧ m__law_minus (encQ p) (encQ q) = pure (encQ (p - q)) ∧ Qb (p - q) (A + B + 1) := by
  have h1 := mul_int (a := p.num) (b := (q.den : Int)) hp.1 (by simpa using hq.2) (by have := lim_eq; omega)
  have h2 := mul_int (a := q.num) (b := (p.den : Int)) hq.1 (by simpa using hp.2) (by have := lim_eq; omega)
  have h3 := mul_int (a := (p.den : Int)) (b := (q.den : Int)) (by simpa using hp.2) (by simpa using hq.2) (by have := lim_eq; omega)
  have hz : (p.den : Int) * (q.den : Int) ≠ 0 := Int.mul_ne_zero (den_ne p) (den_ne q)
  have hB := mulB (a := (p.den : Int)) (b := (q.den : Int)) (by simpa using hp.2) (by simpa using hq.2)
  have hC := subB (mulB (a := p.num) (b := (q.den : Int)) hp.1 (by simpa using hq.2)) (by rw [Nat.add_comm]; exact mulB (a := q.num) (b := (p.den : Int)) hq.1 (by simpa using hp.2)) (Nat.lt_succ_self _)
  unfold m_ratio_minus m__law_minus
  simp only [pure_bind, ix0, ix1, lift_some, h1, h2, h3, sub_int, List.map_nil, List.append_nil, fn2_dat]
  rw [q_ratio hz (upB hB (by have := lim_eq; omega)), q_lratio hz (upB hB (by have := lim_eq; omega)), minus_eq]
  exact ⟨rfl, rfl, by rw [← minus_eq]; exact divInt_B hz hC (upB hB (by have := lim_eq; omega))⟩
theorem q_ltimes (hp : Qb p A) (hq : Qb q B) (hAB : A + B ≤ lim) : m__law_times (.list [encQ p, encQ q]) = pure (encQ (p * q)) := by
  have e1 := mul_int (A := 1) (a := 1) (b := p.num) (by decide) hp.1 (by have := lim_eq; omega)
  have e2 := mul_int (A := 1) (a := 1) (b := (p.den : Int)) (by decide) (by simpa using hp.2) (by have := lim_eq; omega)
  have h1 := mul_int (a := p.num) (b := q.num) hp.1 hq.1 (by have := lim_eq; omega)
  have h2 := mul_int (a := (p.den : Int)) (b := (q.den : Int)) (by simpa using hp.2) (by simpa using hq.2) (by have := lim_eq; omega)
  have hz : (p.den : Int) * (q.den : Int) ≠ 0 := Int.mul_ne_zero (den_ne p) (den_ne q)
  have hB := mulB (a := (p.den : Int)) (b := (q.den : Int)) (by simpa using hp.2) (by simpa using hq.2)
  unfold m__law_times
  simp only [pure_bind, asSq_list]
  rw [mkTup_of (by simp), pure_bind]
  unfold m__law_times_l0
  rw [show encQ p = .tuple [.int p.num, .int (p.den : Int)] from rfl, two_tup]
  simp only [pure_bind, ix_tuple0, ix_tuple1, lift_some, e1, e2, Int.one_mul, List.map_nil, List.append_nil, fn2_dat]
  rw [q_lratio (den_ne p) (by simpa using upB hp.2 (by have := lim_eq; omega)), Rat.num_divInt_den, pure_bind]
  unfold m__law_times_l0
  rw [show encQ q = .tuple [.int q.num, .int (q.den : Int)] from rfl, two_tup]
  simp only [pure_bind, ix0, ix1, lift_some, h1, h2, List.map_nil, List.append_nil, fn2_dat]
  rw [q_lratio hz (upB hB hAB), times_eq, pure_bind]
  unfold m__law_times_l0
  rfl
end
end DL
namespace DL
open PySem PySem.Spec L2
/-! # PL, fourth part: the rank, of the program and of the law. -/
theorem compM_of {α : Type} {h : α → D} {f : D → M (Option D)} {g : α → D} : ∀ {l : List α}, (∀ a ∈ l, f (h a) = pure (some (g a))) → compM f (l.map h) = pure (l.map g)
  | [], _ => rfl
  | a :: l, q => by
    rw [List.map_cons, compM, q a List.mem_cons_self, quiet_pure, pure_bind, compM_of (l := l) fun x hx => q x (List.mem_cons_of_mem _ hx), pure_bind]
    rfl
theorem lcM_of {α : Type} {h : α → D} {f : D → M (Option D)} {g : α → D} {l : List α} (hl : l.length ≤ 1000) (q : ∀ a ∈ l, f (h a) = pure (some (g a))) : lcM f (l.map h) = pure (l.map g) := by
  unfold lcM
  rw [if_pos (by rw [List.length_map]; exact hl)]
  exact compM_of q
theorem compM_if {α : Type} {h : α → D} {f : D → M (Option D)} {p : α → Bool} {g : α → D} : ∀ {l : List α}, (∀ a ∈ l, f (h a) = pure (if p a = true then some (g a) else none)) → compM f (l.map h) = pure ((l.filter p).map g)
  | [], _ => rfl
  | a :: l, q => by
    rw [List.map_cons, compM, q a List.mem_cons_self, quiet_pure, pure_bind, compM_if (l := l) fun x hx => q x (List.mem_cons_of_mem _ hx), pure_bind, List.filter_cons]
    cases p a <;> rfl
theorem lcM_if {α : Type} {h : α → D} {f : D → M (Option D)} {p : α → Bool} {g : α → D} {l : List α} (hl : l.length ≤ 1000) (q : ∀ a ∈ l, f (h a) = pure (if p a = true then some (g a) else none)) : lcM f (l.map h) = pure ((l.filter p).map g) := by
  unfold lcM
  rw [if_pos (by rw [List.length_map]; exact hl)]
  exact compM_if q
def encR (r : RK.Row) : D := .list (r.map encQ)
def encL (left : List RK.Row) : List D := left.map encR
theorem zip_map {α β : Type} (f : α → D) (g : β → D) : ∀ (xs : List α) (ys : List β), zipL (xs.map f) (ys.map g) = (List.zip xs ys).map fun z => PyData.tuple [f z.1, g z.2]
  | [], _ => rfl
  | _ :: _, [] => rfl
  | x :: xs, y :: ys => by
    simp only [List.map_cons, zipL, List.zip_cons_cons]
    rw [zip_map]
theorem ent_get {r : RK.Row} {j : Nat} (h : j < r.length) : RK.ent r j = r[j] := by
  unfold RK.ent
  rw [List.getD_eq_getElem?_getD, List.getElem?_eq_getElem h]
  rfl
theorem ent_mem {r : RK.Row} {j B : Nat} (h : j < r.length) (hB : ∀ x ∈ r, Qb x B) : Qb (RK.ent r j) B := by
  rw [ent_get h]
  exact hB _ (List.getElem_mem h)
theorem ix_encR {r : RK.Row} {j : Nat} (h : j < r.length) : ixD (encR r) (.int (j : Int)) = some (encQ (RK.ent r j)) := by
  refine ix_list ?_
  rw [List.getElem?_map, List.getElem?_eq_getElem h, ent_get h]
  rfl
theorem red_map {p r : RK.Row} {j : Nat} : (RK.red p j r).map encQ = (List.zip r p).map fun z => encQ (z.1 - RK.ent r j / RK.ent p j * z.2) := by
  unfold RK.red
  rw [List.zip_eq_zipWith, List.map_zipWith, List.map_zipWith]
theorem encL_set {pre rest : List RK.Row} {r q : RK.Row} : (encL (pre ++ r :: rest)).set pre.length (encR q) = encL (pre ++ q :: rest) := by
  unfold encL
  rw [← List.map_set, List.set_append_right _ _ (Nat.le_refl _), Nat.sub_self]
  rfl
theorem encL_swap {left : List RK.Row} {f l : Nat} (hl : l < left.length) (hf : f < left.length) : ((encL left).set f (encR left[l])).set l (encR left[f]) = encL (RK.swap left f l) := by
  unfold encL RK.swap
  rw [List.map_set, List.map_set, List.getD_eq_getElem?_getD, List.getElem?_eq_getElem hl, List.getD_eq_getElem?_getD, List.getElem?_eq_getElem hf]
  rfl
theorem red_B {p r : RK.Row} {j B : Nat} (hrl : j < r.length) (hpl : j < p.length) (hpj : RK.ent p j ≠ 0) (hB : 4 * B + 1 < lim) (hr : ∀ x ∈ r, Qb x B) (hp : ∀ x ∈ p, Qb x B) : ∀ x ∈ RK.red p j r, Qb x (4 * B + 1) := by
  intro x hx
  unfold RK.red at hx
  rw [List.mem_iff_getElem?] at hx
  obtain ⟨i, hi⟩ := hx
  rw [List.getElem?_zipWith] at hi
  have ho := q_over (p := RK.ent r j) (q := RK.ent p j) (A := B) (B := B) hpj (ent_mem hrl hr) (ent_mem hpl hp) (by omega)
  split at hi
  · rename_i a b e1 e2
    cases hi
    have hz1 := hr _ (List.mem_of_getElem? e1)
    have hz2 := hp _ (List.mem_of_getElem? e2)
    have ht := q_times (A := B + B) (B := B) ho.2.2 hz2 (by omega)
    exact (q_minus (A := B) (B := B + B + B) hz1 ht.2 (by omega)).2.2.up (by omega)
  · cases hi
theorem leads_mem {j f l : Nat} {left : List RK.Row} (h : l ∈ RK.leads j f left) : f ≤ l ∧ l < left.length ∧ RK.ent (left.getD l []) j ≠ 0 := by
  unfold RK.leads at h
  rw [List.mem_filter, List.mem_range'_1] at h
  exact ⟨h.1.1, by omega, of_decide_eq_true h.2⟩
theorem plain_nats : ∀ (ns : List Nat), PyData.plainAll (ns.map fun n : Nat => PyData.int (n : Int)) = true
  | [] => rfl
  | _ :: ns => by simp [PyData.plainAll, PyData.plain, plain_nats ns]
theorem depth_nats : ∀ (ns : List Nat), PyData.depthAll (ns.map fun n : Nat => PyData.int (n : Int)) = 0
  | [] => rfl
  | _ :: ns => by simp [PyData.depthAll, PyData.depth, depth_nats ns]
theorem plain_leads (ns : List Nat) : (PyData.list (ns.map fun n : Nat => PyData.int (n : Int))).plain = true := plain_nats ns
theorem depth_leads (ns : List Nat) : (PyData.list (ns.map fun n : Nat => PyData.int (n : Int))).depth ≤ 60 := by
  show PyData.depthAll _ + 1 ≤ 60
  rw [depth_nats]
  omega
theorem eqv_leads_cons (l : Nat) (ls : List Nat) : PyData.eqv (.list ((l :: ls).map fun n : Nat => PyData.int (n : Int))) (.list []) = false := by
  simp [PyData.eqv, PyData.eqvAll]
theorem encQ_inj {p q : Rat} (h1 : p.num = q.num) (h2 : (p.den : Int) = q.den) : p = q := Rat.ext h1 (by omega)
theorem ne_encQ0 (q : Rat) : neD' (encQ q) (.tuple [.int 0, .int 1]) = some (.bool (decide (q ≠ 0))) := by
  unfold encQ
  rw [ne_plain rfl rfl (by simp [PyData.depth, PyData.depthAll]) (by simp [PyData.depth, PyData.depthAll])]
  congr 2
  by_cases h : q = 0
  · subst h
    simp [PyData.eqv, PyData.eqvAll]
  · have : ¬ (q.num = 0 ∧ (q.den : Int) = 1) := fun z => h (Rat.num_eq_zero.mp z.1)
    simp only [PyData.eqv, PyData.eqvAll, h, ne_eq, not_false_eq_true, decide_true, Bool.and_true]
    by_cases h1 : q.num = 0
    · exact absurd (Rat.num_eq_zero.mp h1) h
    · simp [h1]
theorem leads_of {f j : Nat} {left : List RK.Row} (hlen : (encL left).length = left.length) (hl : left.length ≤ 1000) (hf : f ≤ left.length) (hr : ∀ r ∈ left, j < r.length) {F : D → M (Option D)} (hF : ∀ d : D, F d = elM (do let x ← (do let x ← (do let y ← pure d; lift (ixD (.list (encL left)) y)); let y ← pure (.int (j : Int)); lift (ixD x y)); let y ← pure (.tuple [.int 0, .int 1]); let z ← lift (neD' x y); asB z) (pure d)) :
    lcM F (rngL (f : Int) (((encL left).length : Int) - (f : Int)).toNat) = pure ((RK.leads j f left).map fun n : Nat => PyData.int (n : Int)) := by
  have e : rngL (f : Int) (((encL left).length : Int) - (f : Int)).toNat = (List.range' f (left.length - f)).map fun n : Nat => PyData.int (n : Int) := by
    rw [hlen]
    unfold rngL
    rw [show ((left.length : Int) - (f : Int)).toNat = left.length - f by omega, List.range'_eq_map_range, List.map_map]
    apply List.map_congr_left
    intro i _
    show PyData.int _ = PyData.int _
    congr 1
  rw [e]
  unfold RK.leads
  refine lcM_if (by rw [List.length_range']; omega) fun n hn => ?_
  rw [List.mem_range'_1] at hn
  have hnl : n < left.length := by omega
  have h1 : (encL left)[n]? = some (encR left[n]) := by unfold encL; rw [List.getElem?_map, List.getElem?_eq_getElem hnl]; rfl
  have hle : left.getD n [] = left[n] := by rw [List.getD_eq_getElem?_getD, List.getElem?_eq_getElem hnl]; rfl
  rw [hF]
  simp only [pure_bind, ix_list h1, lift_some, ix_encR (hr _ (List.getElem_mem hnl)), ne_encQ0, asB_bool, elM_pure, hle]

theorem q_rank_l1 {c j f B : Nat} {p : RK.Row} (hj : j < c) (hp : p.length = c) (hpj : RK.ent p j ≠ 0) (hB : 4 * B + 1 < lim) (hc : c ≤ 1000) (hpB : ∀ x ∈ p, Qb x B) (kk : List D → M D) : ∀ (rest pre : List RK.Row), pre[f]? = some p → (∀ r ∈ rest, r.length = c ∧ ∀ x ∈ r, Qb x B) →
    m_rank_of_l1 (.int (j : Int)) (.int (f : Int)) kk (rngL (pre.length : Int) rest.length) (encL (pre ++ rest)) = kk (encL (pre ++ rest.map (RK.red p j)))
  | [], pre, _, _ => by
    unfold m_rank_of_l1
    simp [rngL]
  | r :: rest, pre, hf, hr => by
    obtain ⟨hrl, hrB⟩ := hr r List.mem_cons_self
    have hlr : (encL (pre ++ r :: rest))[pre.length]? = some (encR r) := by
      unfold encL
      rw [List.getElem?_map, List.getElem?_append_right (Nat.le_refl _), Nat.sub_self]
      rfl
    have hfl := (List.getElem?_eq_some_iff.mp hf).1
    have hlp : (encL (pre ++ r :: rest))[f]? = some (encR p) := by
      unfold encL
      rw [List.getElem?_map, List.getElem?_append_left hfl, hf]
      rfl
    have hpl : pre.length < (encL (pre ++ r :: rest)).length := (List.getElem?_eq_some_iff.mp hlr).1
    have ho := q_over (p := RK.ent r j) (q := RK.ent p j) (A := B) (B := B) hpj (ent_mem (hrl ▸ hj) hrB) (ent_mem (hp ▸ hj) hpB) (by omega)
    rw [List.length_cons, rng_succ]
    unfold m_rank_of_l1
    simp only [pure_bind, ix_list hlr, ix_list hlp, lift_some, ix_encR (hrl ▸ hj : j < r.length), ix_encR (hp ▸ hj : j < p.length), List.map_nil, List.append_nil, fn2_dat, ho.1]
    rw [show encR r = .list (r.map encQ) from rfl, show encR p = .list (p.map encQ) from rfl, asZip_list, pure_bind, zip_map]
    rw [lcM_of (g := fun z => encQ (z.1 - RK.ent r j / RK.ent p j * z.2)) (by simp [hrl, hp]; exact hc) (fun z hz => by
      have hz1 := hrB _ (List.of_mem_zip hz).1
      have hz2 := hpB _ (List.of_mem_zip hz).2
      have ht := q_times (A := B + B) (B := B) ho.2.2 hz2 (by omega)
      have ht2 := q_ltimes (A := B + B) (B := B) ho.2.2 hz2 (by omega)
      have hm := q_minus (A := B) (B := B + B + B) hz1 ht.2 (by omega)
      rw [two_tup, elM_true]
      simp only [pure_bind, List.map_nil, List.append_nil, fn1_dat, fn2_dat, mkLst_of (show ([encQ (RK.ent r j / RK.ent p j), encQ z.2] : List D).length ≤ 1000 by simp), ht.1, ht2, hm.1])]
    simp only [pure_bind]
    rw [setL_nat hpl]
    rw [pure_bind, ← red_map, show PyData.list ((RK.red p j r).map encQ) = encR (RK.red p j r) from rfl, encL_set]
    have ih := q_rank_l1 (f := f) hj hp hpj hB hc hpB kk rest (pre ++ [RK.red p j r]) (by rw [List.getElem?_append_left hfl]; exact hf) (fun r' h' => hr r' (List.mem_cons_of_mem _ h'))
    rw [List.length_append, List.length_singleton, List.append_assoc, List.append_assoc] at ih
    rw [List.map_cons]
    exact ih
theorem q_rank_l0 {c : Nat} (hc : c ≤ 1000) (kk : List D × D → M D) : ∀ (n j B f : Nat) (left : List RK.Row), j + n = c → 4 ^ n * (B + 1) < lim → left.length ≤ 1000 → f ≤ left.length → (∀ r ∈ left, r.length = c ∧ ∀ x ∈ r, Qb x B) →
    ∃ left', m_rank_of_l0 kk (rngL (j : Int) n) (encL left, .int (f : Int)) = kk (left', .int ((RK.run (List.range' j n) (left, f)).2 : Int))
  | 0, j, B, f, left, _, _, _, _, _ => by
    refine ⟨encL left, ?_⟩
    unfold m_rank_of_l0
    simp [rngL, RK.run]
  | n + 1, j, B, f, left, hn, hB, hl, hf, hr => by
    have h4 : 1 ≤ 4 ^ n := Nat.one_le_pow _ _ (by omega)
    have hB2 : 4 * B + 1 < lim := by
      have h5 : 4 ^ (n + 1) * (B + 1) = 4 ^ n * (4 * (B + 1)) := by rw [Nat.pow_succ, Nat.mul_assoc]
      have h6 : 1 * (4 * (B + 1)) ≤ 4 ^ n * (4 * (B + 1)) := Nat.mul_le_mul_right _ h4
      omega
    have hB3 : 4 ^ n * (4 * B + 1 + 1) < lim := by
      have h5 : 4 ^ (n + 1) * (B + 1) = 4 ^ n * (4 * (B + 1)) := by rw [Nat.pow_succ, Nat.mul_assoc]
      have h6 : 4 ^ n * (4 * B + 1 + 1) ≤ 4 ^ n * (4 * (B + 1)) := Nat.mul_le_mul_left _ (by omega)
      omega
    have hj : j < c := by omega
    rw [rng_succ, List.range'_succ]
    show ∃ left', _ = kk (left', .int ((RK.run (List.range' (j + 1) n) (RK.step j (left, f))).2 : Int))
    unfold m_rank_of_l0
    have hlen : (encL left).length = left.length := by unfold encL; rw [List.length_map]
    simp only [pure_bind, asN_int (i := (f : Int)) (by omega), asN_int (i := ((encL left).length : Int)) (by omega)]
    rw [leads_of (f := f) (j := j) hlen hl hf (fun r h => by rw [(hr r h).1]; exact hj)]
    rotate_left
    · intro d; simp only [pure_bind, g_NONE]
    rw [pure_bind]
    rw [show mkLst [] = pure (.list []) from mkLst_of (by simp), pure_bind, ne_plain (plain_leads _) rfl (depth_leads _) (by simp [PyData.depth, PyData.depthAll]), lift_some, pure_bind, asB_bool, pure_bind]
    cases e : RK.leads j f left with
    | nil =>
      rw [show RK.step j (left, f) = (left, f) by unfold RK.step; rw [e]]
      obtain ⟨l', ih⟩ := q_rank_l0 hc kk n (j + 1) B f left (by omega) (by have : 4 ^ n * (B + 1) ≤ 4 ^ n * (4 * B + 1 + 1) := Nat.mul_le_mul_left _ (by omega); omega) hl hf hr
      exact ⟨l', ih⟩
    | cons l ls =>
      obtain ⟨hl1, hl2, hl3⟩ := leads_mem (l := l) (by rw [e]; exact List.mem_cons_self)
      have hfl : f < left.length := by omega
      have h1 : (encL left)[l]? = some (encR left[l]) := by unfold encL; rw [List.getElem?_map, List.getElem?_eq_getElem hl2]; rfl
      have h2 : (encL left)[f]? = some (encR left[f]) := by unfold encL; rw [List.getElem?_map, List.getElem?_eq_getElem hfl]; rfl
      have hsl : (RK.swap left f l).length = left.length := by unfold RK.swap; simp
      have hsw : ∀ r ∈ RK.swap left f l, r.length = c ∧ ∀ x ∈ r, Qb x B := fun r hm => by
        unfold RK.swap at hm
        rcases List.mem_or_eq_of_mem_set hm with z | z
        · rcases List.mem_or_eq_of_mem_set z with z | z
          · exact hr r z
          · rw [z, List.getD_eq_getElem?_getD, List.getElem?_eq_getElem hl2]; exact hr _ (List.getElem_mem hl2)
        · rw [z, List.getD_eq_getElem?_getD, List.getElem?_eq_getElem hfl]; exact hr _ (List.getElem_mem hfl)
      have hle : left.getD l [] = left[l] := by rw [List.getD_eq_getElem?_getD, List.getElem?_eq_getElem hl2]; rfl
      have hpm : left[l] ∈ left := List.getElem_mem hl2
      have hst : RK.step j (left, f) = ((RK.swap left f l).take (f + 1) ++ ((RK.swap left f l).drop (f + 1)).map (RK.red left[l] j), f + 1) := by unfold RK.step; rw [e]; simp only [hle]
      have h0 : ixD (.list ((l :: ls).map fun n : Nat => PyData.int (n : Int))) (.int 0) = some (.int (l : Int)) := ix_list0 _ _
      simp only [eqv_leads_cons, Bool.not_false, if_true, pure_bind, h0, lift_some, ix_list h1, ix_list h2, setL_nat (show f < (encL left).length by omega), quiet_pure]
      rw [setL_nat (by rw [List.length_set]; omega), pure_bind, encL_swap hl2 hfl]
      rw [show (encL (RK.swap left f l)).length = left.length by unfold encL; rw [List.length_map, hsl]]
      simp only [add_int, lift_some, pure_bind]
      rw [asN_int (i := (f : Int) + 1) (by omega), pure_bind, asN_int (i := (left.length : Int)) (by omega), pure_bind]
      have hsplit : RK.swap left f l = (RK.swap left f l).take (f + 1) ++ (RK.swap left f l).drop (f + 1) := (List.take_append_drop _ _).symm
      have htl : ((RK.swap left f l).take (f + 1)).length = f + 1 := by rw [List.length_take, hsl]; omega
      have hdl : ((RK.swap left f l).drop (f + 1)).length = left.length - (f + 1) := by rw [List.length_drop, hsl]
      have hpf : ((RK.swap left f l).take (f + 1))[f]? = some left[l] := by
        rw [List.getElem?_take_of_lt (by omega)]
        unfold RK.swap
        by_cases hlf : l = f
        · subst hlf
          rw [List.getElem?_set_self (by simpa using hl2), List.getD_eq_getElem?_getD, List.getElem?_eq_getElem hl2]; rfl
        · rw [List.getElem?_set_ne hlf, List.getElem?_set_self (by simpa using hfl), hle]
      have key := fun kk' => q_rank_l1 (f := f) (j := j) hj (hr _ hpm).1 (by rw [← hle]; exact hl3) hB2 hc (hr _ hpm).2 kk' ((RK.swap left f l).drop (f + 1)) ((RK.swap left f l).take (f + 1)) hpf (fun r h => hsw r (List.mem_of_mem_drop h))
      rw [htl, hdl, ← hsplit] at key
      have hrr : rngL ((f : Int) + 1) ((left.length : Int) - ((f : Int) + 1)).toNat = rngL ((f + 1 : Nat) : Int) (left.length - (f + 1)) := by
        congr 1
        omega
      rw [hrr, pure_bind, key]
      rw [hst]
      refine q_rank_l0 hc kk n (j + 1) (4 * B + 1) (f + 1) _ (by omega) hB3 (by rw [List.length_append, List.length_map, htl, hdl]; omega) (by rw [List.length_append, htl]; omega) (fun r hm => ?_)
      rcases List.mem_append.mp hm with z | z
      · obtain ⟨z1, z2⟩ := hsw r (List.mem_of_mem_take z)
        exact ⟨z1, fun x hx => (z2 x hx).up (by omega)⟩
      · obtain ⟨r', z1, z2⟩ := List.mem_map.mp z
        obtain ⟨z3, z4⟩ := hsw r' (List.mem_of_mem_drop z1)
        rw [← z2]
        exact ⟨RK.red_len (hr _ hpm).1 z3, red_B (hrl := z3 ▸ hj) (hpl := (hr _ hpm).1 ▸ hj) (by rw [← hle]; exact hl3) (by omega) z4 (hr _ hpm).2⟩

theorem q_lrank_l1 {c j f B : Nat} {p : RK.Row} (hj : j < c) (hp : p.length = c) (hpj : RK.ent p j ≠ 0) (hB : 4 * B + 1 < lim) (hc : c ≤ 1000) (hpB : ∀ x ∈ p, Qb x B) (kk : List D → M D) : ∀ (rest pre : List RK.Row), pre[f]? = some p → (∀ r ∈ rest, r.length = c ∧ ∀ x ∈ r, Qb x B) →
    m__law_rank_l1 (.int (j : Int)) (.int (f : Int)) kk (rngL (pre.length : Int) rest.length) (encL (pre ++ rest)) = kk (encL (pre ++ rest.map (RK.red p j)))
  | [], pre, _, _ => by
    unfold m__law_rank_l1
    simp [rngL]
  | r :: rest, pre, hf, hr => by
    obtain ⟨hrl, hrB⟩ := hr r List.mem_cons_self
    have hlr : (encL (pre ++ r :: rest))[pre.length]? = some (encR r) := by
      unfold encL
      rw [List.getElem?_map, List.getElem?_append_right (Nat.le_refl _), Nat.sub_self]
      rfl
    have hfl := (List.getElem?_eq_some_iff.mp hf).1
    have hlp : (encL (pre ++ r :: rest))[f]? = some (encR p) := by
      unfold encL
      rw [List.getElem?_map, List.getElem?_append_left hfl, hf]
      rfl
    have hpl : pre.length < (encL (pre ++ r :: rest)).length := (List.getElem?_eq_some_iff.mp hlr).1
    have ho := q_over (p := RK.ent r j) (q := RK.ent p j) (A := B) (B := B) hpj (ent_mem (hrl ▸ hj) hrB) (ent_mem (hp ▸ hj) hpB) (by omega)
    rw [List.length_cons, rng_succ]
    unfold m__law_rank_l1
    simp only [pure_bind, ix_list hlr, ix_list hlp, lift_some, ix_encR (hrl ▸ hj : j < r.length), ix_encR (hp ▸ hj : j < p.length), List.map_nil, List.append_nil, fn2_dat, ho.2.1]
    rw [show encR r = .list (r.map encQ) from rfl, show encR p = .list (p.map encQ) from rfl, asZip_list, pure_bind, zip_map]
    rw [lcM_of (g := fun z => encQ (z.1 - RK.ent r j / RK.ent p j * z.2)) (by simp [hrl, hp]; exact hc) (fun z hz => by
      have hz1 := hrB _ (List.of_mem_zip hz).1
      have hz2 := hpB _ (List.of_mem_zip hz).2
      have ht := q_times (A := B + B) (B := B) ho.2.2 hz2 (by omega)
      have ht2 := q_ltimes (A := B + B) (B := B) ho.2.2 hz2 (by omega)
      have hm := q_minus (A := B) (B := B + B + B) hz1 ht.2 (by omega)
      rw [two_tup, elM_true]
      simp only [pure_bind, List.map_nil, List.append_nil, fn1_dat, fn2_dat, mkLst_of (show ([encQ (RK.ent r j / RK.ent p j), encQ z.2] : List D).length ≤ 1000 by simp), ht.1, ht2, hm.2.1])]
    simp only [pure_bind]
    rw [setL_nat hpl]
    rw [pure_bind, ← red_map, show PyData.list ((RK.red p j r).map encQ) = encR (RK.red p j r) from rfl, encL_set]
    have ih := q_lrank_l1 (f := f) hj hp hpj hB hc hpB kk rest (pre ++ [RK.red p j r]) (by rw [List.getElem?_append_left hfl]; exact hf) (fun r' h' => hr r' (List.mem_cons_of_mem _ h'))
    rw [List.length_append, List.length_singleton, List.append_assoc, List.append_assoc] at ih
    rw [List.map_cons]
    exact ih
theorem q_lrank_l0 {c : Nat} (hc : c ≤ 1000) (kk : List D × D → M D) : ∀ (n j B f : Nat) (left : List RK.Row), j + n = c → 4 ^ n * (B + 1) < lim → left.length ≤ 1000 → f ≤ left.length → (∀ r ∈ left, r.length = c ∧ ∀ x ∈ r, Qb x B) →
    ∃ left', m__law_rank_l0 kk (rngL (j : Int) n) (encL left, .int (f : Int)) = kk (left', .int ((RK.run (List.range' j n) (left, f)).2 : Int))
  | 0, j, B, f, left, _, _, _, _, _ => by
    refine ⟨encL left, ?_⟩
    unfold m__law_rank_l0
    simp [rngL, RK.run]
  | n + 1, j, B, f, left, hn, hB, hl, hf, hr => by
    have h4 : 1 ≤ 4 ^ n := Nat.one_le_pow _ _ (by omega)
    have hB2 : 4 * B + 1 < lim := by
      have h5 : 4 ^ (n + 1) * (B + 1) = 4 ^ n * (4 * (B + 1)) := by rw [Nat.pow_succ, Nat.mul_assoc]
      have h6 : 1 * (4 * (B + 1)) ≤ 4 ^ n * (4 * (B + 1)) := Nat.mul_le_mul_right _ h4
      omega
    have hB3 : 4 ^ n * (4 * B + 1 + 1) < lim := by
      have h5 : 4 ^ (n + 1) * (B + 1) = 4 ^ n * (4 * (B + 1)) := by rw [Nat.pow_succ, Nat.mul_assoc]
      have h6 : 4 ^ n * (4 * B + 1 + 1) ≤ 4 ^ n * (4 * (B + 1)) := Nat.mul_le_mul_left _ (by omega)
      omega
    have hj : j < c := by omega
    rw [rng_succ, List.range'_succ]
    show ∃ left', _ = kk (left', .int ((RK.run (List.range' (j + 1) n) (RK.step j (left, f))).2 : Int))
    unfold m__law_rank_l0
    have hlen : (encL left).length = left.length := by unfold encL; rw [List.length_map]
    simp only [pure_bind, asN_int (i := (f : Int)) (by omega), asN_int (i := ((encL left).length : Int)) (by omega)]
    rw [leads_of (f := f) (j := j) hlen hl hf (fun r h => by rw [(hr r h).1]; exact hj)]
    rotate_left
    · intro d; simp only [pure_bind, mkTup_of (show ([PyData.int 0, PyData.int 1] : List D).length ≤ 1000 by simp)]
    rw [pure_bind]
    rw [show mkLst [] = pure (.list []) from mkLst_of (by simp), pure_bind, ne_plain (plain_leads _) rfl (depth_leads _) (by simp [PyData.depth, PyData.depthAll]), lift_some, pure_bind, asB_bool, pure_bind]
    cases e : RK.leads j f left with
    | nil =>
      rw [show RK.step j (left, f) = (left, f) by unfold RK.step; rw [e]]
      obtain ⟨l', ih⟩ := q_lrank_l0 hc kk n (j + 1) B f left (by omega) (by have : 4 ^ n * (B + 1) ≤ 4 ^ n * (4 * B + 1 + 1) := Nat.mul_le_mul_left _ (by omega); omega) hl hf hr
      exact ⟨l', ih⟩
    | cons l ls =>
      obtain ⟨hl1, hl2, hl3⟩ := leads_mem (l := l) (by rw [e]; exact List.mem_cons_self)
      have hfl : f < left.length := by omega
      have h1 : (encL left)[l]? = some (encR left[l]) := by unfold encL; rw [List.getElem?_map, List.getElem?_eq_getElem hl2]; rfl
      have h2 : (encL left)[f]? = some (encR left[f]) := by unfold encL; rw [List.getElem?_map, List.getElem?_eq_getElem hfl]; rfl
      have hsl : (RK.swap left f l).length = left.length := by unfold RK.swap; simp
      have hsw : ∀ r ∈ RK.swap left f l, r.length = c ∧ ∀ x ∈ r, Qb x B := fun r hm => by
        unfold RK.swap at hm
        rcases List.mem_or_eq_of_mem_set hm with z | z
        · rcases List.mem_or_eq_of_mem_set z with z | z
          · exact hr r z
          · rw [z, List.getD_eq_getElem?_getD, List.getElem?_eq_getElem hl2]; exact hr _ (List.getElem_mem hl2)
        · rw [z, List.getD_eq_getElem?_getD, List.getElem?_eq_getElem hfl]; exact hr _ (List.getElem_mem hfl)
      have hle : left.getD l [] = left[l] := by rw [List.getD_eq_getElem?_getD, List.getElem?_eq_getElem hl2]; rfl
      have hpm : left[l] ∈ left := List.getElem_mem hl2
      have hst : RK.step j (left, f) = ((RK.swap left f l).take (f + 1) ++ ((RK.swap left f l).drop (f + 1)).map (RK.red left[l] j), f + 1) := by unfold RK.step; rw [e]; simp only [hle]
      have h0 : ixD (.list ((l :: ls).map fun n : Nat => PyData.int (n : Int))) (.int 0) = some (.int (l : Int)) := ix_list0 _ _
      simp only [eqv_leads_cons, Bool.not_false, if_true, pure_bind, h0, lift_some, ix_list h1, ix_list h2, setL_nat (show f < (encL left).length by omega), quiet_pure]
      rw [setL_nat (by rw [List.length_set]; omega), pure_bind, encL_swap hl2 hfl]
      rw [show (encL (RK.swap left f l)).length = left.length by unfold encL; rw [List.length_map, hsl]]
      simp only [add_int, lift_some, pure_bind]
      rw [asN_int (i := (f : Int) + 1) (by omega), pure_bind, asN_int (i := (left.length : Int)) (by omega), pure_bind]
      have hsplit : RK.swap left f l = (RK.swap left f l).take (f + 1) ++ (RK.swap left f l).drop (f + 1) := (List.take_append_drop _ _).symm
      have htl : ((RK.swap left f l).take (f + 1)).length = f + 1 := by rw [List.length_take, hsl]; omega
      have hdl : ((RK.swap left f l).drop (f + 1)).length = left.length - (f + 1) := by rw [List.length_drop, hsl]
      have hpf : ((RK.swap left f l).take (f + 1))[f]? = some left[l] := by
        rw [List.getElem?_take_of_lt (by omega)]
        unfold RK.swap
        by_cases hlf : l = f
        · subst hlf
          rw [List.getElem?_set_self (by simpa using hl2), List.getD_eq_getElem?_getD, List.getElem?_eq_getElem hl2]; rfl
        · rw [List.getElem?_set_ne hlf, List.getElem?_set_self (by simpa using hfl), hle]
      have key := fun kk' => q_lrank_l1 (f := f) (j := j) hj (hr _ hpm).1 (by rw [← hle]; exact hl3) hB2 hc (hr _ hpm).2 kk' ((RK.swap left f l).drop (f + 1)) ((RK.swap left f l).take (f + 1)) hpf (fun r h => hsw r (List.mem_of_mem_drop h))
      rw [htl, hdl, ← hsplit] at key
      have hrr : rngL ((f : Int) + 1) ((left.length : Int) - ((f : Int) + 1)).toNat = rngL ((f + 1 : Nat) : Int) (left.length - (f + 1)) := by
        congr 1
        omega
      rw [hrr, pure_bind, key]
      rw [hst]
      refine q_lrank_l0 hc kk n (j + 1) (4 * B + 1) (f + 1) _ (by omega) hB3 (by rw [List.length_append, List.length_map, htl, hdl]; omega) (by rw [List.length_append, htl]; omega) (fun r hm => ?_)
      rcases List.mem_append.mp hm with z | z
      · obtain ⟨z1, z2⟩ := hsw r (List.mem_of_mem_take z)
        exact ⟨z1, fun x hx => (z2 x hx).up (by omega)⟩
      · obtain ⟨r', z1, z2⟩ := List.mem_map.mp z
        obtain ⟨z3, z4⟩ := hsw r' (List.mem_of_mem_drop z1)
        rw [← z2]
        exact ⟨RK.red_len (hr _ hpm).1 z3, red_B (hrl := z3 ▸ hj) (hpl := (hr _ hpm).1 ▸ hj) (by rw [← hle]; exact hl3) (by omega) z4 (hr _ hpm).2⟩

def encI (r : List Int) : D := .tuple (r.map .int)
theorem int_Q (i : Int) : encQ (i : Rat) = .tuple [.int i, .int 1] := rfl
theorem ratio1 (i : Int) : m_ratio (.int i) (.int 1) = pure (encQ (i : Rat)) := by
  rw [q_ratio (by decide) (show (1 : Int).natAbs < 2 ^ lim from Nat.one_lt_two_pow (by decide))]
  congr 2
  rw [Rat.divInt_eq_div]
  show (i : Rat) / 1 = _
  grind
theorem rows_Q {rows : List (List Int)} {c : Nat} (hr : ∀ r ∈ rows, r.length = c ∧ ∀ x ∈ r, -100 ≤ x ∧ x ≤ 100) : ∀ r ∈ rows.map RK.qs, r.length = c ∧ ∀ x ∈ r, Qb x 7 := fun r hm => by
  obtain ⟨r', h1, h2⟩ := List.mem_map.mp hm
  obtain ⟨h3, h4⟩ := hr r' h1
  rw [← h2]
  unfold RK.qs
  refine ⟨by rw [List.length_map]; exact h3, fun x hx => ?_⟩
  obtain ⟨i, h5, h6⟩ := List.mem_map.mp hx
  have := h4 i h5
  rw [← h6]
  exact ⟨show i.natAbs < 2 ^ 7 by omega, show 1 < 2 ^ 7 by decide⟩
theorem q_rank {rows : List (List Int)} {c : Nat} (hc : c ≤ 4) (hl : rows.length ≤ 1000) (hr : ∀ r ∈ rows, r.length = c ∧ ∀ x ∈ r, -100 ≤ x ∧ x ≤ 100) : m_rank_of (.tuple (rows.map encI)) (.int (c : Int)) = pure (.int (RK.rank rows c : Int)) := by
  unfold m_rank_of
  simp only [pure_bind, asSq_tuple]
  rw [lcM_of (g := fun r : List Int => encR (RK.qs r)) hl (fun r h => by
    rw [elM_true]
    unfold encI
    simp only [asSq_tuple, pure_bind]
    rw [lcM_of (g := fun i : Int => encQ (i : Rat)) (by rw [(hr r h).1]; omega) (fun i _ => by
      rw [elM_true]
      simp only [pure_bind, List.map_nil, List.append_nil, fn2_dat, ratio1])]
    simp only [pure_bind]
    unfold encR RK.qs
    rw [List.map_map]
    rfl)]
  simp only [pure_bind, asN_int (i := (c : Int)) (by omega)]
  have e : rows.map (fun r => encR (RK.qs r)) = encL (rows.map RK.qs) := by unfold encL; rw [List.map_map]; rfl
  rw [e]
  have hp : 4 ^ c * (7 + 1) < lim := by
    have : 4 ^ c ≤ 4 ^ 4 := Nat.pow_le_pow_right (by omega) hc
    rw [lim_eq]; omega
  obtain ⟨l', h⟩ := q_rank_l0 (c := c) (by omega) (fun z : List D × D => pure z.2) c 0 7 0 (rows.map RK.qs) (by omega) hp (by simpa using hl) (by omega) (rows_Q hr)
  rw [show ((0 : Nat) : Int) = 0 from rfl] at h
  have e2 : (fun (v_left59, v_found60) => (pure v_found60 : M D)) = fun z : List D × D => pure z.2 := rfl
  rw [e2, show (c : Int).toNat = c by omega, h]
  unfold RK.rank
  rw [List.range_eq_range']
theorem q_lrank {rows : List (List Int)} {c : Nat} (hc : c ≤ 4) (hl : rows.length ≤ 1000) (hr : ∀ r ∈ rows, r.length = c ∧ ∀ x ∈ r, -100 ≤ x ∧ x ≤ 100) : m__law_rank (.tuple (rows.map encI)) (.int (c : Int)) = pure (.int (RK.rank rows c : Int)) := by
  unfold m__law_rank
  simp only [pure_bind, asSq_tuple]
  rw [lcM_of (g := fun r : List Int => encR (RK.qs r)) hl (fun r h => by
    rw [elM_true]
    unfold encI
    simp only [asSq_tuple, pure_bind]
    rw [lcM_of (g := fun i : Int => encQ (i : Rat)) (by rw [(hr r h).1]; omega) (fun i _ => by
      rw [elM_true]
      simp only [pure_bind, mkTup_of (show ([PyData.int i, PyData.int 1] : List D).length ≤ 1000 by simp)]
      rfl)]
    simp only [pure_bind]
    unfold encR RK.qs
    rw [List.map_map]
    rfl)]
  simp only [pure_bind, asN_int (i := (c : Int)) (by omega)]
  have e : rows.map (fun r => encR (RK.qs r)) = encL (rows.map RK.qs) := by unfold encL; rw [List.map_map]; rfl
  rw [e]
  have hp : 4 ^ c * (7 + 1) < lim := by
    have : 4 ^ c ≤ 4 ^ 4 := Nat.pow_le_pow_right (by omega) hc
    rw [lim_eq]; omega
  obtain ⟨l', h⟩ := q_lrank_l0 (c := c) (by omega) (fun z : List D × D => pure z.2) c 0 7 0 (rows.map RK.qs) (by omega) hp (by simpa using hl) (by omega) (rows_Q hr)
  rw [show ((0 : Nat) : Int) = 0 from rfl] at h
  have e2 : (fun (v_left59, v_found60) => (pure v_found60 : M D)) = fun z : List D × D => pure z.2 := rfl
  rw [e2, show (c : Int).toNat = c by omega, h]
  unfold RK.rank
  rw [List.range_eq_range']
end DL
namespace DL
open PySem PySem.Spec L2
/-! # PL, fifth part: runs that draw. -/
theorem bind_ok {α β : Type} {m : M α} {k : α → M β} {S S' : DS} {a : α} (h : m S = .ok a S') : (m >>= k) S = k a S' := by rw [bind_app, h]
/-- bits of a script's number -/
def big : Nat := 1048577
structure Good (S : DS) : Prop where
  cl : S.cells.length = 64
  cb : ∀ x ∈ S.cells, 0 ≤ x ∧ x < 2147483647
  gb : ∀ x ∈ S.great, 0 ≤ x
  sp : 0 ≤ S.spot
/-- draws in all -/
def LIM : Int := 1000000000
/-- m ends well, draws at most k times, and P holds of what it tells -/
def Run {α : Type} (m : M α) (k : Nat) (P : α → Prop) : Prop := ∀ S, Good S → S.spot + k ≤ LIM → ∃ a S', m S = .ok a S' ∧ Good S' ∧ S'.spot ≤ S.spot + k ∧ P a
section
variable {α β : Type} {m : M α} {f : α → M β} {k k1 k2 : Nat} {P P' : α → Prop} {Q : β → Prop}
theorem Run.pure {a : α} (h : P a) : Run (Pure.pure a) k P := fun S g _ => ⟨a, S, rfl, g, by omega, h⟩
theorem Run.mono (h : Run m k1 P) (hk : k1 ≤ k2) (hP : ∀ a, P a → P' a) : Run m k2 P' := fun S g l => by
  obtain ⟨a, S', e, g', l', p⟩ := h S g (by omega)
  exact ⟨a, S', e, g', by omega, hP a p⟩
theorem Run.bind (h : Run m k1 P) (hf : ∀ a, P a → Run (f a) k2 Q) : Run (m >>= f) (k1 + k2) Q := fun S g l => by
  obtain ⟨a, S', e, g', l', p⟩ := h S g (by omega)
  obtain ⟨b, S2, e2, g2, l2, q⟩ := hf a p S' g' (by omega)
  exact ⟨b, S2, by rw [bind_ok e, e2], g2, by omega, q⟩
theorem Run.quiet (h : Run m k P) : Run (quiet m) k P := fun S g l => by
  obtain ⟨a, S', e, r⟩ := h S g l
  exact ⟨a, S', by unfold DL.quiet; rw [e], r⟩
theorem Run.of_eq {a : α} (e : m = Pure.pure a) (h : P a) : Run m k P := by rw [e]; exact .pure h
/-- each of some things is drawn alike -/
theorem Run.comp {γ : Type} {h : γ → D} {f : D → M (Option D)} {k : Nat} {P : D → Prop} : ∀ {l : List γ}, (∀ a ∈ l, Run (f (h a)) k fun o => ∃ d, o = some d ∧ P d) → Run (compM f (l.map h)) (l.length * k) fun ds => ds.length = l.length ∧ ∀ d ∈ ds, P d
  | [], _ => .pure ⟨rfl, by simp⟩
  | a :: l, q => by
    rw [List.map_cons, compM]
    have e : (a :: l).length * k = k + (l.length * k + 0) := by rw [List.length_cons, Nat.succ_mul]; omega
    rw [e]
    refine .bind (q a List.mem_cons_self).quiet fun o ho => .bind (Run.comp (l := l) fun x hx => q x (List.mem_cons_of_mem _ hx)) fun r hr => .pure ?_
    obtain ⟨d, rfl, hd⟩ := ho
    refine ⟨by simp [hr.1], fun x hx => ?_⟩
    rcases List.mem_cons.mp hx with z | z
    · rw [z]; exact hd
    · exact hr.2 x z
theorem Run.lc {γ : Type} {h : γ → D} {f : D → M (Option D)} {k : Nat} {P : D → Prop} {l : List γ} (hl : l.length ≤ 1000) (q : ∀ a ∈ l, Run (f (h a)) k fun o => ∃ d, o = some d ∧ P d) : Run (lcM f (l.map h)) (l.length * k) fun ds => ds.length = l.length ∧ ∀ d ∈ ds, P d := by
  unfold lcM
  rw [if_pos (by rw [List.length_map]; exact hl)]
  exact .comp q
theorem Run.el {m : M D} {k : Nat} {P : D → Prop} (h : Run m k P) : Run (elM (Pure.pure true) m) k fun o => ∃ d, o = some d ∧ P d := by
  rw [elM_true]
  exact (Run.bind (k2 := 0) h fun a p => .pure ⟨a, rfl, p⟩)
end
/-! ### the mixed number -/
theorem natAbs_lt {i : Int} {B : Nat} (h0 : 0 ≤ i) (h : i < 2 ^ B) : i.natAbs < 2 ^ B := by
  have : ((i.natAbs : Nat) : Int) < ((2 ^ B : Nat) : Int) := by
    rw [Int.natAbs_of_nonneg h0]
    simpa using h
  omega
theorem q_mixed {cell n : Int} (h0 : 0 ≤ cell) (h1 : cell < 2 ^ 64) (h2 : 0 ≤ n) (h3 : n < 2 ^ 62) : ∃ v : Int, m__law_mixed (.int cell) (.int n) = pure (.int v) ∧ 0 ≤ v ∧ v < 2147483647 := by
  have b1 : cell.natAbs < 2 ^ 64 := natAbs_lt h0 h1
  have b2 : n.natAbs < 2 ^ 62 := natAbs_lt h2 h3
  have e1 := mul_int (A := 2) (a := 2) (b := n) (by decide) b2 (by omega)
  have b3 : (1 + 2 * n).natAbs < 2 ^ 66 := natAbs_lt (by omega) (by omega)
  have e2 := mul_int b1 b3 (by omega)
  have b4 := mulB b1 b3
  have e3 := mul_int (B := 16) (b := 48271) b4 (by decide) (by omega)
  have e4 := mul_int (A := 13) (a := 7919) (b := n) (by decide) b2 (by omega)
  have b5 := mulB (A := 13) (a := 7919) (b := n) (by decide) b2
  have e5 := mul_int b5 b2 (by omega)
  have b6 := mulB b5 b2
  have e6 := mul_int (A := 17) (a := 104729) (b := n) (by decide) b2 (by omega)
  have b7 := mulB (A := 17) (a := 104729) (b := n) (by decide) b2
  have m1 : (2147483647 : Int) ≠ 0 := by decide
  have m2 : (2147483629 : Int) ≠ 0 := by decide
  have m3 : (7 : Int) ≠ 0 := by decide
  have r1 : 0 ≤ (cell * (1 + 2 * n) * 48271).fmod 2147483647 := Int.fmod_nonneg_of_pos _ (by decide)
  have r2 : (cell * (1 + 2 * n) * 48271).fmod 2147483647 < 2147483647 := Int.fmod_lt_of_pos _ (by decide)
  have b8 : ((cell * (1 + 2 * n) * 48271).fmod 2147483647).natAbs < 2 ^ 137 := upB (natAbs_lt (B := 31) r1 (by omega)) (by omega)
  have b9 := addB b8 (upB b6 (by omega)) (Nat.lt_succ_self _)
  have b10 := addB b9 (upB b7 (by omega)) (Nat.lt_succ_self _)
  have e7 := mul_int (B := 17) (b := 69621) b10 (by decide) (by omega)
  unfold m__law_mixed
  simp only [pure_bind, e1, lift_some, add_int, e2, e3, int_int, mod_int m1, e4, e5, e6, e7, mod_int m2]
  rw [fdiv_int m3 (upB (B := lim) (A := 3) (by decide) (by rw [lim_eq]; omega)), lift_some]
  have r3 := Int.fmod_nonneg_of_pos (((cell * (1 + 2 * n) * 48271).fmod 2147483647 + 7919 * n * n + 104729 * n) * 69621) (show (0 : Int) < 2147483629 by decide)
  have r4 := Int.fmod_lt_of_pos (((cell * (1 + 2 * n) * 48271).fmod 2147483647 + 7919 * n * n + 104729 * n) * 69621) (show (0 : Int) < 2147483629 by decide)
  refine ⟨_, rfl, ?_, ?_⟩
  · rw [Int.fdiv_eq_ediv_of_nonneg _ (by omega)]; omega
  · rw [Int.fdiv_eq_ediv_of_nonneg _ (by omega)]; omega
/-! ### a draw -/
theorem getMem_at {b : Bool} {S : DS} {i : Nat} {x : Int} (h : (memL b S)[i]? = some x) : getMem b (.int (i : Int)) S = .ok (.int x) S := by
  unfold getMem memD
  rw [ix_list (d := .int x) (by rw [List.getElem?_map, h]; rfl)]
  rfl
theorem setMem_at {S : DS} {i : Nat} {x : Int} (h : i < S.great.length) : setMem (.int (i : Int)) (.int x) S = .ok () { S with great := S.great.set i x } := by
  show setGreat S x (ixN S.great.length (i : Int)) = _
  rw [ixN_nat h]
  rfl
theorem greatNe_at (S : DS) : greatNe S = .ok (decide (S.great ≠ [])) S := by
  unfold greatNe
  have e : (fun S => lift (neD' (memD true S) (.list [])) S : M D) S = .ok (.bool (decide (S.great ≠ []))) S := by
    show lift (neD' (.list (S.great.map .int)) (.list [])) S = _
    rw [ne_plain (by show PyData.plainAll _ = true; exact plain_ints _) rfl (by show PyData.depthAll _ + 1 ≤ 60; rw [depth_ints]; omega) (by simp [PyData.depth, PyData.depthAll])]
    cases S.great <;> simp [PyData.eqv, PyData.eqvAll] <;> rfl
  exact (bind_ok (m := (fun S => lift (neD' (memD true S) (.list [])) S : M D)) (k := fun z => asB z) e).trans rfl
theorem fmod_idx {n : Int} {k : Nat} (hk : 0 < k) : ∃ i : Nat, i < k ∧ n.fmod (k : Int) = (i : Int) := by
  have h1 := Int.fmod_nonneg_of_pos n (show (0 : Int) < (k : Int) by omega)
  have h2 := Int.fmod_lt_of_pos n (show (0 : Int) < (k : Int) by omega)
  exact ⟨(n.fmod k).toNat, by omega, by omega⟩
theorem run_draw {k : Int} (h0 : 0 < k) (h1 : k ≤ 1000000) : Run (m__law_draw (.int k)) 1 fun d => ∃ i : Int, d = .int i ∧ 0 ≤ i ∧ i < k := fun S g l => by
  have hk0 : k ≠ 0 := by omega
  have kb : k.natAbs < 2 ^ lim := upB (A := 20) (natAbs_lt (by omega) (by omega)) (by rw [lim_eq]; omega)
  have hsp := g.sp
  have hL : LIM = 1000000000 := rfl
  -- the mixed road
  have mixed : ∀ S' : DS, S'.cells = S.cells → Good S' → S'.spot = S.spot + 1 → ∀ X : M D, (∀ v : Int, X = (do
      let x ← (do let y ← pure (.int (S.spot.fmod 64)); getMem false y)
      let z ← (do let x ← lift (addD x (.int (31 * S.spot.fdiv 64))); let as ← fn2 m__law_mixed [.dat x, .dat (.int S.spot)]; fn2 m__law_mixed [.dat as, .dat (.int (S.spot + 7))])
      let w ← lift (intD [z])
      lift (modD w (.int k)))) → ∃ a S'', X S' = .ok a S'' ∧ Good S'' ∧ S''.spot ≤ S.spot + 1 ∧ ∃ i : Int, a = .int i ∧ 0 ≤ i ∧ i < k := fun S' hc g' hs X hX => by
    obtain ⟨i, hi, ei⟩ := fmod_idx (n := S.spot) (k := 64) (by omega)
    have hl : i < S'.cells.length := by rw [g'.cl]; exact hi
    have hget : getMem false (.int (i : Int)) S' = .ok (.int S'.cells[i]) S' := getMem_at (List.getElem?_eq_getElem hl)
    obtain ⟨c0, c1⟩ := g'.cb _ (List.getElem_mem hl)
    have d0 : 0 ≤ S.spot.fdiv 64 := by rw [Int.fdiv_eq_ediv_of_nonneg _ (by omega)]; omega
    have d1 : S.spot.fdiv 64 ≤ S.spot := by rw [Int.fdiv_eq_ediv_of_nonneg _ (by omega)]; omega
    obtain ⟨v, ev, v0, v1⟩ := q_mixed (cell := S'.cells[i] + 31 * S.spot.fdiv 64) (n := S.spot) (by omega) (by omega) hsp (by omega)
    obtain ⟨w, ew, w0, w1⟩ := q_mixed (cell := v) (n := S.spot + 7) (by omega) (by omega) (by omega) (by omega)
    rw [show ((64 : Nat) : Int) = 64 from rfl] at ei
    rw [hX 0, ei]
    simp only [pure_bind]
    rw [bind_ok hget]
    simp only [add_int, lift_some, pure_bind, fn2_dat, ev, ew, int_int, mod_int hk0]
    exact ⟨_, S', rfl, g', by omega, _, rfl, Int.fmod_nonneg_of_pos _ h0, Int.fmod_lt_of_pos _ h0⟩
  unfold m__law_draw
  rw [bind_ok (show getSpot S = .ok (.int S.spot) S from rfl)]
  simp only [pure_bind, add_int, lift_some]
  rw [bind_ok (show setSpot (.int (S.spot + 1)) S = .ok () { S with spot := S.spot + 1 } from rfl)]
  have g1 : Good { S with spot := S.spot + 1 } := ⟨g.cl, g.cb, g.gb, by show 0 ≤ S.spot + 1; omega⟩
  rw [bind_ok (greatNe_at _)]
  have e31 := mul_int (A := 5) (B := 62) (a := 31) (b := S.spot.fdiv 64) (by decide) (natAbs_lt (by rw [Int.fdiv_eq_ediv_of_nonneg _ (by omega)]; omega) (by rw [Int.fdiv_eq_ediv_of_nonneg _ (by omega)]; omega)) (by omega)
  have e64 := fdiv_int (a := S.spot) (b := 64) (by decide) (upB (A := 7) (B := lim) (by decide) (by rw [lim_eq]; omega))
  have m64 := mod_int (a := S.spot) (b := 64) (by decide)
  by_cases hg : S.great = []
  · simp only [hg, ne_eq, not_true_eq_false, decide_false, if_neg Bool.false_ne_true, Bool.false_eq_true, if_false]
    refine mixed { S with great := [], spot := S.spot + 1 } rfl ⟨g.cl, g.cb, by simp, by show 0 ≤ S.spot + 1; omega⟩ rfl _ fun v => ?_
    simp only [pure_bind, bind_assoc, int_int, lift_some, m64, e64, e31, add_int, List.map_nil, List.append_nil]
  · have hgd : decide (S.great ≠ []) = true := decide_eq_true hg
    simp only [hgd, if_true]
    have hgl : 0 < S.great.length := List.length_pos_iff.mpr hg
    obtain ⟨i, hi, ei⟩ := fmod_idx (n := S.spot) hgl
    simp only [int_int, lift_some, pure_bind]
    rw [bind_ok (show (do let y ← lenMem true; lift (modD (.int S.spot) y) : M D) { S with spot := S.spot + 1 } = .ok (.int (i : Int)) { S with spot := S.spot + 1 } by
      rw [bind_ok (show lenMem true { S with spot := S.spot + 1 } = .ok (.int (S.great.length : Int)) { S with spot := S.spot + 1 } from rfl), mod_int (by omega), ei]; rfl)]
    rw [bind_ok (getMem_at (b := true) (x := S.great[i]) (S := { S with spot := S.spot + 1 }) (List.getElem?_eq_getElem hi))]
    simp only [gt_int, lift_some, pure_bind, asB_bool]
    have c0 := g.gb _ (List.getElem_mem hi)
    by_cases hp : 0 < S.great[i]
    · have hpd : decide (0 < S.great[i]) = true := decide_eq_true hp
      simp only [hpd, if_true, fdiv_int hk0 kb, lift_some, pure_bind]
      rw [bind_ok (setMem_at (S := { S with spot := S.spot + 1 }) hi)]
      simp only [int_int, lift_some, pure_bind, mod_int hk0]
      refine ⟨_, _, rfl, ⟨g.cl, g.cb, fun x hx => ?_, by show 0 ≤ S.spot + 1; omega⟩, by show S.spot + 1 ≤ S.spot + 1; omega, _, rfl, Int.fmod_nonneg_of_pos _ h0, Int.fmod_lt_of_pos _ h0⟩
      rcases List.mem_or_eq_of_mem_set hx with z | z
      · exact g.gb x z
      · rw [z, Int.fdiv_eq_ediv_of_nonneg _ (by omega)]
        exact Int.ediv_nonneg c0 (by omega)
    · have hpd : decide (0 < S.great[i]) = false := decide_eq_false hp
      simp only [hpd, Bool.false_eq_true, if_false]
      refine mixed { S with spot := S.spot + 1 } rfl g1 rfl _ fun v => ?_
      simp only [pure_bind, bind_assoc, int_int, lift_some, m64, e64, e31, add_int, List.map_nil, List.append_nil]
end DL
namespace DL
open PySem PySem.Spec L2
/-! # PL, sixth part: the first state; things drawn. -/
theorem ix_ints {ns : List Int} {i : Nat} (h : i < ns.length) : ixD (.list (ns.map .int)) (.int (i : Int)) = some (.int ns[i]) := ix_list (by rw [List.getElem?_map, List.getElem?_eq_getElem h]; rfl)
theorem ix_intsT {ns : List Int} {i : Nat} (h : i < ns.length) : ixD (.tuple (ns.map .int)) (.int (i : Int)) = some (.int ns[i]) := ix_ints h
theorem set_ints {ns : List Int} {i : Nat} {v : Int} (h : i < ns.length) : setL (ns.map .int) (.int (i : Int)) (.int v) = pure ((ns.set i v).map .int) := by
  rw [setL_nat (by rw [List.length_map]; exact h), List.map_set]
def Cell (ns : List Int) : Prop := ns.length = 64 ∧ ∀ x ∈ ns, 0 ≤ x ∧ x < 2147483647
theorem Cell.set {ns : List Int} (h : Cell ns) (i : Nat) (v : Int) (hv : 0 ≤ v ∧ v < 2147483647) : Cell (ns.set i v) := by
  refine ⟨by rw [List.length_set]; exact h.1, fun x hx => ?_⟩
  rcases List.mem_or_eq_of_mem_set hx with z | z
  · exact h.2 x z
  · rw [z]; exact hv
theorem fm_ok (x : Int) : 0 ≤ x.fmod 2147483647 ∧ x.fmod 2147483647 < 2147483647 := ⟨Int.fmod_nonneg_of_pos _ (by decide), Int.fmod_lt_of_pos _ (by decide)⟩
theorem q_folded_l1 (kk : List D → M D) : ∀ (m k : Nat) (ns : List Int), 1 ≤ k → k + m = 64 → Cell ns → ∃ ns', Cell ns' ∧ m__law_folded_l1 kk (rngL (k : Int) m) (ns.map .int) = kk (ns'.map .int)
  | 0, k, ns, _, _, h => ⟨ns, h, by unfold m__law_folded_l1; simp [rngL]⟩
  | m + 1, k, ns, h1, h2, h => by
    have hk : k < ns.length := by rw [h.1]; omega
    have hk1 : k - 1 < ns.length := by omega
    have b1 := h.2 _ (List.getElem_mem hk1)
    have e1 := mul_int (A := 31) (B := 15) (a := ns[k - 1]) (b := 16807) (natAbs_lt b1.1 (by omega)) (by decide) (by omega)
    obtain ⟨ns', c', e⟩ := q_folded_l1 kk m (k + 1) (ns.set k ((ns[k] + ns[k - 1] * 16807).fmod 2147483647)) (by omega) (by omega) (h.set _ _ (fm_ok _))
    refine ⟨ns', c', ?_⟩
    rw [rng_succ]
    unfold m__law_folded_l1
    simp only [pure_bind, ix_ints hk, lift_some, sub_int]
    rw [show (k : Int) - 1 = ((k - 1 : Nat) : Int) by omega, ix_ints hk1]
    simp only [lift_some, pure_bind, e1, add_int, int_int, mod_int (show (2147483647 : Int) ≠ 0 by decide), set_ints hk]
    exact e
theorem q_folded_l0 (kk : List D → M D) : ∀ (cs : List Int) (k : Nat) (ns : List Int), Cell ns → ∃ ns', Cell ns' ∧ m__law_folded_l0 kk (enumL k (cs.map .int)) (ns.map .int) = kk (ns'.map .int)
  | [], k, ns, h => ⟨ns, h, by unfold m__law_folded_l0; rfl⟩
  | c :: cs, k, ns, h => by
    obtain ⟨i, hi, ei⟩ := fmod_idx (n := (k : Int)) (k := 64) (by omega)
    have hk : i < ns.length := by rw [h.1]; exact hi
    have b1 := h.2 _ (List.getElem_mem hk)
    have e1 := mul_int (A := 31) (B := 16) (a := ns[i]) (b := 48271) (natAbs_lt b1.1 (by omega)) (by decide) (by omega)
    obtain ⟨ns', c', e⟩ := q_folded_l0 kk cs (k + 1) (ns.set i ((ns[i] * 48271 + c).fmod 2147483647)) (h.set _ _ (fm_ok _))
    refine ⟨ns', c', ?_⟩
    rw [List.map_cons, enumL]
    unfold m__law_folded_l0
    rw [show ((64 : Nat) : Int) = 64 from rfl] at ei
    simp only [two_tup, pure_bind, int_int, lift_some, mod_int (show (64 : Int) ≠ 0 by decide), ei, ix_ints hk, e1, add_int, mod_int (show (2147483647 : Int) ≠ 0 by decide), set_ints hk]
    exact e
theorem q_folded (cs : List Int) : ∃ ns, Cell ns ∧ m__law_folded cs = pure (.list (ns.map .int)) := by
  have e0 : lcM (fun v : D => elM (pure true) (do let x ← pure (.int 17); let y ← pure v; lift (addD x y))) (rngL 0 64) = pure (((List.range 64).map fun i : Nat => (17 + (0 + (i : Int)))).map .int) := by
    unfold rngL
    rw [List.map_map]
    exact lcM_of (by simp) fun i _ => by
      rw [elM_true]
      simp only [pure_bind, add_int, lift_some]
      rfl
  have c0 : Cell ((List.range 64).map fun i : Nat => (17 + (0 + (i : Int)))) := by
    refine ⟨by simp, fun x hx => ?_⟩
    obtain ⟨i, h1, h2⟩ := List.mem_map.mp hx
    have := List.mem_range.mp h1
    omega
  unfold m__law_folded
  simp only [pure_bind, asN_int (show -1000000 ≤ (64 : Int) ∧ (64 : Int) ≤ 1000000 by omega), asN_int (show -1000000 ≤ (1 : Int) ∧ (1 : Int) ≤ 1000000 by omega)]
  rw [show (64 : Int).toNat = 64 from rfl, show ((64 : Int) - 1).toNat = 63 from rfl]
  simp only [pure_bind] at e0
  rw [e0, pure_bind]
  obtain ⟨n1, c1, e1⟩ := q_folded_l0 (fun v => m__law_folded_l1 (fun w => pure (.list w)) (rngL 1 63) v) cs 0 _ c0
  obtain ⟨n2, c2, e2⟩ := q_folded_l1 (fun w => pure (.list w)) 63 1 n1 (by omega) (by omega) c1
  refine ⟨n2, c2, ?_⟩
  rw [e1]
  exact e2
theorem q_begun2 (cs : List Int) (h : cs.length ≤ 1000) : m2__law_begun cs = pure (.list ((cs.map fun c => if 10 ^ 18 ≤ c then c else 0).map .int)) := by
  unfold m2__law_begun
  have e1 : powD (.int 10) (.int 18) = some (.int (10 ^ 18)) := rfl
  simp only [pure_bind]
  rw [lcM_of (g := fun c : Int => .int (if 10 ^ 18 ≤ c then c else 0)) h (fun c _ => by
    rw [elM_true]
    simp only [pure_bind, e1, lift_some, ge_int, asB_bool]
    by_cases hc : (10 ^ 18 : Int) ≤ c
    · rw [if_pos (decide_eq_true hc), pure_bind, if_pos hc]
    · rw [if_neg (by simpa using hc), pure_bind, if_neg hc])]
  rw [pure_bind, List.map_map]
  rfl
/-- where the script leads -/
theorem begun_ok (cs : List Int) (h : cs.length ≤ 63) : ∃ cells great : List Int, (∀ S, m1__law_begun cs S = .ok (.list (cells.map .int)) S) ∧ (∀ S, m2__law_begun cs S = .ok (.list (great.map .int)) S) ∧ cells.length ≠ great.length ∧ Good ⟨cells, great, 0⟩ := by
  obtain ⟨ns, c, e⟩ := q_folded cs
  refine ⟨ns, cs.map fun c => if 10 ^ 18 ≤ c then c else 0, fun S => ?_, fun S => ?_, ?_, c.1, c.2, fun x hx => ?_, Int.le_refl _⟩
  · unfold m1__law_begun
    simp only [pure_bind, List.map_nil, List.append_nil, fg1_giv, e]
    rfl
  · rw [q_begun2 cs (by omega)]
    rfl
  · rw [c.1, List.length_map]
    omega
  · obtain ⟨y, _, e2⟩ := List.mem_map.mp hx
    rw [← e2]
    split <;> omega
/-! ### one of some things -/
theorem run_of {ds : List D} (h0 : ds ≠ []) (h1 : ds.length ≤ 1000) : Run (m__law_of (.list ds)) 1 fun d => d ∈ ds := by
  unfold m__law_of
  simp only [pure_bind, len_list, lift_some, List.map_nil, List.append_nil, fm1_dat]
  have hl := List.length_pos_iff.mpr h0
  refine (Run.bind (k2 := 0) (run_draw (k := (ds.length : Int)) (by omega) (by omega)) fun d ⟨i, e, i0, i1⟩ => ?_)
  obtain ⟨j, rfl⟩ := Int.eq_ofNat_of_zero_le i0
  have hj : j < ds.length := by omega
  rw [e, ix_list (List.getElem?_eq_getElem hj), lift_some]
  exact .pure (List.getElem_mem hj)
theorem erase_map {α β : Type} (f : α → β) : ∀ (l : List α) (i : Nat), (l.map f).eraseIdx i = (l.eraseIdx i).map f
  | [], _ => rfl
  | _ :: _, 0 => rfl
  | a :: l, i + 1 => by
    rw [List.map_cons, List.eraseIdx_cons_succ, List.eraseIdx_cons_succ, List.map_cons, erase_map f l i]
theorem erase_perm {α : Type} : ∀ (l : List α) (i : Nat) (h : i < l.length), (l[i] :: l.eraseIdx i).Perm l
  | a :: l, 0, _ => .refl _
  | a :: l, i + 1, h => by
    rw [List.eraseIdx_cons_succ, List.getElem_cons_succ]
    exact (List.Perm.swap a _ _).trans ((erase_perm l i (by simpa using h)).cons a)
/-! ### a drawn order of numbers -/
def encN (ns : List Nat) : List D := ns.map fun n : Nat => .int (n : Int)
theorem run_order_l0 : ∀ (n : Nat) (left found : List Nat), left.length < n → left.length + found.length ≤ 1000 →
    Run (m__law_order_l0 (fun z : List D × List D => pure (.list z.2)) n (encN left, encN found)) left.length fun d => ∃ ns, d = .list (encN ns) ∧ ns.Perm (left ++ found)
  | 0, _, _, h, _ => absurd h (Nat.not_lt_zero _)
  | n + 1, left, found, h, hl => by
    unfold m__law_order_l0
    have hp : (PyData.list (encN left)).plain = true := plain_nats _
    have hd : (PyData.list (encN left)).depth ≤ 60 := depth_leads _
    simp only [ne_plain hp rfl hd (show (PyData.list []).depth ≤ 60 by simp [PyData.depth, PyData.depthAll]), lift_some, pure_bind, asB_bool]
    cases left with
    | nil =>
      rw [show (!PyData.eqv (.list (encN [])) (.list [])) = false by simp [encN, PyData.eqv, PyData.eqvAll]]
      exact .pure ⟨found, rfl, .refl _⟩
    | cons a r =>
      rw [show (!PyData.eqv (.list (encN (a :: r))) (.list [])) = true by rw [encN, eqv_leads_cons]; rfl]
      simp only [if_true, List.map_nil, List.append_nil, fm1_dat, bind_assoc]
      have hlen : (encN (a :: r)).length = (a :: r).length := by unfold encN; rw [List.length_map]
      rw [hlen]
      refine (Run.bind (k2 := r.length) (run_draw (k := ((a :: r).length : Int)) (by rw [List.length_cons]; omega) (by omega)) fun d ⟨i, ed, i0, i1⟩ => ?_).mono (by rw [List.length_cons]; omega) fun _ h => h
      obtain ⟨j, rfl⟩ := Int.eq_ofNat_of_zero_le i0
      have hj : j < (a :: r).length := by omega
      rw [ed]
      have hpop : popL (encN (a :: r)) (.int (j : Int)) = pure (.int (((a :: r)[j] : Nat) : Int), encN ((a :: r).eraseIdx j)) := by
        unfold popL
        dsimp only
        rw [if_pos ⟨by omega, by omega⟩]
        unfold encN
        rw [show ((j : Int)).toNat = j from rfl, List.getElem?_map, List.getElem?_eq_getElem hj, erase_map]
        rfl
      simp only [hpop, pure_bind]
      rw [pushL_of (by unfold encN; rw [List.length_map]; rw [List.length_cons] at hl; omega)]
      simp only [pure_bind]
      rw [show encN found ++ [PyData.int (((a :: r)[j] : Nat) : Int)] = encN (found ++ [(a :: r)[j]]) by unfold encN; simp]
      have hel : ((a :: r).eraseIdx j).length = r.length := by rw [List.length_eraseIdx, if_pos hj, List.length_cons]; omega
      have ih := run_order_l0 n ((a :: r).eraseIdx j) (found ++ [(a :: r)[j]]) (by rw [hel]; rw [List.length_cons] at h; omega) (by rw [hel, List.length_append, List.length_singleton]; rw [List.length_cons] at hl; omega)
      rw [hel] at ih
      refine ih.mono (Nat.le_refl _) fun d ⟨ns, e1, e2⟩ => ⟨ns, e1, e2.trans ?_⟩
      have p1 := erase_perm (a :: r) j hj
      have p2 : ((a :: r).eraseIdx j ++ (found ++ [(a :: r)[j]])).Perm ((a :: r)[j] :: ((a :: r).eraseIdx j ++ found)) := by
        rw [← List.append_assoc]
        exact List.perm_append_singleton _ _
      exact p2.trans (by rw [← List.cons_append]; exact p1.append_right found)
theorem run_order {n : Nat} (h : n ≤ 500) : Run (m__law_order (.int (n : Int))) n fun d => ∃ ns, d = .list (encN ns) ∧ ns.Perm (List.range n) := by
  unfold m__law_order
  simp only [pure_bind, asN_int (show -1000000 ≤ (n : Int) ∧ (n : Int) ≤ 1000000 by omega), okLen_of (show ([] : List D).length ≤ 1000 by simp)]
  have e : rngL 0 (n : Int).toNat = encN (List.range n) := by
    unfold rngL encN
    rw [show (n : Int).toNat = n by omega]
    apply List.map_congr_left
    intro i _
    show PyData.int _ = PyData.int _
    congr 1
    omega
  rw [e]
  have hl : (encN (List.range n)).length = n := by unfold encN; simp
  have q := run_order_l0 (n + 1) (List.range n) [] (by simp) (by simp; omega)
  rw [List.length_range, List.append_nil] at q
  rw [hl]
  exact q
/-! ### a drawn monomial -/
theorem run_mono_l0 {c : Nat} (h0 : 0 < c) (h1 : c ≤ 1000) : ∀ (m k t : Nat) (ns : List Int), ns.length = c → (∀ x ∈ ns, 0 ≤ x ∧ x ≤ t) →
    Run (m__law_monomial_l0 (.int (c : Int)) (fun w => do let ds ← (do let x ← pure (.list w); let xs ← pure []; pure (x :: xs)); lift (tupleD ds)) (rngL (k : Int) m) (ns.map .int)) m fun d => ∃ ns' : List Int, d = .tuple (ns'.map .int) ∧ ns'.length = c ∧ ∀ x ∈ ns', 0 ≤ x ∧ x ≤ t + m
  | 0, k, t, ns, hl, hb => by
    unfold m__law_monomial_l0
    simp only [rngL, List.range_zero, List.map_nil, pure_bind, tuple_list, lift_some]
    exact .pure ⟨ns, rfl, hl, fun x hx => by have := hb x hx; omega⟩
  | m + 1, k, t, ns, hl, hb => by
    rw [rng_succ]
    unfold m__law_monomial_l0
    simp only [pure_bind, List.map_nil, List.append_nil, fm1_dat]
    rw [Nat.add_comm m 1]
    refine .bind (run_draw (k := (c : Int)) (by omega) (by omega)) fun d ⟨i, e, i0, i1⟩ => ?_
    obtain ⟨j, rfl⟩ := Int.eq_ofNat_of_zero_le i0
    have hj : j < ns.length := by omega
    rw [e]
    simp only [ix_ints hj, lift_some, pure_bind, add_int, set_ints hj]
    have b := hb _ (List.getElem_mem hj)
    have ih := run_mono_l0 h0 h1 m (k + 1) (t + 1) (ns.set j (ns[j] + 1)) (by rw [List.length_set]; exact hl) (fun x hx => by
      rcases List.mem_or_eq_of_mem_set hx with z | z
      · have := hb x z; omega
      · omega)
    simp only [pure_bind] at ih
    refine ih.mono (Nat.le_refl _) fun d ⟨ns', e1, e2, e3⟩ => ⟨ns', e1, e2, fun x hx => by have := e3 x hx; omega⟩
theorem run_mono {c dg : Nat} (h1 : c ≤ 500) (h2 : dg ≤ 500) : Run (m__law_monomial (.int (c : Int)) (.int (dg : Int))) (1 + dg) fun d => ∃ ns : List Int, d = .tuple (ns.map .int) ∧ ns.length = c ∧ ∀ x ∈ ns, 0 ≤ x ∧ x ≤ dg := by
  unfold m__law_monomial
  have e0 : repL (.list [.int 0]) (.int (c : Int)) = pure ((List.replicate c (0 : Int)).map .int) := by
    show (if 0 ≤ (c : Int) ∧ (c : Int) ≤ 1000 ∧ ([PyData.int 0] : List D).length ≤ 1000 then pure (List.replicate (c : Int).toNat [PyData.int 0]).flatten else stuck) = _
    rw [if_pos ⟨by omega, by omega, by simp⟩, show (c : Int).toNat = c by omega]
    congr 1
    induction c with
    | zero => rfl
    | succ n ih => rw [List.replicate_succ, List.flatten_cons, List.replicate_succ, List.map_cons, ih (by omega)]; rfl
  simp only [pure_bind, mkLst_of (show ([PyData.int 0] : List D).length ≤ 1000 by simp), e0, gt_int, lift_some, asB_bool, add_int, List.map_nil, List.append_nil, fm1_dat]
  by_cases hc : 0 < c
  · rw [if_pos (decide_eq_true (by omega))]
    simp only [bind_assoc]
    refine .bind (run_draw (k := (dg : Int) + 1) (by omega) (by omega)) fun d ⟨i, e, i0, i1⟩ => ?_
    obtain ⟨j, rfl⟩ := Int.eq_ofNat_of_zero_le i0
    rw [e]
    simp only [asN_int (show -1000000 ≤ (j : Int) ∧ (j : Int) ≤ 1000000 by omega), pure_bind]
    have q := run_mono_l0 (c := c) hc (by omega) j 0 0 (List.replicate c 0) (by simp) (fun x hx => by
      have := List.eq_of_mem_replicate hx
      omega)
    simp only [pure_bind] at q
    rw [show (j : Int).toNat = j by omega]
    refine q.mono (by omega) fun d ⟨ns', e1, e2, e3⟩ => ⟨ns', e1, e2, fun x hx => by have := e3 x hx; omega⟩
  · have hc0 : c = 0 := by omega
    subst hc0
    rw [if_neg (by simp)]
    simp only [tuple_list, lift_some]
    exact .pure ⟨[], rfl, rfl, by simp⟩
end DL
namespace DL
open PySem PySem.Spec L2
/-! # PL, seventh part: an answer is like itself; orders judged. -/
mutual
def lens : D → Bool
  | .list xs => decide (xs.length ≤ 1000) && lensAll xs
  | .tuple xs => decide (xs.length ≤ 1000) && lensAll xs
  | _ => true
def lensAll : List D → Bool
  | [] => true
  | x :: xs => lens x && lensAll xs
end
theorem lens_get : ∀ {xs : List D} {d : D}, d ∈ xs → lensAll xs = true → lens d = true
  | x :: xs, d, h, q => by
    rw [lensAll, Bool.and_eq_true] at q
    rcases List.mem_cons.mp h with z | z
    · rw [z]; exact q.1
    · exact lens_get z q.2
theorem plain_get : ∀ {xs : List D} {d : D}, d ∈ xs → PyData.plainAll xs = true → d.plain = true
  | x :: xs, d, h, q => by
    rw [PyData.plainAll, Bool.and_eq_true] at q
    rcases List.mem_cons.mp h with z | z
    · rw [z]; exact q.1
    · exact plain_get z q.2
theorem depth_get : ∀ {xs : List D} {d : D}, d ∈ xs → d.depth ≤ PyData.depthAll xs
  | x :: xs, d, h => by
    rw [PyData.depthAll]
    rcases List.mem_cons.mp h with z | z
    · rw [z]; exact Nat.le_max_left _ _
    · exact Nat.le_trans (depth_get z) (Nat.le_max_right _ _)
/-- what can be likened with itself -/
structure Lk (n : Nat) (d : D) : Prop where
  pl : d.plain = true
  dp : d.depth < n
  ln : lens d = true
theorem like_loop {rf : D → D → M D} {ds : List D} {x : D} (hx : ∀ i, ixD x (.int (i : Int)) = ixD (.list ds) (.int (i : Int))) (h : ∀ d ∈ ds, rf d d = pure (.bool true)) (kk : Unit → M D) : ∀ (m k : Nat), k + m = ds.length → m__law_like_l0 rf x x kk (rngL (k : Int) m) () = kk ()
  | 0, k, _ => by unfold m__law_like_l0; simp [rngL]
  | m + 1, k, e => by
    have hk : k < ds.length := by omega
    rw [rng_succ]
    unfold m__law_like_l0
    simp only [pure_bind, hx, ix_list (List.getElem?_eq_getElem hk), lift_some, List.map_nil, List.append_nil, fn2_dat, h _ (List.getElem_mem hk), asB_bool, Bool.not_true]
    exact like_loop hx h kk m (k + 1) (by omega)
theorem like_self : ∀ (n : Nat) (d : D), Lk n d → r__law_like n d d = pure (.bool true)
  | 0, _, h => absurd h.dp (Nat.not_lt_zero _)
  | n + 1, d, h => by
    unfold r__law_like
    cases d with
    | none => simp
    | bool b =>
      simp only [pure_bind, is_bn, lift_some, asB_bool, PyData.isBool, if_neg Bool.false_ne_true, Bool.false_eq_true, if_false, if_true]
      rw [eq_plain rfl rfl (by simp [PyData.depth]) (by simp [PyData.depth])]
      simp [PyData.eqv]
    | int i => simp [PyData.isBool, PyData.isInt]
    | str s => simp [PyData.isBool, PyData.isInt, PyData.isStr]
    | list ds =>
      have h1 : ds.length ≤ 1000 := by have := h.ln; simp only [lens, Bool.and_eq_true, decide_eq_true_eq] at this; exact this.1
      have h2 : lensAll ds = true := by have := h.ln; simp only [lens, Bool.and_eq_true] at this; exact this.2
      have hd : PyData.depthAll ds < n := by have : PyData.depthAll ds + 1 < n + 1 := h.dp; omega
      have q := like_loop (rf := r__law_like n) (ds := ds) (x := .list ds) (fun _ => rfl) (fun d hm => like_self n d ⟨plain_get hm h.pl, Nat.lt_of_le_of_lt (depth_get hm) hd, lens_get hm h2⟩) (fun _ => pure (.bool true)) ds.length 0 (by omega)
      simp only [pure_bind, is_ln, lift_some, asB_bool, PyData.isBool, PyData.isInt, PyData.isStr, PyData.isTuple, PyData.isList, if_neg Bool.false_ne_true, Bool.false_eq_true, if_false, if_true, len_list, ne_int, ne_eq, not_true_eq_false, decide_false, Bool.not_true, asN_int (show -1000000 ≤ (ds.length : Int) ∧ (ds.length : Int) ≤ 1000000 by omega)]
      exact q
    | tuple ds =>
      have h1 : ds.length ≤ 1000 := by have := h.ln; simp only [lens, Bool.and_eq_true, decide_eq_true_eq] at this; exact this.1
      have h2 : lensAll ds = true := by have := h.ln; simp only [lens, Bool.and_eq_true] at this; exact this.2
      have hd : PyData.depthAll ds < n := by have : PyData.depthAll ds + 1 < n + 1 := h.dp; omega
      have q := like_loop (rf := r__law_like n) (ds := ds) (x := .tuple ds) (fun _ => rfl) (fun d hm => like_self n d ⟨plain_get hm h.pl, Nat.lt_of_le_of_lt (depth_get hm) hd, lens_get hm h2⟩) (fun _ => pure (.bool true)) ds.length 0 (by omega)
      simp only [pure_bind, is_tn, lift_some, asB_bool, PyData.isBool, PyData.isInt, PyData.isStr, PyData.isTuple, PyData.isList, if_neg Bool.false_ne_true, Bool.false_eq_true, if_false, if_true, len_tuple, ne_int, ne_eq, not_true_eq_false, decide_false, Bool.not_true, asN_int (show -1000000 ≤ (ds.length : Int) ∧ (ds.length : Int) ≤ 1000000 by omega)]
      exact q
    | dict kvs => exact absurd h.pl (by simp [PyData.plain])
theorem q_like {d : D} (h : Lk 8 d) : m__law_like d d = pure (.bool true) := like_self 8 d h
/-! ### rows of ints -/
theorem allB_ints : ∀ {ds : List D} {a b : Int}, (ds.all fun d => inB d a b) = true → ∃ ns : List Int, ds = ns.map .int ∧ ∀ x ∈ ns, a ≤ x ∧ x ≤ b
  | [], _, _, _ => ⟨[], rfl, by simp⟩
  | d :: ds, a, b, h => by
    rw [List.all_cons, Bool.and_eq_true] at h
    obtain ⟨ns, e, q⟩ := allB_ints h.2
    cases d with
    | int i =>
      have hi : a ≤ i ∧ i ≤ b := by have := h.1; simpa [inB] using this
      refine ⟨i :: ns, by rw [e]; rfl, fun x hx => ?_⟩
      rcases List.mem_cons.mp hx with z | z
      · rw [z]; exact hi
      · exact q x z
    | _ => exact absurd h.1 (by simp [inB])
def tlen : D → Nat
  | .tuple ds => ds.length
  | _ => 0
def okRow (c : Nat) (r : D) : Bool := allB r (-100) 100 && decide (tlen r = c)
theorem okRows_ints {c : Nat} : ∀ {rs : List D}, (rs.all (okRow c)) = true → ∃ rows : List (List Int), rs = rows.map encI ∧ ∀ r ∈ rows, r.length = c ∧ ∀ x ∈ r, -100 ≤ x ∧ x ≤ 100
  | [], _ => ⟨[], rfl, by simp⟩
  | r :: rs, h => by
    rw [List.all_cons, Bool.and_eq_true] at h
    obtain ⟨rows, e, q⟩ := okRows_ints h.2
    have h1 := h.1
    unfold okRow at h1
    rw [Bool.and_eq_true] at h1
    cases r with
    | tuple ds =>
      obtain ⟨ns, e1, q1⟩ := allB_ints (show (ds.all fun d => inB d (-100) 100) = true from h1.1)
      have hl : ds.length = c := of_decide_eq_true h1.2
      refine ⟨ns :: rows, by rw [e, e1]; rfl, fun x hx => ?_⟩
      rcases List.mem_cons.mp hx with z | z
      · rw [z]; exact ⟨by rw [e1, List.length_map] at hl; exact hl, q1⟩
      · exact q x z
    | _ => exact absurd h1.1 (by simp [allB])
/-- the numbers of a column that are not 0 -/
def colN (rows : List (List Int)) (j : Nat) : List Int := (rows.map fun r => r.getD j 0).filter fun x => decide (x ≠ 0)
def colOk (rows : List (List Int)) (j : Nat) : Bool := match colN rows j with
  | [] => false
  | x :: _ => decide (0 < x)
section
variable {c : Nat} {rows : List (List Int)}
theorem q_col {j : Nat} (hl : rows.length ≤ 1000) (hj : ∀ r ∈ rows, j < r.length) {F : D → M (Option D)} (hF : ∀ d : D, F d = elM (do let x ← lift (ixD d (.int (j : Int))); let z ← lift (neD' x (.int 0)); asB z) (lift (ixD d (.int (j : Int))))) : lcM F (rows.map encI) = pure ((colN rows j).map .int) := by
  have q := lcM_if (h := encI) (f := F) (p := fun r => decide (r.getD j 0 ≠ 0)) (g := fun r => .int (r.getD j 0)) (l := rows) hl (fun r hr => by
    have hjr := hj r hr
    have e : r.getD j 0 = r[j] := by rw [List.getD_eq_getElem?_getD, List.getElem?_eq_getElem hjr]; rfl
    rw [hF]
    unfold encI
    simp only [ix_intsT hjr, lift_some, pure_bind, ne_int, asB_bool, elM_pure, e])
  rw [q]
  congr 1
  unfold colN
  rw [List.filter_map, List.map_map]
  rfl
theorem q_first_above {j : Nat} (hl : rows.length ≤ 1000) (hj : ∀ r ∈ rows, j < r.length) : m_first_above (.tuple (rows.map encI)) (.int (j : Int)) = pure (.bool (colOk rows j)) := by
  unfold m_first_above
  simp only [pure_bind, asSq_tuple]
  rw [q_col hl hj (fun d => rfl), pure_bind, mkLst_of (by simp), pure_bind, ne_plain (by show PyData.plainAll _ = true; exact plain_ints _) rfl (by show PyData.depthAll _ + 1 ≤ 60; rw [depth_ints]; omega) (by simp [PyData.depth, PyData.depthAll]), lift_some, pure_bind, asB_bool, pure_bind]
  unfold colOk
  cases colN rows j with
  | nil => simp [PyData.eqv, PyData.eqvAll]
  | cons x xs => simp [PyData.eqv, PyData.eqvAll, ix_list0]
theorem q_due_l1 (hl : rows.length ≤ 1000) (kk : Unit → M D) : ∀ (m k : Nat), (∀ r ∈ rows, k + m ≤ r.length) →
    m__law_due_l1 (.tuple (rows.map encI)) kk (rngL (k : Int) m) () = if (List.range' k m).all (colOk rows) = true then kk () else pure (.str "no order")
  | 0, k, _ => by unfold m__law_due_l1; simp [rngL]
  | m + 1, k, h => by
    rw [rng_succ, List.range'_succ]
    unfold m__law_due_l1
    simp only [pure_bind, asSq_tuple]
    rw [q_col hl (fun r hr => by have := h r hr; omega) (fun d => rfl), pure_bind, mkLst_of (by simp), pure_bind, eq_plain (by show PyData.plainAll _ = true; exact plain_ints _) rfl (by show PyData.depthAll _ + 1 ≤ 60; rw [depth_ints]; omega) (by simp [PyData.depth, PyData.depthAll]), lift_some, pure_bind, asB_bool, pure_bind]
    have ih := q_due_l1 hl kk m (k + 1) (fun r hr => by have := h r hr; omega)
    rw [show ((k + 1 : Nat) : Int) = (k : Int) + 1 by omega] at ih
    rw [List.all_cons]
    have hne : ∀ x ∈ colN rows k, x ≠ 0 := fun x hx => of_decide_eq_true (List.mem_filter.mp hx).2
    cases e : colN rows k with
    | nil =>
      have hc : colOk rows k = false := by unfold colOk; rw [e]
      rw [hc]
      simp [PyData.eqv, PyData.eqvAll]
    | cons x xs =>
      have hc : colOk rows k = decide (0 < x) := by unfold colOk; rw [e]
      have hx := hne x (by rw [e]; exact List.mem_cons_self)
      have ef : PyData.eqv (.list ((x :: xs).map .int)) (.list []) = false := by simp [PyData.eqv, PyData.eqvAll]
      rw [hc, ef]
      simp only [Bool.false_eq_true, if_false, List.map_cons, ix_list0, lift_some, pure_bind, lt_int, asB_bool]
      by_cases hp : 0 < x
      · simp only [decide_eq_false (show ¬ x < 0 by omega), decide_eq_true hp, Bool.true_and, Bool.false_eq_true, if_false]
        exact ih
      · simp only [decide_eq_true (show x < 0 by omega), decide_eq_false hp, Bool.false_and]
        simp
theorem q_due_l0 (kk : Unit → M D) : ∀ (rs : List D), (∀ r ∈ rs, Short r) → m__law_due_l0 (.int (c : Int)) kk rs () = if rs.all (okRow c) = true then kk () else pure (.str "weights")
  | [], _ => by unfold m__law_due_l0; simp
  | r :: rs, h => by
    have hs := h r List.mem_cons_self
    unfold m__law_due_l0
    rw [List.all_cons]
    have ih := q_due_l0 kk rs (fun x hx => h x (List.mem_cons_of_mem _ hx))
    cases r with
    | tuple ds =>
      have hs : ds.length ≤ 1000 := hs
      simp only [pure_bind, PyData.isTuple, asB_bool, Bool.not_true, Bool.false_eq_true, if_false, len_tuple, lift_some, ne_int, asSq_tuple]
      have e1 : okRow c (.tuple ds) = ((ds.all fun d => inB d (-100) 100) && decide (ds.length = c)) := rfl
      rw [e1]
      by_cases hl : ds.length = c
      · rw [decide_eq_true hl, Bool.and_true, decide_eq_false (show ¬ ((ds.length : Int) ≠ (c : Int)) by omega)]
        simp only [Bool.false_eq_true, if_false, bind_assoc, neg_int, lift_some, pure_bind, List.map_nil, List.append_nil, fn3_dat, q_within, asB_bool, mkLst_of (show ([] : List D).length ≤ 1000 by simp)]
        have q := lcM_pure (f := fun v => elM (pure (!inB v (-100) 100)) (pure (.int 1))) (g := fun v => if (!inB v (-100) 100) = true then some (.int 1) else none) hs (fun d _ => elM_pure _ _)
        rw [q, pure_bind]
        cases ea : (ds.all fun d => inB d (-100) 100) with
        | true =>
          have en : ds.filterMap (fun v => if (!inB v (-100) 100) = true then some (PyData.int 1) else none) = [] := by
            rw [List.filterMap_eq_nil_iff]
            intro d hd
            have := List.all_eq_true.mp ea d hd
            rw [this]; rfl
          rw [en, ne_plain rfl rfl (by simp [PyData.depth, PyData.depthAll]) (by simp [PyData.depth, PyData.depthAll])]
          simp only [lift_some, pure_bind, asB_bool, Bool.true_and]
          simpa [PyData.eqv, PyData.eqvAll] using ih
        | false =>
          obtain ⟨d, hd, hf⟩ := List.all_eq_false.mp ea
          have en : ∃ m : Nat, ds.filterMap (fun v => if (!inB v (-100) 100) = true then some (PyData.int 1) else none) = (List.replicate (m + 1) (1 : Int)).map .int := by
            have hall : ∀ y ∈ ds.filterMap (fun v => if (!inB v (-100) 100) = true then some (PyData.int 1) else none), y = .int 1 := fun y hy => by
              obtain ⟨v, _, hv⟩ := List.mem_filterMap.mp hy
              split at hv
              · cases hv; rfl
              · cases hv
            have hmem : PyData.int 1 ∈ ds.filterMap (fun v => if (!inB v (-100) 100) = true then some (PyData.int 1) else none) := List.mem_filterMap.mpr ⟨d, hd, by rw [if_pos (by simpa using hf)]⟩
            cases hh : ds.filterMap (fun v => if (!inB v (-100) 100) = true then some (PyData.int 1) else none) with
            | nil => rw [hh] at hmem; cases hmem
            | cons y ys =>
              rw [hh] at hall
              refine ⟨ys.length, ?_⟩
              rw [List.map_replicate]
              exact List.eq_replicate_iff.mpr ⟨by simp, hall⟩
          obtain ⟨m, hm⟩ := en
          rw [hm, ne_plain (by show PyData.plainAll _ = true; exact plain_ints _) rfl (by show PyData.depthAll _ + 1 ≤ 60; rw [depth_ints]; omega) (by simp [PyData.depth, PyData.depthAll])]
          simp [List.replicate_succ, PyData.eqv, PyData.eqvAll]
      · rw [decide_eq_false hl, decide_eq_true (show ((ds.length : Int) ≠ (c : Int)) by omega)]
        simp
    | _ => simp [PyData.isTuple, okRow, allB]
def wOk (c : Nat) : D → Bool
  | .tuple rs => decide (rs.length ≤ 8) && rs.all (okRow c)
  | _ => false
theorem q_are_weights (w : D) (h : ∀ rs, w = .tuple rs → ∀ r ∈ rs, Short r) : m_are_weights (.int (c : Int)) w = pure (.bool (wOk c w)) := by
  unfold m_are_weights wOk
  simp only [pure_bind, List.map_cons, List.map_nil, List.append_nil, List.cons_append, List.nil_append, fn2_dat, q_is_row, asB_bool]
  cases w with
  | tuple rs =>
    simp only [PyData.isTuple, Bool.not_true, Bool.false_eq_true, if_false, len_tuple, lift_some, pure_bind, g_MOST_ROWS, gt_int, asB_bool, asSq_tuple]
    by_cases hl : rs.length ≤ 8
    · rw [decide_eq_false (show ¬ ((8 : Int) < (rs.length : Int)) by omega), decide_eq_true hl, Bool.true_and]
      simp only [Bool.false_eq_true, if_false]
      rw [lcM_map (g := fun r => .bool (okRow c r)) (by omega) (fun r hr => by
        have hs := h rs rfl r hr
        rw [elM_true]
        simp only [g_MOST_WEIGHT, neg_int, lift_some, pure_bind, List.map_nil, List.append_nil, fn3_dat, q_are_wholes r _ _ hs, asB_bool, bind_assoc]
        cases r with
        | tuple ds =>
          unfold okRow
          cases allB (.tuple ds) (-100) 100 with
          | true =>
            simp only [if_true, len_tuple, lift_some, pure_bind, eq_int, Bool.true_and]
            congr 3
            show decide _ = decide (ds.length = c)
            exact decide_eq_decide.mpr (by omega)
          | false => simp
        | _ => simp [okRow, allB])]
      rw [pure_bind]
      have e : rs.map (fun r => PyData.bool (okRow c r)) = (rs.map (okRow c)).map .bool := by rw [List.map_map]; rfl
      simp only [pure_bind, e, all_bools, lift_some, List.all_map]
      rfl
    · rw [decide_eq_true (show ((8 : Int) < (rs.length : Int)) by omega), decide_eq_false hl, Bool.false_and]
      simp
  | _ => simp [PyData.isTuple]
end
end DL
namespace DL
open PySem PySem.Spec L2
/-! # PL, eighth part: the fault of an order. -/
def asRows (rs : List D) : List (List Int) := rs.map fun r => match r with
  | .tuple ds => ds.map fun d => match d with
    | .int i => i
    | _ => 0
  | _ => []
theorem unint : ∀ (ns : List Int), ((ns.map PyData.int).map fun d : D => match d with | .int i => i | _ => 0) = ns
  | [] => rfl
  | n :: ns => by
    rw [List.map_cons, List.map_cons, unint ns]
theorem asRows_enc : ∀ (rows : List (List Int)), asRows (rows.map encI) = rows
  | [] => rfl
  | r :: rows => by
    have e : asRows ((r :: rows).map encI) = ((r.map PyData.int).map fun d : D => match d with | .int i => i | _ => 0) :: asRows (rows.map encI) := rfl
    rw [e, unint, asRows_enc rows]
def goodRows (c : Nat) (rows : List (List Int)) : Bool := (List.range' 0 c).all (colOk rows) && decide (RK.rank rows c = c)
def dueW (c : Nat) (w : D) : Option Str := match w with
  | .tuple rs => if (decide (rs.length ≤ 8) && rs.all (okRow c)) = true then (if goodRows c (asRows rs) = true then none else some "no order") else some "weights"
  | _ => some "weights"
def due (c : Nat) (v : D) : Option Str := match v with
  | .tuple [.str s] => if s = "lex" ∨ s = "degree" then none else some "form"
  | .tuple [.str s, w] => if s = "out" then (if inB w 0 c = true then none else some "out") else if s = "weights" then dueW c w else some "form"
  | _ => some "form"
def dueD : Option Str → D
  | none => .none
  | some s => .str s
def faultD : Option Str → D
  | none => .tuple []
  | some s => .tuple [.str s]
structure SaneT (s : Str) (xs : List D) : Prop where
  pl : (PyData.tuple (.str s :: xs)).plain = true
  dp : (PyData.tuple (.str s :: xs)).depth ≤ 60
  sh : ∀ w, xs = [w] → ∀ rs, w = .tuple rs → ∀ r ∈ rs, Short r
def Sane (v : D) : Prop := ∀ s xs, v = .tuple (.str s :: xs) → SaneT s xs
theorem eq_cons_nil (x : D) (xs : List D) : eqD (.tuple (x :: xs)) (.tuple []) = some (.bool false) := by
  unfold eqD eqP
  split
  · simp [PyData.eqv, PyData.eqvAll]
  · simp
theorem eq_nil_nil : eqD (.tuple []) (.tuple []) = some (.bool true) := by
  rw [eq_plain rfl rfl (by simp [PyData.depth, PyData.depthAll]) (by simp [PyData.depth, PyData.depthAll])]
  simp [PyData.eqv, PyData.eqvAll]
theorem anyLD {s : Str} {xs : List D} : ([PyData.tuple [.str "lex"], .tuple [.str "degree"]].any fun z => PyData.eqv z (.tuple (.str s :: xs))) = (decide (s = "lex" ∨ s = "degree") && xs.isEmpty) := by
  cases xs with
  | nil =>
    simp only [List.any_cons, List.any_nil, PyData.eqv, PyData.eqvAll, Bool.and_true, Bool.or_false, List.isEmpty_nil]
    by_cases h1 : s = "lex"
    · subst h1; simp
    · by_cases h2 : s = "degree"
      · subst h2; simp
      · simp [h1, h2, Ne.symm h1, Ne.symm h2]
  | cons x xs => simp [PyData.eqv, PyData.eqvAll]
theorem in_LD_list {s : Str} {xs : List D} (h : SaneT s xs) : inD (.tuple (.str s :: xs)) (.list [.tuple [.str "lex"], .tuple [.str "degree"]]) = some (.bool (decide (s = "lex" ∨ s = "degree") && xs.isEmpty)) := by
  unfold inD inP
  dsimp only
  rw [if_pos ⟨by simp [PyData.plainAll, PyData.plain], h.pl, h.dp⟩, anyLD]
  rfl
theorem in_LD_tuple {s : Str} {xs : List D} (h : SaneT s xs) : inD (.tuple (.str s :: xs)) (.tuple [.tuple [.str "lex"], .tuple [.str "degree"]]) = some (.bool (decide (s = "lex" ∨ s = "degree") && xs.isEmpty)) := by
  unfold inD inP
  dsimp only
  rw [if_pos ⟨by simp [PyData.plainAll, PyData.plain], h.pl, h.dp⟩, anyLD]
  rfl
theorem anyOW {s : Str} : ([PyData.str "out", .str "weights"].any fun z => PyData.eqv z (.str s)) = decide (s = "out" ∨ s = "weights") := by
  simp only [List.any_cons, List.any_nil, eqv_str, Bool.or_false]
  by_cases h1 : s = "out"
  · subst h1; simp
  · by_cases h2 : s = "weights"
    · subst h2; simp
    · simp [h1, h2, Ne.symm h1, Ne.symm h2]
theorem notIn_OW_list {s : Str} : notInD (.str s) (.list [.str "out", .str "weights"]) = some (.bool (!decide (s = "out" ∨ s = "weights"))) := by
  unfold notInD inP
  dsimp only
  rw [if_pos ⟨by simp [PyData.plainAll, PyData.plain], rfl, by simp [PyData.depth]⟩, anyOW]
  rfl
theorem notIn_OW_tuple {s : Str} : notInD (.str s) (.tuple [.str "out", .str "weights"]) = some (.bool (!decide (s = "out" ∨ s = "weights"))) := by
  unfold notInD inP
  dsimp only
  rw [if_pos ⟨by simp [PyData.plainAll, PyData.plain], rfl, by simp [PyData.depth]⟩, anyOW]
  rfl
section
variable {c : Nat}
theorem q_dueW (hc : c ≤ 4) (w : D) (h : ∀ rs, w = .tuple rs → ∀ r ∈ rs, Short r) : (do
      let k ← (do let k ← (do let k ← (do let x ← (do let d ← (pure w : M D); pure (PyData.bool (PyData.isTuple d))); asB x); pure (!k)); if k = true then pure true else (do let x ← (do let ds ← (do let x ← (pure w : M D); let xs ← pure []; pure (x :: xs)); lift (lenD ds)); let y ← (pure (PyData.int 8)); let z ← lift (gtD x y); asB z))
      if k = true then (pure (PyData.str "weights") : M D) else (do let ds ← (do let x ← (pure w : M D); asSq x); (m__law_due_l0 (PyData.int (c : Int)) (fun (_ : Unit) => (do let ds ← (do let x ← (pure (PyData.int (c : Int)) : M D); let n ← asN x; pure (rngL 0 n.toNat)); (m__law_due_l1 w (fun (_ : Unit) => (do let k ← (do let x ← (do let as ← (do let x ← (pure w : M D); let xs ← (do let x ← (pure (PyData.int (c : Int)) : M D); let xs ← pure []; pure (Ar.dat x :: xs)); pure (Ar.dat x :: xs)); fn2 m__law_rank (as ++ (([] : List D)).map Ar.dat)); let y ← (pure (PyData.int (c : Int))); let z ← lift (eqD x y); asB z); if k = true then (pure PyData.none) else (pure (PyData.str "no order"))))) ds ()))) ds ())) = pure (dueD (dueW c w)) := by
  cases w with
  | tuple rs =>
    simp only [pure_bind, PyData.isTuple, asB_bool, Bool.not_true, Bool.false_eq_true, if_false, len_tuple, lift_some, gt_int, asSq_tuple]
    unfold dueW
    dsimp only
    by_cases hl : rs.length ≤ 8
    · rw [decide_eq_false (show ¬ ((8 : Int) < (rs.length : Int)) by omega), decide_eq_true hl, Bool.true_and]
      simp only [Bool.false_eq_true, if_false]
      rw [q_due_l0 _ rs (h rs rfl)]
      by_cases ha : rs.all (okRow c) = true
      · rw [if_pos ha, if_pos ha]
        obtain ⟨rows, e, hr⟩ := okRows_ints ha
        have hrl : rows.length ≤ 1000 := by rw [e, List.length_map] at hl; omega
        rw [e, asRows_enc]
        simp only [asN_int (show -1000000 ≤ (c : Int) ∧ (c : Int) ≤ 1000000 by omega), pure_bind]
        rw [show (c : Int).toNat = c by omega, show (0 : Int) = ((0 : Nat) : Int) from rfl, q_due_l1 hrl _ c 0 (fun r hm => by rw [(hr r hm).1]; omega)]
        unfold goodRows
        by_cases hcol : (List.range' 0 c).all (colOk rows) = true
        · rw [if_pos hcol, hcol, Bool.true_and]
          simp only [List.map_nil, List.append_nil, fn2_dat, q_lrank hc hrl hr, pure_bind, eq_int, lift_some, asB_bool]
          by_cases hk : RK.rank rows c = c
          · rw [decide_eq_true (by omega), decide_eq_true hk]; rfl
          · rw [decide_eq_false (by omega), decide_eq_false hk]; rfl
        · rw [if_neg hcol, Bool.eq_false_iff.mpr hcol, Bool.false_and]
          rfl
      · rw [if_neg ha, if_neg ha]
        rfl
    · rw [decide_eq_true (show ((8 : Int) < (rs.length : Int)) by omega), decide_eq_false hl, Bool.false_and]
      simp [dueD]
  | _ => simp [PyData.isTuple, dueW, dueD]
theorem q_due (hc : c ≤ 4) (v : D) (h : Sane v) : m__law_due (.int (c : Int)) v = pure (dueD (due c v)) := by
  unfold m__law_due
  cases v with
  | tuple ds =>
    cases ds with
    | nil => simp [PyData.isTuple, mkTup_of, eq_nil_nil, due, dueD]
    | cons x xs =>
      simp only [pure_bind, PyData.isTuple, asB_bool, Bool.not_true, Bool.false_eq_true, if_false, mkTup_of (show ([] : List D).length ≤ 1000 by simp), eq_cons_nil, lift_some, ix_tuple0]
      cases x with
      | str s =>
        have hs := h s xs rfl
        simp only [PyData.isStr, Bool.not_true, Bool.false_eq_true, if_false, pure_bind, mkTup_of (show ([PyData.str "lex"] : List D).length ≤ 1000 by simp), mkTup_of (show ([PyData.str "degree"] : List D).length ≤ 1000 by simp), mkLst_of (show ([PyData.tuple [.str "lex"], .tuple [.str "degree"]] : List D).length ≤ 1000 by simp), mkLst_of (show ([PyData.str "out", .str "weights"] : List D).length ≤ 1000 by simp), in_LD_list hs, lift_some, asB_bool, len_tuple, ne_int, notIn_OW_list, eq_str]
        match xs, hs with
        | [], hs =>
          by_cases hld : s = "lex" ∨ s = "degree"
          · simp [hld, due, dueD]
          · simp [hld, due, dueD]
        | [w], hs =>
          have e0 : (decide (s = ("lex" : Str) ∨ s = "degree") && [w].isEmpty) = false := by simp
          have e1 : decide ((([PyData.str s, w].length : Nat) : Int) ≠ 2) = false := by simp
          rw [e0, e1]
          simp only [Bool.false_eq_true, if_false, ix_tuple1, lift_some, pure_bind]
          by_cases ho : s = "out"
          · subst ho
            simp only [true_or, decide_true, Bool.not_true, Bool.false_eq_true, if_false, if_true, pure_bind, List.map_nil, List.append_nil, fn3_dat, q_within, asB_bool, due]
            by_cases hi : inB w 0 c = true
            · simp [hi, dueD]
            · simp [hi, dueD]
          · by_cases hw : s = "weights"
            · subst hw
              have hno : ¬ ((("weights" : Str)) = "out") := by decide
              simp only [or_true, decide_true, Bool.not_true, Bool.false_eq_true, if_false, pure_bind, decide_eq_false hno, due, if_neg hno, if_true]
              have q := q_dueW hc w (hs.sh w rfl)
              simp only [pure_bind, PyData.isTuple, asB_bool] at q
              exact q
            · simp [ho, hw, due, dueD]
        | w :: z :: zs, hs =>
          have e0 : (decide (s = ("lex" : Str) ∨ s = "degree") && (w :: z :: zs).isEmpty) = false := by simp
          have e1 : decide ((((PyData.str s :: w :: z :: zs).length : Nat) : Int) ≠ 2) = true := by simp; omega
          rw [e0, e1]
          simp [due, dueD]
      | _ => simp [PyData.isStr, due, dueD]
  | _ => simp [PyData.isTuple, due, dueD]
theorem q_fault (hc : c ≤ 4) (v : D) (h : Sane v) : m_order_fault (.int (c : Int)) v = pure (faultD (due c v)) := by
  unfold m_order_fault
  cases v with
  | tuple ds =>
    cases ds with
    | nil => simp [PyData.isTuple, mkTup_of, eq_nil_nil, due, faultD, q_is_row]
    | cons x xs =>
      simp only [pure_bind, List.map_cons, List.map_nil, List.append_nil, List.cons_append, List.nil_append, fn2_dat, q_is_row, PyData.isTuple, asB_bool, Bool.not_true, Bool.false_eq_true, if_false, mkTup_of (show ([] : List D).length ≤ 1000 by simp), eq_cons_nil, lift_some, ix_tuple0]
      cases x with
      | str s =>
        have hs := h s xs rfl
        simp only [PyData.isStr, Bool.not_true, Bool.false_eq_true, if_false, pure_bind, mkTup_of (show ([PyData.str "lex"] : List D).length ≤ 1000 by simp), mkTup_of (show ([PyData.str "degree"] : List D).length ≤ 1000 by simp), mkTup_of (show ([PyData.tuple [.str "lex"], .tuple [.str "degree"]] : List D).length ≤ 1000 by simp), mkTup_of (show ([PyData.str "out", .str "weights"] : List D).length ≤ 1000 by simp), in_LD_tuple hs, lift_some, asB_bool, len_tuple, ne_int, notIn_OW_tuple, eq_str]
        match xs, hs with
        | [], hs =>
          by_cases hld : s = "lex" ∨ s = "degree"
          · simp [hld, due, faultD]
          · simp [hld, due, faultD, mkTup_of]
        | [w], hs =>
          have e0 : (decide (s = ("lex" : Str) ∨ s = "degree") && [w].isEmpty) = false := by simp
          have e1 : decide ((([PyData.str s, w].length : Nat) : Int) ≠ 2) = false := by simp
          rw [e0, e1]
          simp only [Bool.false_eq_true, if_false, ix_tuple1, lift_some, pure_bind]
          by_cases ho : s = "out"
          · subst ho
            simp only [true_or, decide_true, Bool.not_true, Bool.false_eq_true, if_false, if_true, pure_bind, List.map_nil, List.append_nil, fn3_dat, q_is_whole, asB_bool, due]
            by_cases hi : inB w 0 c = true
            · simp [hi, faultD]
            · simp [hi, faultD, mkTup_of]
          · by_cases hw : s = "weights"
            · subst hw
              have hno : ¬ ((("weights" : Str)) = "out") := by decide
              simp only [List.map_nil, List.append_nil, fn1_dat, fn2_dat, fn3_dat, or_true, decide_true, Bool.not_true, Bool.false_eq_true, if_false, pure_bind, decide_eq_false hno, due, if_neg hno, if_true, q_are_weights w (hs.sh w rfl), asB_bool]
              unfold dueW
              cases w with
              | tuple rs =>
                dsimp only
                by_cases ha : (decide (rs.length ≤ 8) && rs.all (okRow c)) = true
                · have hwk : wOk c (.tuple rs) = true := ha
                  rw [if_pos ha, hwk]
                  rw [Bool.and_eq_true] at ha
                  obtain ⟨rows, e, hr⟩ := okRows_ints ha.2
                  have hrl : rows.length ≤ 1000 := by have := of_decide_eq_true ha.1; rw [e, List.length_map] at this; omega
                  rw [e, asRows_enc]
                  simp only [Bool.not_true, Bool.false_eq_true, if_false, if_true, q_rank hc hrl hr, pure_bind, lt_int, lift_some, asB_bool, asN_int (show -1000000 ≤ (c : Int) ∧ (c : Int) ≤ 1000000 by omega)]
                  have hle := RK.rank_le rows c
                  have ecol : lcM (fun v => elM (pure true) (m_first_above (.tuple (rows.map encI)) v)) (rngL 0 (c : Int).toNat) = pure (((List.range' 0 c).map (colOk rows)).map .bool) := by
                    have er : rngL 0 (c : Int).toNat = (List.range' 0 c).map fun i : Nat => PyData.int (i : Int) := by
                      unfold rngL
                      rw [show (c : Int).toNat = c by omega, ← List.range_eq_range']
                      apply List.map_congr_left
                      intro i _
                      show PyData.int _ = PyData.int _
                      congr 1
                      omega
                    rw [er, List.map_map]
                    refine lcM_of (by rw [List.length_range']; omega) fun i hi => ?_
                    rw [List.mem_range'_1] at hi
                    rw [elM_true, q_first_above hrl (fun r hm => by rw [(hr r hm).1]; omega), pure_bind]
                    rfl
                  unfold goodRows
                  rw [ecol]
                  simp only [pure_bind, all_bools, lift_some, asB_bool, List.all_map]
                  by_cases hk : RK.rank rows c = c
                  · rw [decide_eq_false (show ¬ ((RK.rank rows c : Int) < (c : Int)) by omega), decide_eq_true hk, Bool.and_true]
                    have ef : (id ∘ colOk rows) = colOk rows := rfl
                    rw [ef]
                    cases (List.range' 0 c).all (colOk rows) <;> simp [faultD, mkTup_of]
                  · rw [decide_eq_true (show ((RK.rank rows c : Int) < (c : Int)) by omega), decide_eq_false hk, Bool.and_false]
                    simp [faultD, mkTup_of]
                · have hwk : wOk c (.tuple rs) = false := Bool.eq_false_iff.mpr ha
                  rw [if_neg ha, hwk]
                  simp [faultD, mkTup_of]
              | _ => simp [faultD, mkTup_of, wOk]
            · simp [ho, hw, due, faultD, mkTup_of]
        | w :: z :: zs, hs =>
          have e0 : (decide (s = ("lex" : Str) ∨ s = "degree") && (w :: z :: zs).isEmpty) = false := by simp
          have e1 : decide ((((PyData.str s :: w :: z :: zs).length : Nat) : Int) ≠ 2) = true := by simp; omega
          rw [e0, e1]
          simp [due, faultD, mkTup_of]
      | _ => simp [PyData.isStr, due, faultD, mkTup_of]
  | _ => simp [PyData.isTuple, due, faultD, q_is_row, mkTup_of]
end
end DL
namespace DL
open PySem PySem.Spec L2
/-! # PL, ninth part: what is heard; drawn orders and values. -/
theorem heard_pure {ls : List (Str × Str × Str)} {m : M D} {d : D} (h : m = pure d) : heardM ls m = (pure (PyData.list [.str "told", d]) : M D) := by
  rw [h]
  rfl
theorem heard_raise {ls : List (Str × Str × Str)} {m : M D} {cn n tag : Str} {x : D} (h : m = raise cn n x) (hf : (ls.find? fun q => decide (q.1 = cn ∧ q.2.1 = n)) = some (cn, n, tag)) : heardM ls m = (pure (PyData.list [.str tag, x]) : M D) := by
  rw [h]
  funext S
  show (match ls.find? fun q => decide (q.1 = cn ∧ q.2.1 = n) with
    | some q => Res.ok (PyData.list [.str q.2.2, x]) S
    | none => .stuck) = _
  rw [hf]
  rfl
theorem q_need_count {c : Nat} (hc : c ≤ 4) : m_need_count (.int (c : Int)) = pure (.int (c : Int)) := by
  unfold m_need_count
  simp only [pure_bind, g_MOST_VARIABLES, List.map_nil, List.append_nil, fn3_dat, q_is_whole, asB_bool, inB]
  rw [decide_eq_true (show (0 : Int) ≤ (c : Int) by omega), decide_eq_true (show (c : Int) ≤ 4 by omega)]
  rfl
def orderOr (v : D) : Option Str → M D
  | none => pure v
  | some s => raise "BadOrder" "place" (.str s)
theorem q_need_order {c : Nat} (hc : c ≤ 4) (v : D) (h : Sane v) : m_need_order (.int (c : Int)) v = orderOr v (due c v) := by
  unfold m_need_order
  simp only [pure_bind, List.map_nil, List.append_nil, fn1_dat, fn2_dat, q_need_count hc, q_fault hc v h]
  cases due c v with
  | none =>
    simp only [faultD, orderOr, mkTup_of (show ([] : List D).length ≤ 1000 by simp), pure_bind]
    rw [ne_plain rfl rfl (by simp [PyData.depth, PyData.depthAll]) (by simp [PyData.depth, PyData.depthAll])]
    simp [PyData.eqv, PyData.eqvAll]
  | some s =>
    simp only [faultD, orderOr, mkTup_of (show ([] : List D).length ≤ 1000 by simp), pure_bind]
    rw [ne_plain (by simp [PyData.plain, PyData.plainAll]) rfl (by simp [PyData.depth, PyData.depthAll]) (by simp [PyData.depth, PyData.depthAll])]
    simp [PyData.eqv, PyData.eqvAll, ix_tuple0]
theorem lens_ints (ns : List Int) : lensAll (ns.map .int) = true := by
  induction ns with
  | nil => rfl
  | cons n ns ih => simp [lensAll, lens, ih]
theorem rows_lk {c : Nat} (hc : c ≤ 1000) : ∀ {rows : List (List Int)}, (∀ r ∈ rows, r.length = c) → PyData.plainAll (rows.map encI) = true ∧ PyData.depthAll (rows.map encI) ≤ 1 ∧ lensAll (rows.map encI) = true
  | [], _ => ⟨rfl, by simp [PyData.depthAll], rfl⟩
  | r :: rows, h => by
    obtain ⟨h1, h2, h3⟩ := rows_lk hc (rows := rows) fun x hx => h x (List.mem_cons_of_mem _ hx)
    have hr := h r List.mem_cons_self
    refine ⟨?_, ?_, ?_⟩
    · simp [PyData.plainAll, encI, PyData.plain, plain_ints]; exact h1
    · have : PyData.depthAll ((r :: rows).map encI) = max (PyData.depthAll (r.map .int) + 1) (PyData.depthAll (rows.map encI)) := rfl
      rw [this, depth_ints]; omega
    · simp [lensAll, encI, lens, lens_ints, hr, hc]; exact h3
/-- a value that is an order is like itself -/
theorem lk_due {c : Nat} (hc : c ≤ 4) {v : D} (h : due c v = none) : v.plain = true ∧ v.depth ≤ 3 ∧ lens v = true := by
  unfold due at h
  split at h
  · exact ⟨by simp [PyData.plain, PyData.plainAll], by simp [PyData.depth, PyData.depthAll], by simp [lens, lensAll]⟩
  · rename_i s w
    split at h
    · split at h
      · rename_i hi
        cases w with
        | int i => exact ⟨by simp [PyData.plain, PyData.plainAll], by simp [PyData.depth, PyData.depthAll], by simp [lens, lensAll]⟩
        | _ => exact absurd hi (by simp [inB])
      · cases h
    · split at h
      · unfold dueW at h
        split at h
        · rename_i rs
          split at h
          · rename_i ha
            rw [Bool.and_eq_true] at ha
            obtain ⟨rows, e, hr⟩ := okRows_ints ha.2
            have hl := of_decide_eq_true ha.1
            obtain ⟨q1, q2, q3⟩ := rows_lk (c := c) (by omega) (rows := rows) fun r hm => (hr r hm).1
            subst e
            refine ⟨?_, ?_, ?_⟩
            · simp [PyData.plain, PyData.plainAll]; exact q1
            · show PyData.depthAll [.str s, .tuple (rows.map encI)] + 1 ≤ 3
              have : PyData.depthAll [.str s, .tuple (rows.map encI)] = max 0 (max (PyData.depthAll (rows.map encI) + 1) 0) := rfl
              rw [this]; omega
            · rw [List.length_map] at hl
              simp [lens, lensAll, q3]; omega
          · cases h
        · cases h
      · cases h
  · cases h
theorem q_orders_l0 {c : Nat} (hc : c ≤ 4) (kk : Unit → M D) : ∀ (vs : List D), (∀ v ∈ vs, Sane v) → m__law_orders_right_l0 (.int (c : Int)) kk vs () = kk ()
  | [], _ => by unfold m__law_orders_right_l0; rfl
  | v :: vs, h => by
    have hs := h v List.mem_cons_self
    unfold m__law_orders_right_l0
    simp only [pure_bind, List.map_nil, List.append_nil, fn2_dat, q_due hc v hs, pi_need_order_order_number, q_need_order hc v hs]
    have ih := q_orders_l0 hc kk vs fun x hx => h x (List.mem_cons_of_mem _ hx)
    cases e : due c v with
    | none =>
      obtain ⟨p1, p2, p3⟩ := lk_due hc e
      rw [show orderOr v none = pure v from rfl, heard_pure (d := v) rfl]
      simp only [dueD, is_nn, lift_some, pure_bind, asB_bool, if_true]
      have hlk := q_like (d := .list [.str "told", v]) ⟨by simp [PyData.plain, PyData.plainAll, p1], by
        show PyData.depthAll [.str "told", v] + 1 < 8
        have : PyData.depthAll [.str "told", v] = max 0 (max v.depth 0) := rfl
        rw [this]; omega, by simp [lens, lensAll, p3]⟩
      rw [mkLst_of (by simp)]
      simp only [pure_bind, fn2_dat, hlk, asB_bool, Bool.not_true, Bool.false_eq_true, if_false]
      exact ih
    | some s =>
      rw [show orderOr v (some s) = raise "BadOrder" "place" (.str s) from rfl, heard_raise (ls := hdsK) (cn := "BadOrder") (n := "place") (tag := "order") (x := .str s) rfl (by decide)]
      simp only [dueD, is_sn, lift_some, pure_bind, asB_bool, Bool.false_eq_true, if_false]
      have hlk := q_like (d := .list [.str "order", .str s]) ⟨by simp [PyData.plain, PyData.plainAll], by simp [PyData.depth, PyData.depthAll], by simp [lens, lensAll]⟩
      rw [mkLst_of (by simp)]
      simp only [pure_bind, fn2_dat, hlk, asB_bool, Bool.not_true, Bool.false_eq_true, if_false]
      exact ih
/-! ### drawn orders -/
def RowsOk (c : Nat) (rows : List (List Int)) : Prop := rows.length ≤ 5 ∧ (∀ r ∈ rows, r.length = c ∧ ∀ x ∈ r, 0 ≤ x ∧ x ≤ 4) ∧ ∀ k, k < c → (List.replicate c (0 : Int)).set k 1 ∈ rows
/-- an order, as drawn -/
def OrdOk (c : Nat) (d : D) : Prop := d = .tuple [.str "lex"] ∨ d = .tuple [.str "degree"] ∨ (∃ k : Nat, k ≤ c ∧ d = .tuple [.str "out", .int (k : Int)]) ∨ ∃ rows, RowsOk c rows ∧ d = .tuple [.str "weights", .tuple (rows.map encI)]
theorem okRows_of {c : Nat} {rows : List (List Int)} (h : ∀ r ∈ rows, r.length = c ∧ ∀ x ∈ r, -100 ≤ x ∧ x ≤ 100) : (rows.map encI).all (okRow c) = true := by
  rw [List.all_map, List.all_eq_true]
  intro r hr
  obtain ⟨h1, h2⟩ := h r hr
  show okRow c (.tuple (r.map .int)) = true
  unfold okRow
  rw [Bool.and_eq_true]
  refine ⟨?_, decide_eq_true (by show (r.map PyData.int).length = c; rw [List.length_map]; exact h1)⟩
  show ((r.map PyData.int).all fun d => inB d (-100) 100) = true
  rw [List.all_map, List.all_eq_true]
  intro x hx
  have := h2 x hx
  show inB (.int x) (-100) 100 = true
  simp [inB, this]
theorem rowsOk_good {c : Nat} {rows : List (List Int)} (h : RowsOk c rows) : goodRows c rows = true := by
  obtain ⟨h1, h2, h3⟩ := h
  unfold goodRows
  rw [Bool.and_eq_true, decide_eq_true_eq, List.all_eq_true]
  refine ⟨fun j hj => ?_, RK.rank_full (fun r hr => (h2 r hr).1) fun k hk => ⟨_, h3 k hk, rfl⟩⟩
  rw [List.mem_range'_1] at hj
  have hm : (1 : Int) ∈ colN rows j := by
    unfold colN
    rw [List.mem_filter]
    refine ⟨List.mem_map.mpr ⟨_, h3 j (by omega), ?_⟩, by decide⟩
    rw [List.getD_eq_getElem?_getD, List.getElem?_set_self (by simp; omega)]
    rfl
  have hp : ∀ x ∈ colN rows j, 0 < x := fun x hx => by
    unfold colN at hx
    rw [List.mem_filter] at hx
    obtain ⟨q1, q2⟩ := hx
    have hne := of_decide_eq_true q2
    obtain ⟨r, hr, e⟩ := List.mem_map.mp q1
    have hl : j < r.length := by rw [(h2 r hr).1]; omega
    have e2 : r.getD j 0 = r[j] := by rw [List.getD_eq_getElem?_getD, List.getElem?_eq_getElem hl]; rfl
    have := (h2 r hr).2 _ (List.getElem_mem hl)
    rw [e2] at e
    omega
  unfold colOk
  cases e : colN rows j with
  | nil => rw [e] at hm; cases hm
  | cons x xs => exact decide_eq_true (hp x (by rw [e]; exact List.mem_cons_self))
theorem ord_due {c : Nat} {d : D} (h : OrdOk c d) : due c d = none := by
  rcases h with rfl | rfl | ⟨k, hk, rfl⟩ | ⟨rows, hr, rfl⟩
  · simp [due]
  · simp [due]
  · simp only [due, if_true]
    rw [if_pos]
    simp [inB]; omega
  · have hno : ¬ ((("weights" : Str)) = "out") := by decide
    simp only [due, if_neg hno, if_true, dueW]
    have e1 : (decide ((rows.map encI).length ≤ 8) && (rows.map encI).all (okRow c)) = true := by
      rw [Bool.and_eq_true]
      refine ⟨decide_eq_true (by rw [List.length_map]; have := hr.1; omega), okRows_of fun r hm => ⟨(hr.2.1 r hm).1, fun x hx => ?_⟩⟩
      have := (hr.2.1 r hm).2 x hx
      omega
    rw [if_pos e1, asRows_enc, if_pos (rowsOk_good hr)]
theorem short_rows {c : Nat} (hc : c ≤ 1000) {rows : List (List Int)} (h : ∀ r ∈ rows, r.length = c) : ∀ r ∈ rows.map encI, Short r := fun r hr => by
  obtain ⟨r', h1, rfl⟩ := List.mem_map.mp hr
  show (r'.map PyData.int).length ≤ 1000
  rw [List.length_map, h r' h1]
  exact hc
theorem sane_rows {c : Nat} (hc : c ≤ 1000) {rows : List (List Int)} (h : ∀ r ∈ rows, r.length = c) (s : Str) : Sane (.tuple [.str s, .tuple (rows.map encI)]) := fun s' xs e => by
  cases e
  obtain ⟨q1, q2, q3⟩ := rows_lk hc h
  refine ⟨by simp [PyData.plain, PyData.plainAll]; exact q1, ?_, fun w hw rs hrs r hr => ?_⟩
  · show PyData.depthAll [.str _, .tuple (rows.map encI)] + 1 ≤ 60
    have : PyData.depthAll [.str s, .tuple (rows.map encI)] = max 0 (max (PyData.depthAll (rows.map encI) + 1) 0) := rfl
    rw [this]; omega
  · cases hw; cases hrs
    exact short_rows hc h r hr
theorem ord_sane {c : Nat} (hc : c ≤ 4) {d : D} (h : OrdOk c d) : Sane d := by
  rcases h with rfl | rfl | ⟨k, hk, rfl⟩ | ⟨rows, hr, rfl⟩
  · exact fun s xs e => by
      cases e
      exact ⟨by simp [PyData.plain, PyData.plainAll], by simp [PyData.depth, PyData.depthAll], fun w hw => by cases hw⟩
  · exact fun s xs e => by
      cases e
      exact ⟨by simp [PyData.plain, PyData.plainAll], by simp [PyData.depth, PyData.depthAll], fun w hw => by cases hw⟩
  · exact fun s xs e => by
      cases e
      exact ⟨by simp [PyData.plain, PyData.plainAll], by simp [PyData.depth, PyData.depthAll], fun w hw rs hrs => by cases hw; cases hrs⟩
  · exact sane_rows (by omega) (fun r hm => (hr.2.1 r hm).1) _
theorem rng0 (n : Nat) : rngL 0 n = encN (List.range n) := by
  unfold rngL encN
  apply List.map_congr_left
  intro i _
  show PyData.int _ = PyData.int _
  congr 1
  omega
def unitRow (c : Nat) (ns : List Nat) (p : Nat) : List Int := (List.range c).map fun o => if ns.getD o 0 = p then 1 else 0
theorem some_order_l0 {c : Nat} (hc : c ≤ 500) {ns : List Nat} (hn : ns.length = c) (kk : List D → M D) : ∀ (m k : Nat) (rows : List (List Int)), rows.length + m ≤ 1000 →
    m__law_some_order_l0 (.int (c : Int)) (.list (encN ns)) kk (rngL (k : Int) m) (rows.map encI) = kk ((rows ++ (List.range' k m).map (unitRow c ns)).map encI)
  | 0, k, rows, _ => by unfold m__law_some_order_l0; simp [rngL]
  | m + 1, k, rows, h => by
    rw [rng_succ]
    unfold m__law_some_order_l0
    simp only [pure_bind, asN_int (show -1000000 ≤ (c : Int) ∧ (c : Int) ≤ 1000000 by omega)]
    rw [show (c : Int).toNat = c by omega, rng0]
    unfold encN
    rw [lcM_of (g := fun o : Nat => .int (if ns.getD o 0 = k then 1 else 0)) (by simp; omega) (fun o ho => by
      have hol : o < ns.length := by rw [hn]; exact List.mem_range.mp ho
      rw [elM_true]
      simp only [pure_bind, ix_list (d := .int (ns[o] : Int)) (xs := ns.map fun n : Nat => PyData.int (n : Int)) (i := o) (by rw [List.getElem?_map, List.getElem?_eq_getElem hol]; rfl), lift_some, eq_int, int_bool]
      rw [List.getD_eq_getElem?_getD, List.getElem?_eq_getElem hol, Option.getD_some]
      by_cases he : ns[o] = k
      · rw [if_pos he, decide_eq_true (by omega)]; rfl
      · rw [if_neg he, decide_eq_false (by omega)]; rfl)]
    simp only [pure_bind, tuple_list, lift_some]
    rw [pushL_of (by rw [List.length_map]; omega), pure_bind]
    have e : PyData.tuple ((List.range c).map fun o : Nat => PyData.int (if ns.getD o 0 = k then 1 else 0)) = encI (unitRow c ns k) := by
      unfold encI unitRow
      rw [List.map_map]; rfl
    have ih := some_order_l0 hc hn kk m (k + 1) (rows ++ [unitRow c ns k]) (by rw [List.length_append, List.length_singleton]; omega)
    rw [e]
    rw [List.map_append, List.append_assoc] at ih
    rw [List.range'_succ, List.map_cons]
    exact ih
theorem unit_of {c : Nat} {ns : List Nat} (hp : ns.Perm (List.range c)) {k : Nat} (hk : k < c) : ∃ p, p < c ∧ unitRow c ns p = (List.replicate c (0 : Int)).set k 1 := by
  have hn : ns.length = c := by rw [hp.length_eq, List.length_range]
  have hnd : ns.Nodup := hp.nodup_iff.mpr List.nodup_range
  have hkl : k < ns.length := by omega
  refine ⟨ns[k], List.mem_range.mp (hp.mem_iff.mp (List.getElem_mem hkl)), ?_⟩
  apply List.ext_getElem?
  intro i
  unfold unitRow
  rw [List.getElem?_map, List.getElem?_set]
  by_cases hi : i < c
  · have hil : i < ns.length := by omega
    rw [List.getElem?_range hi]
    simp only [Option.map_some, List.length_replicate]
    rw [List.getD_eq_getElem?_getD, List.getElem?_eq_getElem hil, Option.getD_some]
    by_cases hki : k = i
    · subst hki
      simp [hk]
    · rw [if_neg hki, if_neg (fun e => hki ((List.getElem_inj hnd).mp e).symm), List.getElem?_replicate, if_pos hi]
  · rw [List.getElem?_eq_none (by simp; omega)]
    by_cases hki : k = i
    · omega
    · rw [if_neg hki, List.getElem?_replicate, if_neg hi]
      rfl
theorem all_ints {p : Int → Prop} : ∀ {ds : List D}, (∀ d ∈ ds, ∃ x : Int, d = .int x ∧ p x) → ∃ ns : List Int, ds = ns.map .int ∧ ∀ x ∈ ns, p x
  | [], _ => ⟨[], rfl, by simp⟩
  | d :: ds, h => by
    obtain ⟨x, e, hx⟩ := h d List.mem_cons_self
    obtain ⟨ns, e2, h2⟩ := all_ints (ds := ds) fun y hy => h y (List.mem_cons_of_mem _ hy)
    refine ⟨x :: ns, by rw [e, e2]; rfl, fun y hy => ?_⟩
    rcases List.mem_cons.mp hy with z | z
    · rw [z]; exact hx
    · exact h2 y z
theorem run_rows {c : Nat} (hc : c ≤ 4) (rows : List (List Int)) (hl : rows.length ≤ 1) (hr : ∀ r ∈ rows, r.length = c ∧ ∀ x ∈ r, 0 ≤ x ∧ x ≤ 4) : Run (do
      let t ← m__law_order (.int (c : Int))
      let n ← asN (.int (c : Int))
      m__law_some_order_l0 (.int (c : Int)) t (fun w => do let x ← lift (tupleD [.list w]); mkTup [.str "weights", x]) (rngL 0 n.toNat) (rows.map encI)) 4 (OrdOk c) := by
  refine (Run.bind (k2 := 0) (run_order (n := c) (by omega)) fun t ⟨ns, e, hp⟩ => ?_).mono (by omega) fun _ h => h
  subst e
  have hn : ns.length = c := by rw [hp.length_eq, List.length_range]
  rw [asN_int (by omega), pure_bind, show (c : Int).toNat = c by omega, show (0 : Int) = ((0 : Nat) : Int) from rfl, some_order_l0 (by omega) hn _ c 0 rows (by omega)]
  simp only [tuple_list, lift_some, pure_bind]
  rw [mkTup_of (by simp)]
  refine .pure (.inr (.inr (.inr ⟨_, ⟨?_, fun r hm => ?_, fun k hk => ?_⟩, rfl⟩)))
  · rw [List.length_append, List.length_map, List.length_range']; omega
  · rcases List.mem_append.mp hm with z | z
    · exact hr r z
    · obtain ⟨p, _, rfl⟩ := List.mem_map.mp z
      unfold unitRow
      refine ⟨by simp, fun x hx => ?_⟩
      obtain ⟨o, _, rfl⟩ := List.mem_map.mp hx
      split <;> omega
  · obtain ⟨p, hp1, hp2⟩ := unit_of hp hk
    exact List.mem_append_right _ (List.mem_map.mpr ⟨p, by rw [List.mem_range'_1]; omega, hp2⟩)
theorem run_some_order {c : Nat} (hc : c ≤ 4) : Run (m__law_some_order (.int (c : Int))) 9 (OrdOk c) := by
  unfold m__law_some_order
  simp only [pure_bind, List.map_nil, List.append_nil, fm1_dat]
  refine (Run.bind (k1 := 1) (k2 := 8) (run_draw (k := 5) (by omega) (by omega)) fun d ⟨i, e, i0, i1⟩ => ?_)
  subst e
  simp only [lt_int, eq_int, lift_some, pure_bind, asB_bool]
  by_cases h2 : i < 2
  · rw [if_pos (decide_eq_true h2)]
    simp only [mkTup_of (show ([PyData.str "lex"] : List D).length ≤ 1000 by simp), mkTup_of (show ([PyData.str "degree"] : List D).length ≤ 1000 by simp), mkLst_of (show ([PyData.tuple [.str "lex"], .tuple [.str "degree"]] : List D).length ≤ 1000 by simp), pure_bind]
    have hi : i = 0 ∨ i = 1 := by omega
    rcases hi with rfl | rfl
    · rw [ix_list0, lift_some]; exact .pure (.inl rfl)
    · rw [show (1 : Int) = ((1 : Nat) : Int) from rfl, ix_list (d := .tuple [.str "degree"]) rfl, lift_some]; exact .pure (.inr (.inl rfl))
  · rw [if_neg (by simpa using h2)]
    by_cases he : i = 2
    · rw [if_pos (decide_eq_true he)]
      simp only [add_int, lift_some, pure_bind, List.map_nil, List.append_nil, fm1_dat, bind_assoc]
      refine (Run.bind (k1 := 1) (k2 := 0) (run_draw (k := (c : Int) + 1) (by omega) (by omega)) fun d ⟨j, e, j0, j1⟩ => ?_).mono (by omega) fun _ h => h
      subst e
      rw [mkTup_of (by simp)]
      obtain ⟨k, rfl⟩ := Int.eq_ofNat_of_zero_le j0
      exact .pure (.inr (.inr (.inl ⟨k, by omega, rfl⟩)))
    · rw [if_neg (by simpa using he)]
      by_cases h3 : i = 3
      · rw [if_pos (decide_eq_true h3)]
        simp only [bind_assoc, pure_bind, asN_int (show -1000000 ≤ (c : Int) ∧ (c : Int) ≤ 1000000 by omega)]
        rw [show (c : Int).toNat = c by omega, rng0]
        have q := Run.lc (l := List.range c) (h := fun n : Nat => PyData.int (n : Int)) (f := fun _ => elM (Pure.pure true) (do let y ← m__law_draw (.int 4); lift (addD (.int 1) y))) (k := 1) (P := fun d => ∃ x : Int, d = .int x ∧ (0 ≤ x ∧ x ≤ 4)) (by simp; omega) (fun a _ => Run.el (Run.bind (k1 := 1) (k2 := 0) (run_draw (k := 4) (by omega) (by omega)) fun d ⟨j, e, j0, j1⟩ => by
          subst e
          exact .pure ⟨1 + j, rfl, by omega, by omega⟩))
        refine (Run.bind (k2 := 4) q fun ds ⟨hl, hd⟩ => ?_).mono (by simp; omega) fun _ h => h
        obtain ⟨ns, e, hn⟩ := all_ints hd
        subst e
        rw [List.length_map, List.length_range] at hl
        simp only [tuple_list, lift_some, pure_bind, okLen_of (show ([PyData.tuple (ns.map .int)] : List D).length ≤ 1000 by simp)]
        have q2 := run_rows hc [ns] (by simp) (fun r hr => by rw [List.mem_singleton.mp hr]; exact ⟨hl, hn⟩)
        simp only [asN_int (show -1000000 ≤ (c : Int) ∧ (c : Int) ≤ 1000000 by omega), pure_bind, tuple_list, lift_some] at q2
        rw [show (c : Int).toNat = c by omega, rng0] at q2
        exact q2
      · rw [if_neg (by simpa using h3)]
        simp only [okLen_of (show ([] : List D).length ≤ 1000 by simp), pure_bind, bind_assoc, tuple_list, lift_some]
        have q2 := run_rows hc [] (by simp) (by simp)
        simp only [List.map_nil, pure_bind, tuple_list, lift_some] at q2
        refine Run.mono (k1 := 4) (k2 := 8) ?_ (by omega) fun _ h => h
        exact q2
end DL
namespace DL
open PySem PySem.Spec L2
/-! # PL, tenth part: values that may be orders. -/
theorem plainAll_of : ∀ {xs : List D}, (∀ d ∈ xs, d.plain = true) → PyData.plainAll xs = true
  | [], _ => rfl
  | x :: xs, h => by
    rw [PyData.plainAll, Bool.and_eq_true]
    exact ⟨h x List.mem_cons_self, plainAll_of fun d hd => h d (List.mem_cons_of_mem _ hd)⟩
theorem depthAll_of {k : Nat} : ∀ {xs : List D}, (∀ d ∈ xs, d.depth ≤ k) → PyData.depthAll xs ≤ k
  | [], _ => Nat.zero_le _
  | x :: xs, h => by
    rw [PyData.depthAll]
    exact Nat.max_le.mpr ⟨h x List.mem_cons_self, depthAll_of fun d hd => h d (List.mem_cons_of_mem _ hd)⟩
/-- a flat row -/
structure Fl (r : D) : Prop where
  pl : r.plain = true
  dp : r.depth ≤ 1
  sh : Short r
theorem sane2 {s : Str} {x : D} (hp : x.plain = true) (hd : x.depth ≤ 50) (hs : ∀ rs, x = .tuple rs → ∀ r ∈ rs, Short r) : Sane (.tuple [.str s, x]) := fun s' xs e => by
  cases e
  refine ⟨by simp [PyData.plain, PyData.plainAll, hp], ?_, fun w hw => by cases hw; exact hs⟩
  show PyData.depthAll [.str s, x] + 1 ≤ 60
  have : PyData.depthAll [.str s, x] = max 0 (max x.depth 0) := rfl
  rw [this]; omega
theorem saneT {s : Str} {rs : List D} (h : ∀ r ∈ rs, Fl r) : Sane (.tuple [.str s, .tuple rs]) :=
  sane2 (plainAll_of fun d hd => (h d hd).pl) (by show PyData.depthAll rs + 1 ≤ 50; have := depthAll_of (k := 1) fun d hd => (h d hd).dp; omega) fun rs' e r hr => by cases e; exact (h r hr).sh
theorem saneL {s : Str} {rs : List D} (h : ∀ r ∈ rs, Fl r) : Sane (.tuple [.str s, .list rs]) :=
  sane2 (plainAll_of fun d hd => (h d hd).pl) (by show PyData.depthAll rs + 1 ≤ 50; have := depthAll_of (k := 1) fun d hd => (h d hd).dp; omega) fun rs' e => by cases e
theorem fl_tuple {ds : List D} (h : ∀ d ∈ ds, d.plain = true ∧ d.depth = 0) (hl : ds.length ≤ 1000) : Fl (.tuple ds) :=
  ⟨plainAll_of fun d hd => (h d hd).1, by show PyData.depthAll ds + 1 ≤ 1; have := depthAll_of (k := 0) fun d hd => Nat.le_of_eq (h d hd).2; omega, hl⟩
theorem fl_list {ds : List D} (h : ∀ d ∈ ds, d.plain = true ∧ d.depth = 0) (hl : ds.length ≤ 1000) : Fl (.list ds) :=
  ⟨plainAll_of fun d hd => (h d hd).1, by show PyData.depthAll ds + 1 ≤ 1; have := depthAll_of (k := 0) fun d hd => Nat.le_of_eq (h d hd).2; omega, hl⟩
theorem flat_int {ns : List Int} : ∀ d ∈ ns.map PyData.int, d.plain = true ∧ d.depth = 0 := fun d hd => by
  obtain ⟨i, _, rfl⟩ := List.mem_map.mp hd
  exact ⟨rfl, rfl⟩
theorem fl_enc {rows : List (List Int)} {c : Nat} (hc : c ≤ 1000) (h : ∀ r ∈ rows, r.length = c) : ∀ r ∈ rows.map encI, Fl r := fun r hr => by
  obtain ⟨r', h1, rfl⟩ := List.mem_map.mp hr
  exact fl_tuple flat_int (by rw [List.length_map, h r' h1]; exact hc)
theorem flat_rep {x : D} : ∀ n, (List.replicate n [x]).flatten = List.replicate n x
  | 0 => rfl
  | n + 1 => by rw [List.replicate_succ, List.flatten_cons, flat_rep n]; rfl
theorem mul_rep {x : D} {n : Nat} (h : n ≤ 1000) : mulD (.tuple [x]) (.int (n : Int)) = some (.tuple (List.replicate n x)) := by
  show (if 0 ≤ (n : Int) ∧ (n : Int) ≤ 1000 ∧ ([x] : List D).length ≤ 1000 then some (PyData.tuple (List.replicate (n : Int).toNat [x]).flatten) else none) = _
  rw [if_pos ⟨by omega, by omega, by simp⟩, show (n : Int).toNat = n by omega, flat_rep]
theorem cut_mem {α : Type} {xs : List α} {a b : Option Int} {x : α} (h : x ∈ cutL xs a b) : x ∈ xs := List.mem_of_mem_drop (List.mem_of_mem_take h)
theorem cut_len {α : Type} (xs : List α) (a b : Option Int) : (cutL xs a b).length ≤ xs.length := by
  unfold cutL
  rw [List.length_take, List.length_drop]
  omega
theorem add_tup {xs ys : List D} (h : xs.length + ys.length ≤ 1000000) : addD (.tuple xs) (.tuple ys) = some (.tuple (xs ++ ys)) := if_pos h
theorem add_lst {xs ys : List D} (h : xs.length + ys.length ≤ 1000000) : addD (.list xs) (.list ys) = some (.list (xs ++ ys)) := if_pos h
/-! ### drawn rows -/
theorem run_rows_l0 {c : Nat} (hc : c ≤ 500) : ∀ (m k : Nat) (rows : List (List Int)), rows.length + m ≤ 1000 → (∀ r ∈ rows, r.length = c) →
    Run (m__law_some_rows_l0 (.int (c : Int)) (fun w => mkTup [.str "weights", .tuple w]) (rngL (k : Int) m) (rows.map encI)) (m * (c * 2)) fun d => ∃ rows' : List (List Int), d = .tuple [.str "weights", .tuple (rows'.map encI)] ∧ rows'.length = rows.length + m ∧ ∀ r ∈ rows', r.length = c
  | 0, k, rows, _, h => by
    unfold m__law_some_rows_l0
    simp only [rngL, List.range_zero, List.map_nil]
    rw [mkTup_of (by simp)]
    exact .pure ⟨rows, rfl, rfl, h⟩
  | m + 1, k, rows, hl, h => by
    rw [rng_succ]
    unfold m__law_some_rows_l0
    simp only [pure_bind, bind_assoc, asN_int (show -1000000 ≤ (c : Int) ∧ (c : Int) ≤ 1000000 by omega), List.map_nil, List.append_nil, fm1_dat]
    rw [show (c : Int).toNat = c by omega, rng0]
    have q := Run.lc (l := List.range c) (h := fun n : Nat => PyData.int (n : Int)) (f := fun _ => elM (Pure.pure true) (do let x ← m__law_draw (.int 5); let z ← mkLst [.int 0, .int 0, .int 1, .int 2]; let y ← m__law_of z; lift (subD x y))) (k := 2) (P := fun d => ∃ x : Int, d = .int x ∧ True) (by simp; omega) (fun a _ => Run.el (Run.bind (k1 := 1) (k2 := 1) (run_draw (k := 5) (by omega) (by omega)) fun d ⟨j, e, j0, j1⟩ => by
      subst e
      rw [mkLst_of (by simp), pure_bind]
      refine Run.bind (k1 := 1) (k2 := 0) (run_of (by simp) (by simp)) fun d hd => ?_
      have : ∃ z : Int, d = .int z := by
        simp at hd
        rcases hd with e | e | e <;> exact ⟨_, e⟩
      obtain ⟨z, rfl⟩ := this
      exact .pure ⟨j - z, rfl, trivial⟩))
    refine (Run.bind (k2 := m * (c * 2)) q fun ds ⟨hln, hd⟩ => ?_).mono (by simp [Nat.succ_mul]; omega) fun _ h => h
    obtain ⟨ns, e, _⟩ := all_ints hd
    subst e
    rw [List.length_map, List.length_range] at hln
    simp only [tuple_list, lift_some, pure_bind]
    rw [pushL_of (by rw [List.length_map]; omega), pure_bind]
    have ih := run_rows_l0 hc m (k + 1) (rows ++ [ns]) (by rw [List.length_append, List.length_singleton]; omega) (fun r hr => by
      rcases List.mem_append.mp hr with z | z
      · exact h r z
      · rw [List.mem_singleton.mp z]; exact hln)
    rw [List.map_append] at ih
    refine ih.mono (Nat.le_refl _) fun d ⟨rows', e1, e2, e3⟩ => ⟨rows', e1, by rw [e2, List.length_append, List.length_singleton]; omega, e3⟩
theorem run_some_rows {c : Nat} (hc : c ≤ 4) : Run (m__law_some_rows (.int (c : Int))) 41 Sane := by
  unfold m__law_some_rows
  simp only [pure_bind, bind_assoc, okLen_of (show ([] : List D).length ≤ 1000 by simp), List.map_nil, List.append_nil, fm1_dat, tuple_list, lift_some]
  refine Run.bind (k1 := 1) (k2 := 40) (run_draw (k := 6) (by omega) (by omega)) fun d ⟨j, e, j0, j1⟩ => ?_
  subst e
  obtain ⟨m, rfl⟩ := Int.eq_ofNat_of_zero_le j0
  rw [asN_int (by omega), pure_bind, show (m : Int).toNat = m by omega]
  have hm : m * (c * 2) ≤ 5 * 8 := Nat.mul_le_mul (by omega) (by omega)
  refine (run_rows_l0 (c := c) (by omega) m 0 [] (by simp; omega) (by simp)).mono (by omega) fun d ⟨rows, e1, e2, e3⟩ => ?_
  rw [e1]
  exact saneT (fl_enc (by omega) e3)
/-! ### values -/
theorem sane_nt {v : D} (h : ∀ s xs, v ≠ .tuple (.str s :: xs)) : Sane v := fun s xs e => absurd e (h s xs)
theorem sane1 {s : Str} : Sane (.tuple [.str s]) := fun s' xs e => by
  cases e
  exact ⟨by simp [PyData.plain, PyData.plainAll], by simp [PyData.depth, PyData.depthAll], fun w hw => by cases hw⟩
theorem run_values {c : Nat} (hc : c ≤ 4) : Run (m__law_values (.int (c : Int))) 103 fun d => ∃ vs, d = .list vs ∧ ∀ v ∈ vs, Sane v := by
  unfold m__law_values
  simp only [pure_bind, bind_assoc, neg_int, add_int, lift_some, List.map_nil, List.append_nil, fm1_dat, mkTup_of, mkLst_of, List.length_cons, List.length_nil, Nat.zero_add, Nat.reduceAdd, Nat.reduceLeDiff]
  refine Run.bind (k1 := 1) (k2 := 102) (run_of (by simp) (by simp)) fun odd hodd => ?_
  have hop : odd.plain = true ∧ odd.depth ≤ 1 ∧ Short odd ∧ ∀ rs, odd = .tuple rs → ∀ r ∈ rs, Short r := by
    simp at hodd
    rcases hodd with e | e | e | e | e | e | e | e | e <;> subst e <;> refine ⟨rfl, ?_, ?_, ?_⟩ <;> simp [PyData.depth, PyData.depthAll, Short]
  refine Run.bind (k1 := 9) (k2 := 93) (run_some_order hc) fun v1 h1 => ?_
  refine Run.bind (k1 := 41) (k2 := 52) (run_some_rows hc) fun v2 h2 => ?_
  refine Run.bind (k1 := 41) (k2 := 11) (run_some_rows hc) fun v3 h3 => ?_
  rw [mul_rep (by omega)]
  have hm1 : mulD (.tuple [.tuple (List.replicate c (.int 1))]) (.int 9) = some (.tuple (List.replicate 9 (.tuple (List.replicate c (.int 1))))) := mul_rep (n := 9) (by omega)
  have hm2 : mulD (.tuple [.int 1]) (.int ((c : Int) + 1)) = some (.tuple (List.replicate (c + 1) (.int 1))) := mul_rep (n := c + 1) (by omega)
  simp only [hm1, hm2, lift_some, pure_bind, mkTup_of, mkLst_of, List.length_cons, List.length_nil, Nat.zero_add, Nat.reduceAdd, Nat.reduceLeDiff]
  rw [add_lst (by simp), lift_some, pure_bind]
  have f1 : ∀ d ∈ List.replicate c (PyData.int 1), d.plain = true ∧ d.depth = 0 := fun d hd => by rw [List.eq_of_mem_replicate hd]; exact ⟨rfl, rfl⟩
  have f2 : ∀ d ∈ List.replicate (c + 1) (PyData.int 1), d.plain = true ∧ d.depth = 0 := fun d hd => by rw [List.eq_of_mem_replicate hd]; exact ⟨rfl, rfl⟩
  have F1 : Fl (.tuple (List.replicate c (.int 1))) := fl_tuple f1 (by simp; omega)
  have F2 : Fl (.tuple (List.replicate (c + 1) (.int 1))) := fl_tuple f2 (by simp; omega)
  generalize hvs : ([v1, v2, v3, PyData.tuple [.str "out", odd], .tuple [.str "weights", odd], .tuple [.str "lex", .int 0], .tuple [.str "degree", .none]] ++ _) = vs
  have hv : ∀ v ∈ vs, Sane v := fun v hm => by
    rw [← hvs] at hm
    simp only [List.cons_append, List.nil_append, List.mem_cons, List.not_mem_nil, or_false] at hm
    rcases hm with e | e | e | e | e | e | e | e | e | e | e | e | e | e | e | e | e | e
    · rw [e]; exact ord_sane hc h1
    · rw [e]; exact h2
    · rw [e]; exact h3
    · rw [e]; exact sane2 hop.1 (by omega) hop.2.2.2
    · rw [e]; exact sane2 hop.1 (by omega) hop.2.2.2
    · rw [e]; exact sane2 rfl (by simp [PyData.depth]) (fun rs e => by cases e)
    · rw [e]; exact sane2 rfl (by simp [PyData.depth]) (fun rs e => by cases e)
    · rw [e]; exact sane1
    · rw [e]; exact sane_nt fun s xs e => by cases e
    · rw [e]; exact sane_nt fun s xs e => by cases e
    · rw [e]; exact sane_nt fun s xs e => by cases e
    · rw [e]; exact sane_nt fun s xs e => by cases e
    · rw [e]; exact sane_nt fun s xs e => by cases e
    · rw [e]; exact sane_nt fun s xs e => by cases e
    · rw [e]; exact sane1
    · rw [e]; exact sane1
    · rw [e]; exact saneT fun r hr => by rw [List.eq_of_mem_replicate hr]; exact F1
    · rw [e]; exact saneT fun r hr => by rw [List.mem_singleton.mp hr]; exact F2
  have hvl : vs.length ≤ 900 := by rw [← hvs]; simp
  clear hvs
  refine Run.bind (k1 := 9) (k2 := 2) (run_some_order hc) fun one ho => ?_
  have stop : Run (pure (PyData.list vs) : M D) 2 fun d => ∃ vs, d = .list vs ∧ ∀ v ∈ vs, Sane v := .pure ⟨vs, rfl, hv⟩
  rcases ho with rfl | rfl | ⟨k, hk, rfl⟩ | ⟨rows, hr, rfl⟩
  · simp only [ix_tuple0, lift_some, pure_bind, eq_str, asB_bool, show decide (("lex" : Str) = "weights") = false from by decide, Bool.false_eq_true, if_false]
    exact stop
  · simp only [ix_tuple0, lift_some, pure_bind, eq_str, asB_bool, show decide (("degree" : Str) = "weights") = false from by decide, Bool.false_eq_true, if_false]
    exact stop
  · simp only [ix_tuple0, lift_some, pure_bind, eq_str, asB_bool, show decide (("out" : Str) = "weights") = false from by decide, Bool.false_eq_true, if_false]
    exact stop
  · simp only [ix_tuple0, ix_tuple1, lift_some, pure_bind, eq_str, asB_bool, decide_true, if_true, gt_int, asSq_tuple]
    have hfl := fl_enc (c := c) (by omega) fun r hm => (hr.2.1 r hm).1
    rw [ne_plain (x := .tuple (rows.map encI)) (y := .tuple []) (plainAll_of fun d hd => (hfl d hd).pl) rfl (by show PyData.depthAll _ + 1 ≤ 60; have := depthAll_of (k := 1) fun d hd => (hfl d hd).dp; omega) (by simp [PyData.depth, PyData.depthAll])]
    cases rows with
    | nil => simpa [PyData.eqv, PyData.eqvAll] using stop
    | cons r0 rows =>
      have e0 : (!PyData.eqv (.tuple ((r0 :: rows).map encI)) (.tuple [])) = true := by simp [PyData.eqv, PyData.eqvAll]
      simp only [e0, lift_some, pure_bind, asB_bool, if_true]
      by_cases hcp : 0 < c
      · have hcd : decide ((0 : Int) < (c : Int)) = true := decide_eq_true (by omega)
        obtain ⟨hr0l, _⟩ := hr.2.1 r0 List.mem_cons_self
        simp only [hcd, if_true, List.map_cons, ix_tuple0, lift_some, pure_bind]
        rw [show encI r0 = .tuple (r0.map .int) from rfl, asSq_tuple, pure_bind]
        refine Run.bind (k1 := 1) (k2 := 1) (run_of (by simp) (by simp)) fun nv hnv => ?_
        have hnv2 : nv.plain = true ∧ nv.depth = 0 := by
          simp at hnv
          rcases hnv with e | e | e | e | e | e | e <;> subst e <;> exact ⟨rfl, rfl⟩
        refine Run.bind (k1 := 1) (k2 := 0) (run_draw (k := (c : Int)) (by omega) (by omega)) fun d ⟨j, e, j0, j1⟩ => ?_
        subst e
        obtain ⟨p, rfl⟩ := Int.eq_ofNat_of_zero_le j0
        rw [setL_nat (by rw [List.length_map, hr0l]; omega), pure_bind]
        have hrl := hr.1
        rw [List.length_cons] at hrl
        have hcl := cut_len (PyData.tuple (r0.map .int) :: rows.map encI) (some 1) none
        have hcm : ∀ r ∈ cutL (PyData.tuple (r0.map .int) :: rows.map encI) (some 1) none, Fl r := fun r hm => hfl r (cut_mem hm)
        have hcm2 : ∀ r ∈ cutL (PyData.tuple (r0.map .int) :: rows.map encI) none (some (-1)), Fl r := fun r hm => hfl r (cut_mem hm)
        rw [List.length_cons, List.length_map] at hcl
        simp only [tuple_list, list_tuple, sl_tuple, asI_int, lift_some, pure_bind, mkTup_of, mkLst_of, List.length_cons, List.length_nil, Nat.zero_add, Nat.reduceAdd, Nat.reduceLeDiff]
        rw [add_tup (by simp; omega), lift_some, pure_bind]
        try simp only [pure_bind, mkTup_of, mkLst_of, List.length_cons, List.length_nil, Nat.zero_add, Nat.reduceAdd, Nat.reduceLeDiff]
        rw [add_tup (by simp; omega), lift_some, pure_bind]
        try simp only [pure_bind, mkTup_of, mkLst_of, List.length_cons, List.length_nil, Nat.zero_add, Nat.reduceAdd, Nat.reduceLeDiff]
        rw [add_lst (by simp; omega), lift_some, pure_bind]
        refine Run.pure ⟨_, rfl, fun v hm => ?_⟩
        rcases List.mem_append.mp hm with z | z
        · exact hv v z
        · simp only [List.mem_cons, List.not_mem_nil, or_false] at z
          have hbent : ∀ d ∈ (r0.map PyData.int).set p nv, d.plain = true ∧ d.depth = 0 := fun d hd => by
            rcases List.mem_or_eq_of_mem_set hd with q | q
            · exact flat_int d q
            · rw [q]; exact hnv2
          rcases z with e | e | e | e
          · rw [e]
            exact saneT fun r hr' => by
              rcases List.mem_cons.mp hr' with q | q
              · rw [q]; exact fl_tuple hbent (by rw [List.length_set, List.length_map, hr0l]; omega)
              · exact hcm r q
          · rw [e]; exact saneT hcm2
          · rw [e]; exact saneL fun r hr' => hfl r hr'
          · rw [e]
            exact saneT fun r hr' => by
              rcases List.mem_cons.mp hr' with q | q
              · rw [q]; exact fl_list flat_int (by rw [List.length_map, hr0l]; omega)
              · exact hcm r q
      · have hcd : decide ((0 : Int) < (c : Int)) = false := decide_eq_false (by omega)
        simp only [hcd, Bool.false_eq_true, if_false]
        exact stop
theorem run_orders_right {c : Nat} (hc : c ≤ 4) : Run (m__law_orders_right (.int (c : Int))) 103 fun d => d = .bool true := by
  unfold m__law_orders_right
  simp only [pure_bind, bind_assoc, List.map_nil, List.append_nil, fm1_dat]
  refine Run.bind (k2 := 0) (run_values hc) fun d ⟨vs, e, h⟩ => ?_
  subst e
  rw [asSq_list, pure_bind, q_orders_l0 hc _ vs h]
  exact .pure rfl
end DL
namespace DL
open PySem PySem.Spec L2
/-! # PL, eleventh part: rows of numbers compared place by place. -/
def vadd (a b : List Int) : List Int := List.zipWith (· + ·) a b
theorem lt_app : ∀ (a b s : List Int), a.length = b.length → (a ++ s < b ++ s ↔ a < b)
  | [], [], s, _ => by simp [List.lt_irrefl]
  | [], _ :: _, _, h => by simp at h
  | _ :: _, [], _, h => by simp at h
  | x :: a, y :: b, s, h => by
    rw [List.cons_append, List.cons_append, List.cons_lt_cons_iff, List.cons_lt_cons_iff, lt_app a b s (by simpa using h)]
theorem lt_pre : ∀ (s a b : List Int), s ++ a < s ++ b ↔ a < b
  | [], _, _ => Iff.rfl
  | x :: s, a, b => by
    rw [List.cons_append, List.cons_append, List.cons_lt_cons_iff, lt_pre s a b]
    simp
theorem lt_vadd : ∀ (a b d : List Int), a.length = b.length → a.length = d.length → (vadd a d < vadd b d ↔ a < b)
  | [], [], [], _, _ => Iff.rfl
  | [], [], _ :: _, _, h => by simp at h
  | [], _ :: _, _, h, _ => by simp at h
  | _ :: _, [], _, h, _ => by simp at h
  | _ :: _, _ :: _, [], _, h => by simp at h
  | x :: a, y :: b, z :: d, h1, h2 => by
    have ih := lt_vadd a b d (by simpa using h1) (by simpa using h2)
    show (x + z) :: vadd a d < (y + z) :: vadd b d ↔ _
    rw [List.cons_lt_cons_iff, List.cons_lt_cons_iff, ih]
    constructor
    · rintro (h | ⟨h, q⟩)
      · exact .inl (by omega)
      · exact .inr ⟨by omega, q⟩
    · rintro (h | ⟨h, q⟩)
      · exact .inl (by omega)
      · exact .inr ⟨by omega, q⟩
theorem vadd_len {a b : List Int} (h : a.length = b.length) : (vadd a b).length = a.length := by
  unfold vadd
  rw [List.length_zipWith]
  omega
theorem vadd_app : ∀ {a b c d : List Int}, a.length = b.length → vadd (a ++ c) (b ++ d) = vadd a b ++ vadd c d
  | [], [], _, _, _ => rfl
  | [], _ :: _, _, _, h => by simp at h
  | _ :: _, [], _, _, h => by simp at h
  | x :: a, y :: b, c, d, h => by
    show (x + y) :: vadd (a ++ c) (b ++ d) = (x + y) :: (vadd a b ++ vadd c d)
    rw [vadd_app (by simpa using h)]
theorem sum_vadd : ∀ {a b : List Int}, a.length = b.length → (vadd a b).sum = a.sum + b.sum
  | [], [], _ => rfl
  | [], _ :: _, h => by simp at h
  | _ :: _, [], h => by simp at h
  | x :: a, y :: b, h => by
    show ((x + y) :: vadd a b).sum = _
    rw [List.sum_cons, List.sum_cons, List.sum_cons, sum_vadd (by simpa using h)]
    omega
theorem pos_lt : ∀ (v : List Int), (∀ x ∈ v, 0 ≤ x) → (∃ x ∈ v, x ≠ 0) → List.replicate v.length 0 < v
  | [], _, ⟨_, h, _⟩ => by cases h
  | x :: v, h, ⟨y, hy, hn⟩ => by
    rw [List.length_cons, List.replicate_succ, List.cons_lt_cons_iff]
    have hx := h x List.mem_cons_self
    by_cases e : x = 0
    · right
      refine ⟨e.symm, pos_lt v (fun z hz => h z (List.mem_cons_of_mem _ hz)) ?_⟩
      rcases List.mem_cons.mp hy with q | q
      · exact absurd (q.trans e) hn
      · exact ⟨y, q, hn⟩
    · left; omega
theorem sum_nn : ∀ {v : List Int}, (∀ x ∈ v, 0 ≤ x) → 0 ≤ v.sum ∧ (v.sum = 0 → v = List.replicate v.length 0)
  | [], _ => ⟨Int.le_refl _, fun _ => rfl⟩
  | x :: v, h => by
    obtain ⟨h1, h2⟩ := sum_nn (v := v) fun z hz => h z (List.mem_cons_of_mem _ hz)
    have hx := h x List.mem_cons_self
    rw [List.sum_cons]
    refine ⟨by omega, fun e => ?_⟩
    rw [List.length_cons, List.replicate_succ, ← h2 (by omega), show x = 0 by omega]
theorem not_zero {v : List Int} (h : v ≠ List.replicate v.length 0) : ∃ x ∈ v, x ≠ 0 := by
  apply Classical.byContradiction
  intro hn
  refine h (List.eq_replicate_iff.mpr ⟨rfl, fun x hx => ?_⟩)
  apply Classical.byContradiction
  intro q
  exact hn ⟨x, hx, q⟩
theorem alike_ints : ∀ (a b : List Int), PySem.W.alikeAll (a.map .int) (b.map .int) = true
  | [], _ => by simp [PySem.W.alikeAll]
  | _ :: _, [] => by simp [PySem.W.alikeAll]
  | x :: a, y :: b => by simp [PySem.W.alikeAll, PySem.W.alike, alike_ints a b]
theorem lt_list (a b : List Int) : ltD (.list (a.map .int)) (.list (b.map .int)) = some (.bool (decide (a < b))) := by
  unfold ltD
  have e : ordP (.list (a.map .int)) (.list (b.map .int)) = true := by
    simp [ordP, PySem.W.alike, alike_ints, PyData.depth, depth_ints]
  rw [if_pos e, PySem.W.dataLt_list]
  exact congrArg (fun z => some (PyData.bool z)) (PySem.W.dataLt_ints a b)
theorem lt_tuple (a b : List Int) : ltD (.tuple (a.map .int)) (.tuple (b.map .int)) = some (.bool (decide (a < b))) := by
  unfold ltD
  have e : ordP (.tuple (a.map .int)) (.tuple (b.map .int)) = true := by
    simp [ordP, PySem.W.alike, alike_ints, PyData.depth, depth_ints]
  rw [if_pos e, PySem.W.dataLt_tuple]
  exact congrArg (fun z => some (PyData.bool z)) (PySem.W.dataLt_ints a b)
/-! ### keys -/
def byd (ns : List Int) : List Int := ns.sum :: ns.reverse.map fun x => -x
def dotI : List Int → List Int → Int
  | a :: r, b :: v => a * b + dotI r v
  | _, _ => 0
theorem byd_len (ns : List Int) : (byd ns).length = ns.length + 1 := by simp [byd]
theorem vadd_neg_rev {a b : List Int} (h : a.length = b.length) : (vadd a b).reverse.map (fun x => -x) = vadd (a.reverse.map fun x => -x) (b.reverse.map fun x => -x) := by
  unfold vadd
  rw [List.reverse_zipWith h, List.map_zipWith, List.zipWith_map]
  congr 1
  funext x y
  omega
theorem byd_vadd {a b : List Int} (h : a.length = b.length) : byd (vadd a b) = vadd (byd a) (byd b) := by
  unfold byd
  rw [vadd_neg_rev h, sum_vadd h]
  rfl
theorem byd_zero (n : Nat) : byd (List.replicate n 0) = List.replicate (n + 1) 0 := by
  unfold byd
  rw [List.reverse_replicate, List.map_replicate, List.replicate_succ]
  congr 1
  induction n with
  | zero => rfl
  | succ n ih => rw [List.replicate_succ, List.sum_cons, ih]; rfl
theorem byd_pos {v : List Int} (h : ∀ x ∈ v, 0 ≤ x) (hn : v ≠ List.replicate v.length 0) (s t : List Int) : List.replicate (v.length + 1) 0 ++ s < byd v ++ t := by
  obtain ⟨h1, h2⟩ := sum_nn h
  unfold byd
  rw [List.replicate_succ, List.cons_append, List.cons_append, List.cons_lt_cons_iff]
  left
  have : v.sum ≠ 0 := fun e => hn (h2 e)
  omega
theorem dot_vadd : ∀ (r a b : List Int), a.length = b.length → dotI r (vadd a b) = dotI r a + dotI r b
  | [], a, b, _ => by cases a <;> cases b <;> rfl
  | _ :: _, [], [], _ => rfl
  | _ :: _, [], _ :: _, h => by simp at h
  | _ :: _, _ :: _, [], h => by simp at h
  | x :: r, y :: a, z :: b, h => by
    show x * (y + z) + dotI r (vadd a b) = _
    rw [dot_vadd r a b (by simpa using h)]
    show _ = (x * y + dotI r a) + (x * z + dotI r b)
    rw [Int.mul_add]
    omega
theorem dot_nn : ∀ (r v : List Int), (∀ x ∈ r, 0 ≤ x) → (∀ x ∈ v, 0 ≤ x) → 0 ≤ dotI r v
  | [], v, _, _ => by cases v <;> exact Int.le_refl _
  | _ :: _, [], _, _ => Int.le_refl _
  | a :: r, b :: v, h1, h2 => by
    have := Int.mul_nonneg (h1 a List.mem_cons_self) (h2 b List.mem_cons_self)
    have := dot_nn r v (fun x hx => h1 x (List.mem_cons_of_mem _ hx)) fun x hx => h2 x (List.mem_cons_of_mem _ hx)
    show 0 ≤ a * b + dotI r v
    omega
theorem dot_zeroI : ∀ (n : Nat) (r : List Int), dotI r (List.replicate n 0) = 0
  | 0, [] => rfl
  | 0, _ :: _ => rfl
  | n + 1, [] => rfl
  | n + 1, a :: r => by
    show a * 0 + dotI r (List.replicate n 0) = 0
    rw [dot_zeroI n r]; omega
theorem dot_zeroL : ∀ (n : Nat) (v : List Int), dotI (List.replicate n 0) v = 0
  | 0, v => by cases v <;> rfl
  | n + 1, [] => rfl
  | n + 1, a :: v => by
    show 0 * a + dotI (List.replicate n 0) v = 0
    rw [dot_zeroL n v]; omega
theorem dot_unit : ∀ (n k : Nat) (v : List Int), v.length = n → (h : k < v.length) → dotI ((List.replicate n 0).set k 1) v = v[k]
  | n, _, [], _, h => by simp at h
  | n + 1, 0, b :: v, _, _ => by
    show 1 * b + dotI (List.replicate n 0) v = b
    rw [dot_zeroL]; omega
  | n + 1, k + 1, b :: v, e, h => by
    show 0 * b + dotI ((List.replicate n 0).set k 1) v = v[k]'(by simpa using h)
    rw [dot_unit n k v (by simpa using e) (by simpa using h)]; omega
end DL
namespace DL
open PySem PySem.Spec L2
/-! # PL, twelfth part: keys of monomials, is_below. -/
theorem comp_neg (ns : List Int) (h : ns.length ≤ 1000) {f : D → M (Option D)} (hf : ∀ d, f d = elM (pure true) (lift (negD d))) : lcM f (ns.map .int) = pure ((ns.map fun x => -x).map .int) := by
  rw [lcM_of (g := fun x : Int => .int (-x)) h (fun x _ => by rw [hf, elM_true, neg_int, lift_some, pure_bind]), List.map_map]
  rfl
theorem q_by_degree (ns : List Int) (h : ns.length ≤ 1000) : m_by_degree (.tuple (ns.map .int)) = pure (.tuple ((byd ns).map .int)) := by
  unfold m_by_degree
  simp only [pure_bind, sum_tuple, lift_some, asSq_tuple]
  rw [mkTup_of (by simp), pure_bind, ← List.map_reverse, comp_neg ns.reverse (by simpa using h) (fun d => rfl)]
  simp only [pure_bind, tuple_list, lift_some]
  rw [add_tup (by simp; omega), lift_some]
  rfl
theorem q_dots {rows : List (List Int)} {ns : List Int} (hr : rows.length ≤ 1000) (hl : ns.length ≤ 1000) (hb : ∀ r ∈ rows, ∀ x ∈ r, x.natAbs < 2 ^ 64) (hn : ∀ x ∈ ns, x.natAbs < 2 ^ 64) {f : D → M (Option D)}
    (hf : ∀ d, f d = elM (pure true) (do let ds ← asZip d (.tuple (ns.map .int)); let l ← lcM (two fun a b => elM (pure true) (lift (mulD a b))) ds; lift (sumD [.list l]))) : lcM f (rows.map encI) = pure ((rows.map fun r => dotI r ns).map .int) := by
  rw [lcM_of (g := fun r => .int (dotI r ns)) hr (fun r hm => by
    rw [hf, elM_true]
    unfold encI
    simp only [asZip_tuple, pure_bind]
    rw [zip_ints, lcM_of (g := fun p : Int × Int => .int (p.1 * p.2)) (by rw [List.length_zip]; omega) (fun p hp => by
      have h1 := hb r hm _ (List.of_mem_zip hp).1
      have h2 := hn _ (List.of_mem_zip hp).2
      rw [two_tup, elM_true, mul_int h1 h2 (by omega), lift_some, pure_bind])]
    have e : (List.zip r ns).map (fun p : Int × Int => PyData.int (p.1 * p.2)) = ((List.zip r ns).map fun p => p.1 * p.2).map .int := by rw [List.map_map]; rfl
    have e2 : ∀ (r ns : List Int), ((List.zip r ns).map fun p => p.1 * p.2).sum = dotI r ns := fun r => by
      induction r with
      | nil => intro ns; cases ns <;> rfl
      | cons a r ih => intro ns; cases ns with
        | nil => rfl
        | cons b v => rw [List.zip_cons_cons, List.map_cons, List.sum_cons, ih]; rfl
    simp only [pure_bind, e, sum_list, lift_some, e2]), List.map_map]
  rfl
theorem cut_to (ns : List Int) (k : Nat) (h : k ≤ ns.length) : cutL (ns.map PyData.int) none (some (k : Int)) = (ns.take k).map .int := by
  unfold cutL
  rw [List.length_map]
  have e1 : HT.sIx ns.length 0 none = 0 := rfl
  have e2 : HT.sIx ns.length ns.length (some (k : Int)) = k := by
    unfold HT.sIx
    dsimp only
    split <;> omega
  rw [e1, e2, List.drop_zero, Nat.sub_zero, List.map_take]
theorem cut_from (ns : List Int) (k : Nat) (h : k ≤ ns.length) : cutL (ns.map PyData.int) (some (k : Int)) none = (ns.drop k).map .int := by
  unfold cutL
  rw [List.length_map]
  have e1 : HT.sIx ns.length ns.length none = ns.length := rfl
  have e2 : HT.sIx ns.length 0 (some (k : Int)) = k := by
    unfold HT.sIx
    dsimp only
    split <;> omega
  rw [e1, e2, List.map_drop, List.take_of_length_le (by simp)]
/-- the law's own key by degrees -/
theorem q_key_l0 (kk : D → M D) (f p1 p2 : List Int) (h : f.length ≤ 1000) (h1 : p1.length ≤ 1000) (h2 : p2.length ≤ 1000) : m__law_key_l0 kk [.tuple (p1.map .int), .tuple (p2.map .int)] (.list (f.map .int)) = kk (.list ((f ++ byd p1 ++ byd p2).map .int)) := by
  have step : ∀ (rest : List D) (f p : List Int), f.length ≤ 3000 → p.length ≤ 1000 → m__law_key_l0 kk (.tuple (p.map .int) :: rest) (.list (f.map .int)) = m__law_key_l0 kk rest (.list ((f ++ byd p).map .int)) := fun rest f p hf hp => by
    rw [m__law_key_l0]
    simp only [pure_bind, sum_tuple, lift_some, rev_tuple, asSq_tuple]
    rw [mkLst_of (by simp), pure_bind, add_lst (by simp; omega), lift_some, pure_bind, ← List.map_reverse, comp_neg p.reverse (by simpa using hp) (fun d => rfl)]
    simp only [pure_bind]
    rw [add_lst (by simp; omega), lift_some, pure_bind]
    congr 2
    unfold byd
    simp
  rw [step _ f p1 (by omega) h1, step _ (f ++ byd p1) p2 (by rw [List.length_append, byd_len]; omega) h2]
  rfl
/-- exponents of so many variables -/
def Mo (c : Nat) (ns : List Int) : Prop := ns.length = c ∧ ∀ x ∈ ns, 0 ≤ x ∧ x ≤ 60
theorem Mo.nn {c : Nat} {ns : List Int} (h : Mo c ns) : ∀ x ∈ ns, 0 ≤ x := fun x hx => (h.2 x hx).1
theorem Mo.sm {c : Nat} {ns : List Int} (h : Mo c ns) : ∀ x ∈ ns, x.natAbs < 2 ^ 64 := fun x hx => by
  have := h.2 x hx
  omega
structure Keys (c : Nat) (o : D) (kl kp : List Int → List Int) : Prop where
  ql : ∀ ns, Mo c ns → m__law_key o (.tuple (ns.map .int)) = pure (.list ((kl ns).map .int))
  qp : ∀ ns, Mo c ns → m_key_of o (.tuple (ns.map .int)) = pure (.tuple ((kp ns).map .int))
  same : ∀ a b, Mo c a → Mo c b → (kl a < kl b ↔ kp a < kp b)
  shift : ∀ a b d, a.length = c → b.length = c → d.length = c → (kp (vadd a d) < kp (vadd b d) ↔ kp a < kp b)
  zero : ∀ a, Mo c a → a ≠ List.replicate c 0 → kp (List.replicate c 0) < kp a
theorem ord_keys {c : Nat} (hc : c ≤ 4) {o : D} (h : OrdOk c o) : ∃ kl kp, Keys c o kl kp := by
  rcases h with rfl | rfl | ⟨k, hk, rfl⟩ | ⟨rows, hr, rfl⟩
  · refine ⟨id, id, fun ns hn => ?_, fun ns hn => ?_, fun a b _ _ => Iff.rfl, fun a b d h1 h2 h3 => lt_vadd a b d (by omega) (by omega), fun a ha hn => ?_⟩
    · unfold m__law_key
      simp [ix_tuple0]
    · unfold m_key_of
      simp [ix_tuple0]
    · obtain ⟨e1, e2⟩ := ha
      subst e1
      exact pos_lt a (fun x hx => (e2 x hx).1) (not_zero hn)
  · refine ⟨fun ns => byd ns ++ [0], byd, fun ns hn => ?_, fun ns hn => ?_, fun a b ha hb => lt_app _ _ _ (by rw [byd_len, byd_len, ha.1, hb.1]), fun a b d h1 h2 h3 => ?_, fun a ha hn => ?_⟩
    · unfold m__law_key
      simp only [pure_bind, ix_tuple0, lift_some, eq_str, asB_bool, show decide (("degree" : Str) = "lex") = false from by decide, show decide (("degree" : Str) = "weights") = false from by decide, decide_true, Bool.false_eq_true, if_false, if_true, len_tuple, asI_int, sl_tuple, mkLst_of (show ([] : List D).length ≤ 1000 by simp)]
      rw [List.length_map, cut_to ns ns.length (Nat.le_refl _), cut_from ns ns.length (Nat.le_refl _)]
      rw [mkLst_of (by simp), pure_bind, asSq_list, pure_bind]
      have q := q_key_l0 (fun v => pure v) [] (ns.take ns.length) (ns.drop ns.length) (by simp) (by simp; have := hn.1; omega) (by simp)
      rw [List.map_nil] at q
      rw [q, List.take_length, List.drop_length]
      rfl
    · unfold m_key_of
      simp only [pure_bind, ix_tuple0, lift_some, eq_str, asB_bool, show decide (("degree" : Str) = "lex") = false from by decide, decide_true, Bool.false_eq_true, if_false, if_true, List.map_nil, List.append_nil, fn1_dat]
      exact q_by_degree ns (by have := hn.1; omega)
    · rw [byd_vadd (by omega), byd_vadd (by omega)]
      exact lt_vadd _ _ _ (by rw [byd_len, byd_len]; omega) (by rw [byd_len, byd_len]; omega)
    · have e1 := ha.1
      subst e1
      have := byd_pos ha.nn hn [] []
      rw [List.append_nil, List.append_nil] at this
      rw [byd_zero]
      exact this
  · refine ⟨fun ns => byd (ns.take k) ++ byd (ns.drop k), fun ns => byd (ns.take k) ++ byd (ns.drop k), fun ns hn => ?_, fun ns hn => ?_, fun a b ha hb => Iff.rfl, fun a b d h1 h2 h3 => ?_, fun a ha hn => ?_⟩
    · unfold m__law_key
      simp only [pure_bind, ix_tuple0, ix_tuple1, lift_some, eq_str, asB_bool, show decide (("out" : Str) = "lex") = false from by decide, show decide (("out" : Str) = "weights") = false from by decide, show decide (("out" : Str) = "degree") = false from by decide, Bool.false_eq_true, if_false, asI_int, sl_tuple, mkLst_of (show ([] : List D).length ≤ 1000 by simp)]
      rw [cut_to ns k (by rw [hn.1]; exact hk), cut_from ns k (by rw [hn.1]; exact hk)]
      rw [mkLst_of (by simp), pure_bind, asSq_list, pure_bind]
      have q := q_key_l0 (fun v => pure v) [] (ns.take k) (ns.drop k) (by simp) (by simp; have := hn.1; omega) (by simp; have := hn.1; omega)
      rw [List.map_nil] at q
      rw [q]
      rfl
    · unfold m_key_of
      simp only [pure_bind, ix_tuple0, ix_tuple1, lift_some, eq_str, asB_bool, show decide (("out" : Str) = "lex") = false from by decide, show decide (("out" : Str) = "degree") = false from by decide, decide_true, Bool.false_eq_true, if_false, if_true, asI_int, sl_tuple, List.map_nil, List.append_nil, fn1_dat]
      rw [cut_to ns k (by rw [hn.1]; exact hk), cut_from ns k (by rw [hn.1]; exact hk)]
      rw [q_by_degree _ (by simp; have := hn.1; omega), pure_bind, q_by_degree _ (by simp; have := hn.1; omega), pure_bind, add_tup (by simp [byd_len]; have := hn.1; omega), lift_some, ← List.map_append]
    · have et : ∀ x y : List Int, x.length = c → y.length = c → byd ((vadd x y).take k) ++ byd ((vadd x y).drop k) = vadd (byd (x.take k) ++ byd (x.drop k)) (byd (y.take k) ++ byd (y.drop k)) := fun x y hx hy => by
        have e1 : (vadd x y).take k = vadd (x.take k) (y.take k) := by unfold vadd; rw [List.take_zipWith]
        have e2 : (vadd x y).drop k = vadd (x.drop k) (y.drop k) := by unfold vadd; rw [List.drop_zipWith]
        rw [e1, e2, byd_vadd (by simp; omega), byd_vadd (by simp; omega), vadd_app (by simp [byd_len]; omega)]
      show byd ((vadd a d).take k) ++ byd ((vadd a d).drop k) < byd ((vadd b d).take k) ++ byd ((vadd b d).drop k) ↔ _
      rw [et a d h1 h3, et b d h2 h3]
      exact lt_vadd _ _ _ (by simp [byd_len]; omega) (by simp [byd_len]; omega)
    · have e1 := ha.1
      show byd ((List.replicate c 0).take k) ++ byd ((List.replicate c 0).drop k) < byd (a.take k) ++ byd (a.drop k)
      rw [List.take_replicate, List.drop_replicate, byd_zero, byd_zero, Nat.min_eq_left hk]
      have hal : (a.take k).length = k := by rw [List.length_take]; omega
      have had : (a.drop k).length = c - k := by rw [List.length_drop]; omega
      by_cases hz : a.take k = List.replicate (a.take k).length 0
      · have hz2 : a.drop k ≠ List.replicate (a.drop k).length 0 := fun e => hn (by
          rw [← List.take_append_drop k a, hz, e, hal, had, List.replicate_append_replicate]
          congr 1; omega)
        rw [hz, hal, byd_zero, lt_pre]
        have := byd_pos (fun x hx => ha.nn x (List.mem_of_mem_drop hx)) hz2 [] []
        rw [List.append_nil, List.append_nil, had] at this
        exact this
      · have := byd_pos (fun x hx => ha.nn x (List.mem_of_mem_take hx)) hz (List.replicate (c - k + 1) 0) (byd (a.drop k))
        rw [hal] at this
        exact this
  · have hrl := hr.1
    have hb : ∀ r ∈ rows, ∀ x ∈ r, x.natAbs < 2 ^ 64 := fun r hm x hx => by have := (hr.2.1 r hm).2 x hx; omega
    refine ⟨fun ns => rows.map fun r => dotI r ns, fun ns => rows.map fun r => dotI r ns, fun ns hn => ?_, fun ns hn => ?_, fun a b ha hb => Iff.rfl, fun a b d h1 h2 h3 => ?_, fun a ha hn => ?_⟩
    · unfold m__law_key
      simp only [pure_bind, ix_tuple0, ix_tuple1, lift_some, eq_str, asB_bool, show decide (("weights" : Str) = "lex") = false from by decide, decide_true, Bool.false_eq_true, if_false, if_true, asSq_tuple]
      rw [q_dots (by omega) (by have := hn.1; omega) hb hn.sm (fun d => by simp only [pure_bind, bind_assoc]), pure_bind]
    · unfold m_key_of
      simp only [pure_bind, ix_tuple0, ix_tuple1, lift_some, eq_str, asB_bool, show decide (("weights" : Str) = "lex") = false from by decide, show decide (("weights" : Str) = "degree") = false from by decide, show decide (("weights" : Str) = "out") = false from by decide, Bool.false_eq_true, if_false, asSq_tuple]
      rw [q_dots (by omega) (by have := hn.1; omega) hb hn.sm (fun d => by simp only [pure_bind, bind_assoc])]
      simp only [pure_bind, tuple_list, lift_some]
    · have et : ∀ x y : List Int, x.length = y.length → (rows.map fun r => dotI r (vadd x y)) = vadd (rows.map fun r => dotI r x) (rows.map fun r => dotI r y) := fun x y hxy => by
        unfold vadd
        rw [List.zipWith_map, List.zipWith_self]
        apply List.map_congr_left
        intro r _
        exact dot_vadd r x y hxy
      show (rows.map fun r => dotI r (vadd a d)) < (rows.map fun r => dotI r (vadd b d)) ↔ _
      rw [et a d (by omega), et b d (by omega)]
      exact lt_vadd _ _ _ (by simp) (by simp)
    · have e1 := ha.1
      show (rows.map fun r => dotI r (List.replicate c 0)) < rows.map fun r => dotI r a
      have ez : (rows.map fun r => dotI r (List.replicate c 0)) = List.replicate (rows.map fun r => dotI r a).length 0 := by
        rw [List.length_map]
        refine List.eq_replicate_iff.mpr ⟨by simp, fun x hx => ?_⟩
        obtain ⟨r, _, rfl⟩ := List.mem_map.mp hx
        exact dot_zeroI _ _
      rw [ez]
      refine pos_lt _ (fun x hx => ?_) ?_
      · obtain ⟨r, hm, rfl⟩ := List.mem_map.mp hx
        exact dot_nn r a (fun z hz => ((hr.2.1 r hm).2 z hz).1) ha.nn
      · subst e1
        obtain ⟨x, hx, hx0⟩ := not_zero hn
        obtain ⟨i, hi, rfl⟩ := List.mem_iff_getElem.mp hx
        exact ⟨_, List.mem_map.mpr ⟨_, hr.2.2 i hi, rfl⟩, by rw [dot_unit a.length i a rfl hi]; exact hx0⟩
end DL
namespace DL
open PySem PySem.Spec L2
/-! # PL, thirteenth part: two monomials; the law. -/
section
variable {c : Nat}
theorem mo_allB {ns : List Int} (h : Mo c ns) : allB (.tuple (ns.map .int)) 0 60 = true := by
  show ((ns.map PyData.int).all fun d => inB d 0 60) = true
  rw [List.all_map, List.all_eq_true]
  intro x hx
  have := h.2 x hx
  show inB (.int x) 0 60 = true
  simp [inB, this]
theorem q_need_mono (hc : c ≤ 4) {ns : List Int} (h : Mo c ns) : m_need_monomial (.tuple (ns.map .int)) = pure (.tuple (ns.map .int)) := by
  unfold m_need_monomial
  have hl := h.1
  simp only [pure_bind, g_MOST_EXPONENT, g_MOST_VARIABLES, List.map_nil, List.append_nil, fn3_dat, q_are_wholes (.tuple (ns.map .int)) 0 60 (show (ns.map PyData.int).length ≤ 1000 by rw [List.length_map]; omega), mo_allB h, asB_bool, Bool.not_true, Bool.false_eq_true, if_false, len_tuple, lift_some, gt_int, List.length_map]
  rw [decide_eq_false (by omega)]
  rfl
theorem q_need_two (hc : c ≤ 4) {a b : List Int} (ha : Mo c a) (hb : Mo c b) : m_need_two (.tuple (a.map .int)) (.tuple (b.map .int)) = pure .none := by
  unfold m_need_two
  simp only [pure_bind, List.map_nil, List.append_nil, fn1_dat, q_need_mono hc ha, q_need_mono hc hb, len_tuple, lift_some, ne_int, asB_bool, List.length_map]
  rw [ha.1, hb.1]
  simp
theorem q_is_below (hc : c ≤ 4) {o : D} (ho : OrdOk c o) {kl kp : List Int → List Int} (K : Keys c o kl kp) {a b : List Int} (ha : Mo c a) (hb : Mo c b) : m_is_below (.tuple (a.map .int)) (.tuple (b.map .int)) o = pure (.bool (decide (kp a < kp b))) := by
  unfold m_is_below
  simp only [pure_bind, List.map_nil, List.append_nil, fn2_dat, q_need_two hc ha hb, len_tuple, lift_some, List.length_map]
  rw [ha.1, q_need_order hc o (ord_sane hc ho), ord_due ho]
  simp only [orderOr, pure_bind, K.qp a ha, K.qp b hb, lt_tuple, lift_some]
theorem q_zip2 {a b : List Int} (h : a.length ≤ 1000) {g : Int → Int → D} {f : D → M (Option D)} (hf : ∀ x y : Int, f (.tuple [.int x, .int y]) = pure (some (g x y))) : lcM f (zipL (a.map .int) (b.map .int)) = pure ((List.zip a b).map fun p => g p.1 p.2) := by
  rw [zip_ints]
  exact lcM_of (by rw [List.length_zip]; omega) fun p _ => hf p.1 p.2
theorem zip_int {a b : List Int} {g : Int → Int → Int} : ((List.zip a b).map fun p => PyData.int (g p.1 p.2)) = (List.zipWith g a b).map .int := by
  rw [List.zip_eq_zipWith, List.map_zipWith, List.map_zipWith]
def allLe (a b : List Int) : Bool := (List.zip a b).all fun p => decide (p.1 ≤ p.2)
theorem q_divides {a b : List Int} (h : a.length ≤ 1000) : m_divides (.tuple (a.map .int)) (.tuple (b.map .int)) = pure (.bool (allLe a b)) := by
  unfold m_divides
  simp only [pure_bind, asZip_tuple]
  rw [q_zip2 h (g := fun x y => .bool (decide (x ≤ y))) (fun x y => by rw [two_tup, elM_true, le_int, lift_some, pure_bind])]
  have e : (List.zip a b).map (fun p => PyData.bool (decide (p.1 ≤ p.2))) = ((List.zip a b).map fun p => decide (p.1 ≤ p.2)).map .bool := by rw [List.map_map]; rfl
  simp only [pure_bind, e, all_bools, lift_some, List.all_map]
  rfl
theorem q_multiple {a b : List Int} (h : a.length ≤ 1000) : m_multiple_of (.tuple (a.map .int)) (.tuple (b.map .int)) = pure (.tuple ((List.zipWith max a b).map .int)) := by
  unfold m_multiple_of
  simp only [pure_bind, asZip_tuple]
  rw [q_zip2 h (g := fun x y => .int (max x y)) (fun x y => by rw [two_tup, elM_true, max_int, lift_some, pure_bind])]
  simp only [pure_bind, tuple_list, lift_some, zip_int]
theorem q_divisor {a b : List Int} (h : a.length ≤ 1000) : m_divisor_of (.tuple (a.map .int)) (.tuple (b.map .int)) = pure (.tuple ((List.zipWith min a b).map .int)) := by
  unfold m_divisor_of
  simp only [pure_bind, asZip_tuple]
  rw [q_zip2 h (g := fun x y => .int (min x y)) (fun x y => by rw [two_tup, elM_true, min_int, lift_some, pure_bind])]
  simp only [pure_bind, tuple_list, lift_some, zip_int]
theorem q_ldivides {a b : List Int} (h : a.length ≤ 1000) : m__law_divides (.tuple (a.map .int)) (.tuple (b.map .int)) = pure (.bool (allLe a b)) := by
  unfold m__law_divides
  simp only [pure_bind, asZip_tuple, mkLst_of (show ([] : List D).length ≤ 1000 by simp)]
  rw [zip_ints, lcM_if (p := fun p : Int × Int => decide (p.2 < p.1)) (g := fun _ => .int 1) (by rw [List.length_zip]; omega) (fun p _ => by
    rw [two_tup, gt_int, lift_some, pure_bind, asB_bool, elM_pure])]
  rw [pure_bind]
  have ep : ((List.zip a b).filter fun p : Int × Int => decide (p.2 < p.1)).map (fun _ => PyData.int 1) = (((List.zip a b).filter fun p : Int × Int => decide (p.2 < p.1)).map fun _ => (1 : Int)).map .int := by rw [List.map_map]; rfl
  rw [ep, pure_bind, eq_plain (x := .list _) (y := .list []) (by show PyData.plainAll _ = true; exact plain_ints _) rfl (by show PyData.depthAll _ + 1 ≤ 60; rw [depth_ints]; omega) (by simp [PyData.depth, PyData.depthAll]), lift_some]
  congr 2
  unfold allLe
  generalize List.zip a b = ps
  induction ps with
  | nil => simp [PyData.eqv, PyData.eqvAll]
  | cons p ps ih =>
    rw [List.filter_cons, List.all_cons]
    by_cases hp : p.2 < p.1
    · rw [if_pos (decide_eq_true hp), decide_eq_false (show ¬ p.1 ≤ p.2 by omega)]
      simp [PyData.eqv, PyData.eqvAll]
    · rw [if_neg (by simpa using hp), decide_eq_true (show p.1 ≤ p.2 by omega), Bool.true_and]
      exact ih
theorem q_monomial_divides (hc : c ≤ 4) {a b : List Int} (ha : Mo c a) (hb : Mo c b) : m_monomial_divides (.tuple (a.map .int)) (.tuple (b.map .int)) = pure (.bool (allLe a b)) := by
  unfold m_monomial_divides
  simp only [pure_bind, List.map_nil, List.append_nil, fn2_dat, q_need_two hc ha hb]
  exact q_divides (by have := ha.1; omega)
theorem q_least_multiple (hc : c ≤ 4) {a b : List Int} (ha : Mo c a) (hb : Mo c b) : m_least_multiple (.tuple (a.map .int)) (.tuple (b.map .int)) = pure (.tuple ((List.zipWith max a b).map .int)) := by
  unfold m_least_multiple
  simp only [pure_bind, List.map_nil, List.append_nil, fn2_dat, q_need_two hc ha hb]
  exact q_multiple (by have := ha.1; omega)
theorem q_greatest_divisor (hc : c ≤ 4) {a b : List Int} (ha : Mo c a) (hb : Mo c b) : m_greatest_divisor (.tuple (a.map .int)) (.tuple (b.map .int)) = pure (.tuple ((List.zipWith min a b).map .int)) := by
  unfold m_greatest_divisor
  simp only [pure_bind, List.map_nil, List.append_nil, fn2_dat, q_need_two hc ha hb]
  exact q_divisor (by have := ha.1; omega)
theorem maxL_ge : ∀ {ns : List Int} {n : Int}, n ∈ ns → n ≤ maxL ns
  | [m], n, h => by simp at h; subst h; exact Int.le_refl _
  | m :: k :: r, n, h => by
    show n ≤ max m (maxL (k :: r))
    rcases List.mem_cons.mp h with e | h
    · subst e; exact Int.le_max_left _ _
    · exact Int.le_trans (maxL_ge h) (Int.le_max_right _ _)
theorem max_list (ns : List Int) (h : ns ≠ []) : maxD [.list (ns.map .int)] = some (.int (maxL ns)) := by
  show (asInts (ns.map .int)).bind _ = _
  rw [ints_map']
  exact if_neg h
theorem ne_bool (a b : Bool) : neD' (.bool a) (.bool b) = some (.bool (!decide (a = b))) := by
  rw [ne_plain rfl rfl (by simp [PyData.depth]) (by simp [PyData.depth])]
  cases a <;> cases b <;> simp [PyData.eqv]
theorem isNot_bool (a b : Bool) : isNotD (.bool a) (.bool b) = some (.bool (!decide (a = b))) := rfl
theorem lk_told {b : Bool} {x y : List Int} (hx : x.length ≤ 1000) (hy : y.length ≤ 1000) : Lk 8 (.list [.bool b, .tuple (x.map .int), .tuple (y.map .int)]) := by
  refine ⟨by simp [PyData.plain, PyData.plainAll, plain_ints], by simp [PyData.depth, PyData.depthAll, depth_ints], by simp [lens, lensAll, lens_ints]; exact ⟨hx, hy⟩⟩
theorem below_l1 (hc : c ≤ 4) {o : D} (ho : OrdOk c o) {kl kp : List Int → List Int} (K : Keys c o kl kp) {one : List Int} (h1 : Mo c one) {kk : Unit → M D} {k : Nat} {P : D → Prop} (hk : Run (kk ()) k P) : ∀ (os : List (List Int)), (∀ b ∈ os, Mo c b) →
    Run (m__law_below_right_l1 (.int (c : Int)) (.tuple (one.map .int)) o kk (os.map encI) ()) (os.length * 4 + k) P
  | [], _ => by
    unfold m__law_below_right_l1
    simp only [List.map_nil, List.length_nil, Nat.zero_mul, Nat.zero_add]
    exact hk
  | b :: os, h => by
    have hb := h b List.mem_cons_self
    have hl1 : one.length ≤ 1000 := by have := h1.1; omega
    rw [List.map_cons, show encI b = .tuple (b.map .int) from rfl]
    unfold m__law_below_right_l1
    simp only [pure_bind, List.map_nil, List.append_nil, fn2_dat, fn3_dat, fm2_dat, K.ql one h1, K.ql b hb, lt_list, lift_some, pi_is_below_order_other_monomial, q_is_below hc ho K h1 hb]
    have hs := K.same one b h1 hb
    rw [show decide (kl one < kl b) = decide (kp one < kp b) from decide_eq_decide.mpr hs]
    rw [q_like ⟨rfl, by simp [PyData.depth], rfl⟩]
    simp only [pure_bind, asB_bool, Bool.not_true, Bool.false_eq_true, if_false, bind_assoc]
    rw [show (3 : Int) = ((3 : Nat) : Int) from rfl]
    refine (Run.bind (k1 := 4) (k2 := os.length * 4 + k) (run_mono (c := c) (dg := 3) (by omega) (by omega)) fun d ⟨by_, e, hy1, hy2⟩ => ?_).mono (by rw [List.length_cons]; omega) fun _ z => z
    subst e
    have za : ∀ x : List Int, Mo c x → lcM (two fun a b => elM (pure true) (lift (addD a b))) (zipL (x.map .int) (by_.map .int)) = pure ((vadd x by_).map .int) := fun x hx => by
      rw [q_zip2 (by have := hx.1; omega) (g := fun x y => .int (x + y)) (fun x y => by rw [two_tup, elM_true, add_int, lift_some, pure_bind]), zip_int (g := fun x y => x + y)]
      rfl
    simp only [asZip_tuple, pure_bind, za one h1, za b hb, mkLst_of (show ([PyData.int 0] : List D).length ≤ 1000 by simp)]
    have ll : ∀ x : List Int, Mo c x → (vadd x by_).length = c := fun x hx => by rw [vadd_len (by rw [hx.1, hy1]), hx.1]
    rw [add_lst (by simp [ll one h1]; omega), lift_some, pure_bind, add_lst (by simp [ll one h1, ll b hb]; omega), lift_some, pure_bind]
    have em : [PyData.int 0] ++ (vadd one by_).map .int ++ (vadd b by_).map .int = ((0 : Int) :: (vadd one by_ ++ vadd b by_)).map .int := by simp
    rw [em, max_list _ (by simp)]
    simp only [lift_some, pure_bind, le_int, asB_bool, tuple_list, List.map_nil, List.append_nil, fn3_dat]
    -- both roads go on alike
    have rest : Run (do
        let x ← m_monomial_divides (.tuple (one.map .int)) (.tuple (b.map .int))
        let y ← m_least_multiple (.tuple (one.map .int)) (.tuple (b.map .int))
        let z ← m_greatest_divisor (.tuple (one.map .int)) (.tuple (b.map .int))
        let told ← mkLst [x, y, z]
        let ds1 ← lcM (two fun a b => elM (pure true) (lift (maxD [a, b]))) (zipL (one.map .int) (b.map .int))
        let ds2 ← lcM (two fun a b => elM (pure true) (lift (minD [a, b]))) (zipL (one.map .int) (b.map .int))
        let w ← m__law_divides (.tuple (one.map .int)) (.tuple (b.map .int))
        let due ← mkLst [w, .tuple ds1, .tuple ds2]
        let r ← m__law_like told due
        let k ← asB r
        if (!k) = true then pure (.bool false) else m__law_below_right_l1 (.int (c : Int)) (.tuple (one.map .int)) o kk (os.map encI) ()) (os.length * 4 + k) P := by
      rw [q_monomial_divides hc h1 hb, pure_bind, q_least_multiple hc h1 hb, pure_bind, q_greatest_divisor hc h1 hb, pure_bind, mkLst_of (by simp), pure_bind]
      rw [q_zip2 hl1 (g := fun x y => .int (max x y)) (fun x y => by rw [two_tup, elM_true, max_int, lift_some, pure_bind]), zip_int (g := max), pure_bind]
      rw [q_zip2 hl1 (g := fun x y => .int (min x y)) (fun x y => by rw [two_tup, elM_true, min_int, lift_some, pure_bind]), zip_int (g := min), pure_bind]
      rw [q_ldivides hl1, pure_bind, mkLst_of (by simp), pure_bind, q_like (lk_told (by rw [List.length_zipWith]; omega) (by rw [List.length_zipWith]; omega)), pure_bind, asB_bool, pure_bind]
      exact below_l1 hc ho K h1 hk os fun x hx => h x (List.mem_cons_of_mem _ hx)
    by_cases hmx : maxL (0 :: (vadd one by_ ++ vadd b by_)) ≤ 60
    · have mo : ∀ x : List Int, Mo c x → (∀ z ∈ vadd x by_, z ∈ (0 : Int) :: (vadd one by_ ++ vadd b by_)) → Mo c (vadd x by_) := fun x hx hz => by
        refine ⟨ll x hx, fun z hm => ⟨?_, Int.le_trans (maxL_ge (hz z hm)) hmx⟩⟩
        unfold vadd at hm
        rw [List.mem_iff_getElem?] at hm
        obtain ⟨i, hi⟩ := hm
        rw [List.getElem?_zipWith] at hi
        split at hi
        · rename_i p q e1 e2
          cases hi
          have := hx.2 _ (List.mem_of_getElem? e1)
          have := hy2 _ (List.mem_of_getElem? e2)
          omega
        · cases hi
      have m1 := mo one h1 (fun z hz => List.mem_cons_of_mem _ (List.mem_append_left _ hz))
      have m2 := mo b hb (fun z hz => List.mem_cons_of_mem _ (List.mem_append_right _ hz))
      have hsh := K.shift one b by_ h1.1 hb.1 hy1
      rw [if_pos (decide_eq_true hmx), q_is_below hc ho K m1 m2, show decide (kp (vadd one by_) < kp (vadd b by_)) = decide (kp one < kp b) from decide_eq_decide.mpr hsh]
      simp only [pure_bind, ne_bool, decide_true, Bool.not_true, lift_some, asB_bool, Bool.false_eq_true, if_false]
      simpa only [pure_bind, bind_assoc, pi_monomial_divides_other_monomial, pi_least_multiple_other_monomial, pi_greatest_divisor_monomial_other, fn2_dat, List.map_nil, List.append_nil, asZip_tuple] using rest
    · rw [if_neg (by simpa using hmx)]
      simp only [pure_bind, Bool.false_eq_true, if_false]
      simpa only [pure_bind, bind_assoc, pi_monomial_divides_other_monomial, pi_least_multiple_other_monomial, pi_greatest_divisor_monomial_other, fn2_dat, List.map_nil, List.append_nil, asZip_tuple] using rest
theorem eqv_ints : ∀ (a b : List Int), PyData.eqvAll (a.map .int) (b.map .int) = decide (a = b)
  | [], [] => by simp [PyData.eqvAll]
  | [], _ :: _ => by simp [PyData.eqvAll]
  | _ :: _, [] => by simp [PyData.eqvAll]
  | x :: a, y :: b => by
    simp only [List.map_cons, PyData.eqvAll, eqv_int, eqv_ints a b]
    by_cases h : x = y <;> simp [h]
theorem below_l0 (hc : c ≤ 4) {o : D} (ho : OrdOk c o) {kl kp : List Int → List Int} (K : Keys c o kl kp) {all : List (List Int)} (ha : ∀ b ∈ all, Mo c b) (hl : all.length ≤ 1000) {kk : Unit → M D} {k : Nat} {P : D → Prop} (hk : Run (kk ()) k P) : ∀ (os : List (List Int)), (∀ b ∈ os, Mo c b) →
    Run (m__law_below_right_l0 (.int (c : Int)) o (all.map encI) kk (os.map encI) ()) (os.length * (all.length * 4) + k) P
  | [], _ => by
    unfold m__law_below_right_l0
    simp only [List.map_nil, List.length_nil, Nat.zero_mul, Nat.zero_add]
    exact hk
  | b :: os, h => by
    have hb := h b List.mem_cons_self
    rw [List.map_cons, show encI b = .tuple (b.map .int) from rfl]
    unfold m__law_below_right_l0
    simp only [pure_bind, asSq_list]
    have e : (b :: os).length * (all.length * 4) + k = all.length * 4 + (os.length * (all.length * 4) + k) := by rw [List.length_cons, Nat.succ_mul]; omega
    rw [e]
    refine below_l1 hc ho K hb ?_ all ha
    have ih := below_l0 hc ho K ha hl hk os fun x hx => h x (List.mem_cons_of_mem _ hx)
    simp only [pure_bind, mkTup_of (show ([PyData.int 0] : List D).length ≤ 1000 by simp), mul_rep (x := .int 0) (n := c) (by omega), lift_some]
    rw [show PyData.tuple (List.replicate c (.int 0)) = .tuple ((List.replicate c (0 : Int)).map .int) by rw [List.map_replicate]]
    rw [ne_plain (x := .tuple (b.map .int)) (y := .tuple ((List.replicate c (0 : Int)).map .int)) (plain_ints _) (plain_ints _) (by show PyData.depthAll _ + 1 ≤ 60; rw [depth_ints]; omega) (by show PyData.depthAll _ + 1 ≤ 60; rw [depth_ints]; omega), lift_some, pure_bind, asB_bool, pure_bind]
    rw [show PyData.eqv (.tuple (b.map .int)) (.tuple ((List.replicate c (0 : Int)).map .int)) = decide (b = List.replicate c 0) from eqv_ints _ _]
    have hz : Mo c (List.replicate c 0) := ⟨by simp, fun x hx => by rw [List.eq_of_mem_replicate hx]; omega⟩
    by_cases hn : b = List.replicate c 0
    · rw [decide_eq_true hn]
      simpa using ih
    · rw [decide_eq_false hn]
      simp only [Bool.not_false, if_true, List.map_nil, List.append_nil, fn3_dat, q_is_below hc ho K hz hb, pure_bind, decide_eq_true (K.zero b hb hn), isNot_bool, decide_true, Bool.not_true, lift_some, asB_bool, Bool.false_eq_true, if_false]
      exact ih
theorem all_enc {p : List Int → Prop} : ∀ {ds : List D}, (∀ d ∈ ds, ∃ ns : List Int, d = encI ns ∧ p ns) → ∃ all : List (List Int), ds = all.map encI ∧ ∀ b ∈ all, p b
  | [], _ => ⟨[], rfl, by simp⟩
  | d :: ds, h => by
    obtain ⟨all, e, q⟩ := all_enc (ds := ds) fun x hx => h x (List.mem_cons_of_mem _ hx)
    obtain ⟨ns, e2, h2⟩ := h d List.mem_cons_self
    refine ⟨ns :: all, by rw [e, e2]; rfl, fun b hb => ?_⟩
    rcases List.mem_cons.mp hb with z | z
    · rw [z]; exact h2
    · exact q b z
theorem run_below_right (hc : c ≤ 4) {o : D} (ho : OrdOk c o) : Run (m__law_below_right (.int (c : Int)) o) 410 fun d => d = .bool true := by
  obtain ⟨kl, kp, K⟩ := ord_keys hc ho
  unfold m__law_below_right
  simp only [pure_bind, bind_assoc, asN_int (show -1000000 ≤ (5 : Int) ∧ (5 : Int) ≤ 1000000 by omega), mkLst_of, List.length_cons, List.length_nil, Nat.zero_add, Nat.reduceAdd, Nat.reduceLeDiff, List.map_nil, List.append_nil, fm1_dat, fm2_dat]
  rw [show (5 : Int).toNat = 5 from rfl, rng0]
  have q := Run.lc (l := List.range 5) (h := fun n : Nat => PyData.int (n : Int)) (f := fun _ => elM (Pure.pure true) (do let x ← m__law_of (.list [.int 2, .int 5, .int 60]); m__law_monomial (.int (c : Int)) x)) (k := 62) (P := fun d => ∃ ns : List Int, d = encI ns ∧ Mo c ns) (by simp) (fun a _ => Run.el (Run.bind (k1 := 1) (k2 := 61) (run_of (by simp) (by simp)) fun d hd => by
    have : ∃ dg : Nat, d = .int (dg : Int) ∧ dg ≤ 60 := by
      simp at hd
      rcases hd with e | e | e
      · exact ⟨2, e, by omega⟩
      · exact ⟨5, e, by omega⟩
      · exact ⟨60, e, by omega⟩
    obtain ⟨dg, rfl, hdg⟩ := this
    refine (run_mono (c := c) (dg := dg) (by omega) (by omega)).mono (by omega) fun d ⟨ns, e, h1, h2⟩ => ⟨ns, e, h1, fun x hx => by have := h2 x hx; omega⟩))
  refine Run.bind (k1 := 310) (k2 := 100) (q.mono (by simp) fun _ z => z) fun ds ⟨hl, hd⟩ => ?_
  have := all_enc hd
  obtain ⟨all, rfl, ha⟩ := this
  rw [List.length_map, List.length_range] at hl
  rw [asSq_list, pure_bind]
  exact (below_l0 (k := 0) (P := fun d => d = .bool true) hc ho K ha (by omega) (kk := fun _ => pure (.bool true)) (Run.pure rfl) all ha).mono (by rw [hl]; omega) fun _ z => z
end
end DL
namespace DL
open PySem PySem.Spec L2
/-! # PL, fourteenth part: the law's end. -/
theorem bad_mono {v : D} (hs : Short v) (h : allB v 0 60 = false) : m_need_monomial v = raise "BadMonomial" "value" v := by
  unfold m_need_monomial
  simp only [pure_bind, g_MOST_EXPONENT, List.map_nil, List.append_nil, fn3_dat, q_are_wholes v 0 60 hs, h, asB_bool, Bool.not_false, if_true]
theorem long_mono {ns : List Int} (h : allB (.tuple (ns.map .int)) 0 60 = true) (h4 : 4 < ns.length) (hl : ns.length ≤ 1000) : m_need_monomial (.tuple (ns.map .int)) = raise "BadMonomial" "value" (.tuple (ns.map .int)) := by
  unfold m_need_monomial
  simp only [pure_bind, g_MOST_EXPONENT, g_MOST_VARIABLES, List.map_nil, List.append_nil, fn3_dat, q_are_wholes (.tuple (ns.map .int)) 0 60 (show (ns.map PyData.int).length ≤ 1000 by rw [List.length_map]; exact hl), h, asB_bool, Bool.not_true, Bool.false_eq_true, if_false, len_tuple, lift_some, gt_int, List.length_map]
  rw [decide_eq_true (by omega)]
  rfl
theorem two_bad1 {v w : D} (h : m_need_monomial v = raise "BadMonomial" "value" v) : m_need_two v w = raise "BadMonomial" "value" v := by
  unfold m_need_two
  simp only [pure_bind, List.map_nil, List.append_nil, fn1_dat, h, raise_bind]
theorem two_bad2 {v w : D} (h1 : m_need_monomial v = pure v) (h : m_need_monomial w = raise "BadMonomial" "value" w) : m_need_two v w = raise "BadMonomial" "value" w := by
  unfold m_need_two
  simp only [pure_bind, List.map_nil, List.append_nil, fn1_dat, h1, h, raise_bind]
theorem two_len {a b : List Int} {c d : Nat} (hc : c ≤ 4) (hd : d ≤ 4) (ha : Mo c a) (hb : Mo d b) (h : c ≠ d) : m_need_two (.tuple (a.map .int)) (.tuple (b.map .int)) = raise "Unalike" "place" (.str "variables") := by
  unfold m_need_two
  simp only [pure_bind, List.map_nil, List.append_nil, fn1_dat, q_need_mono hc ha, q_need_mono hd hb, len_tuple, lift_some, ne_int, asB_bool, List.length_map]
  rw [ha.1, hb.1, decide_eq_true (show ((c : Int) ≠ (d : Int)) by omega)]
  rfl
theorem bad_count {v : D} (h : inB v 0 4 = false) : m_need_count v = raise "BadNumber" "value" v := by
  unfold m_need_count
  simp only [pure_bind, g_MOST_VARIABLES, List.map_nil, List.append_nil, fn3_dat, q_is_whole, h, asB_bool, Bool.not_false, if_true]
theorem heard1 {v : D} (h : inB v 0 4 = false) : heardM hdsK (m_need_order v .none) = pure (.list [.str "number", v]) := by
  refine heard_raise (cn := "BadNumber") (n := "value") (tag := "number") ?_ (by decide)
  unfold m_need_order
  simp only [pure_bind, List.map_nil, List.append_nil, fn1_dat, bad_count h, raise_bind]
theorem below_two {v w o : D} {cn n : Str} {x : D} (h : m_need_two v w = raise cn n x) : m_is_below v w o = raise cn n x := by
  unfold m_is_below
  simp only [pure_bind, List.map_nil, List.append_nil, fn2_dat, h, raise_bind]
theorem mo1 : Mo 1 [1] := ⟨rfl, by simp⟩
theorem heard2 : heardM hdsK (m_is_below (.tuple [.int 1, .int 61]) .none .none) = pure (.list [.str "monomial", .tuple [.int 1, .int 61]]) :=
  heard_raise (cn := "BadMonomial") (n := "value") (tag := "monomial") (below_two (two_bad1 (bad_mono (by simp [Short]) (by simp [allB, inB])))) (by decide)
theorem heard3 : heardM hdsK (m_is_below (.tuple [.int 1]) (.tuple [.int 1, .int 0]) .none) = pure (.list [.str "unalike", .str "variables"]) :=
  heard_raise (cn := "Unalike") (n := "place") (tag := "unalike") (below_two (two_len (a := [1]) (b := [1, 0]) (c := 1) (d := 2) (by omega) (by omega) mo1 ⟨rfl, by simp⟩ (by omega))) (by decide)
theorem heard4 : heardM hdsK (m_is_below (.tuple [.int 1]) (.tuple [.bool true]) .none) = pure (.list [.str "monomial", .tuple [.bool true]]) :=
  heard_raise (cn := "BadMonomial") (n := "value") (tag := "monomial") (below_two (two_bad2 (q_need_mono (c := 1) (ns := [1]) (by omega) mo1) (bad_mono (by simp [Short]) (by simp [allB, inB])))) (by decide)
theorem heard5 : heardM hdsK (m_is_below (.tuple [.int 1, .int 0]) (.tuple [.int 0, .int 1]) (.tuple [.str "out", .int 3])) = pure (.list [.str "order", .str "out"]) := by
  refine heard_raise (cn := "BadOrder") (n := "place") (tag := "order") ?_ (by decide)
  have h2 := q_need_two (c := 2) (a := [1, 0]) (b := [0, 1]) (by omega) ⟨rfl, by simp⟩ ⟨rfl, by simp⟩
  simp only [List.map_cons, List.map_nil] at h2
  unfold m_is_below
  simp only [pure_bind, List.map_nil, List.append_nil, fn2_dat, h2, len_tuple, lift_some]
  rw [show ((([PyData.int 1, PyData.int 0] : List D).length : Nat) : Int) = ((2 : Nat) : Int) from rfl, q_need_order (by omega) _ (sane2 rfl (by simp [PyData.depth]) fun rs e => by cases e)]
  rw [show due 2 (.tuple [.str "out", .int 3]) = some ("out" : Str) by simp [due, inB]]
  simp only [orderOr, raise_bind]
theorem heard6 : heardM hdsK (m_monomial_divides (.tuple [.int 0, .int 0, .int 0, .int 0, .int 0]) .none) = pure (.list [.str "monomial", .tuple [.int 0, .int 0, .int 0, .int 0, .int 0]]) := by
  refine heard_raise (cn := "BadMonomial") (n := "value") (tag := "monomial") ?_ (by decide)
  unfold m_monomial_divides
  simp only [pure_bind, List.map_nil, List.append_nil, fn2_dat, two_bad1 (v := .tuple [.int 0, .int 0, .int 0, .int 0, .int 0]) (w := .none) (long_mono (ns := [0, 0, 0, 0, 0]) (by simp [allB, inB]) (by simp) (by simp)), raise_bind]
theorem heard7 : heardM hdsK (m_least_multiple (.tuple [.int 1]) (.tuple [])) = pure (.list [.str "unalike", .str "variables"]) := by
  refine heard_raise (cn := "Unalike") (n := "place") (tag := "unalike") ?_ (by decide)
  have h2 := two_len (a := [1]) (b := []) (c := 1) (d := 0) (by omega) (by omega) mo1 ⟨rfl, by simp⟩ (by omega)
  simp only [List.map_cons, List.map_nil] at h2
  unfold m_least_multiple
  simp only [pure_bind, List.map_nil, List.append_nil, fn2_dat, h2, raise_bind]
theorem heard8 : heardM hdsK (m_greatest_divisor (.tuple [.int 1]) (.list [.int 1])) = pure (.list [.str "monomial", .list [.int 1]]) := by
  refine heard_raise (cn := "BadMonomial") (n := "value") (tag := "monomial") ?_ (by decide)
  have h2 := two_bad2 (v := .tuple [.int 1]) (w := .list [.int 1]) (q_need_mono (c := 1) (ns := [1]) (by omega) mo1) (bad_mono (by simp [Short]) (by simp [allB]))
  unfold m_greatest_divisor
  simp only [pure_bind, List.map_nil, List.append_nil, fn2_dat, h2, raise_bind]
theorem law_l0 {kk : Unit → M D} {k : Nat} {P : D → Prop} (hk : Run (kk ()) k P) : ∀ (ds : List D), Run (m_law_l0 kk ds ()) (ds.length * 600 + k) P
  | [] => by
    unfold m_law_l0
    simp only [List.length_nil, Nat.zero_mul, Nat.zero_add]
    exact hk
  | d :: ds => by
    unfold m_law_l0
    simp only [pure_bind, List.map_nil, List.append_nil, fm1_dat, fm2_dat, bind_assoc]
    have e : (d :: ds).length * 600 + k = 1 + (599 + (ds.length * 600 + k)) := by rw [List.length_cons]; omega
    rw [e]
    refine .bind (run_draw (k := 5) (by omega) (by omega)) fun d ⟨i, e, i0, i1⟩ => ?_
    obtain ⟨c, rfl⟩ := Int.eq_ofNat_of_zero_le i0
    subst e
    have hc : c ≤ 4 := by omega
    refine Run.mono (k1 := 9 + (103 + (410 + (ds.length * 600 + k)))) (.bind (run_some_order hc) fun o ho => .bind (run_orders_right hc) fun d e => ?_) (by omega) fun _ h => h
    subst e
    simp only [asB_bool, pure_bind, Bool.not_true, Bool.false_eq_true, if_false, bind_assoc]
    refine .bind (run_below_right hc ho) fun d e => ?_
    subst e
    simp only [asB_bool, pure_bind, Bool.not_true, Bool.false_eq_true, if_false]
    exact law_l0 hk ds
theorem run_law (d : D) : Run (m_law d) 2401 fun d => d = .bool true := by
  unfold m_law
  simp only [pure_bind, asN_int (show -1000000 ≤ (4 : Int) ∧ (4 : Int) ≤ 1000000 by omega)]
  rw [show (4 : Int).toNat = 4 from rfl]
  refine (law_l0 (k := 1) (P := fun d => d = .bool true) ?_ (rngL 0 4)).mono (by rw [rng_len]; omega) fun _ h => h
  simp only [pure_bind, neg_int, lift_some, mkTup_of, mkLst_of, List.length_cons, List.length_nil, Nat.zero_add, Nat.reduceAdd, Nat.reduceLeDiff, List.map_nil, List.append_nil, fm1_dat, fn2_dat, fn3_dat]
  refine Run.bind (k1 := 1) (k2 := 0) (run_of (by simp) (by simp)) fun odd hodd => ?_
  have ho : inB odd 0 4 = false ∧ odd.plain = true ∧ odd.depth ≤ 1 ∧ lens odd = true := by
    simp at hodd
    rcases hodd with e | e | e | e | e | e <;> subst e <;> refine ⟨?_, ?_, ?_, ?_⟩ <;> simp [inB, PyData.plain, PyData.plainAll, PyData.depth, PyData.depthAll, lens, lensAll]
  have m5 : mulD (.tuple [.int 0]) (.int 5) = some (.tuple [.int 0, .int 0, .int 0, .int 0, .int 0]) := mul_rep (n := 5) (by omega)
  rw [heard1 ho.1]
  simp only [pure_bind, fn2_dat, fn3_dat, List.map_nil, List.append_nil, okLen_of, pushL_of, heard2, heard3, heard4, heard5, m5, lift_some, heard6, heard7, heard8, List.cons_append, List.nil_append, List.length_cons, List.length_nil, Nat.zero_add, Nat.reduceAdd, Nat.reduceLeDiff, mkLst_of]
  rw [add_lst (by simp), lift_some, pure_bind]
  simp only [List.cons_append, List.nil_append, pure_bind, fn2_dat, pushL_of, List.length_cons, List.length_nil, Nat.zero_add, Nat.reduceAdd, Nat.reduceLeDiff]
  refine Run.of_eq (q_like ⟨?_, ?_, ?_⟩) rfl
  · simp [PyData.plain, PyData.plainAll, ho.2.1]
  · have : PyData.depth odd = 0 ∨ PyData.depth odd = 1 := by omega
    rcases this with e | e <;> simp [PyData.depth, PyData.depthAll, e]
  · simp [lens, lensAll, ho.2.2.2]
end DL
namespace DL
open PySem PySem.Spec L2
def top (i : Nat) : Stmt := PySem.Challenge.pw_powermade_k01_whole_orders_and_monomials.main.body.getD i (.Pass ⟨0, 0, 0, 0⟩)
theorem b_is_whole {e : Wd} (bi : Bi e)  (W : XK) (v_value1 : D) (v_least2 : D) (v_most3 : D) : RefB (cOf e ["value", "least", "most"] (defScope (top 7)) 0 W) (slots [.dat v_value1, .dat v_least2, .dat v_most3] 3) (defBody (top 7)) kEnd (m_is_whole v_value1 v_least2 v_most3) := by
  unfold m_is_whole
  exact (rb_if (by exact (rw_t (rw_or (rt_not (rt_val (e_isint bi (re_var 0)))) (rw_or1 (rt_val (e_isbool bi (re_var 0))))))) (by exact (rb_ret re_bl)) (by exact (rb_nil (by exact (rb_ret (re_and (re_or (re_cmp o_is (re_var 1) re_non) (re_one (re_cmp o_ge (re_var 0) (re_var 1)))) (re_one (re_or (re_cmp o_is (re_var 2) re_non) (re_one (re_cmp o_le (re_var 0) (re_var 2)))))))))))

theorem b_is_row {e : Wd} (bi : Bi e)  (W : XK) (v_value4 : D) (v_length5 : D) : RefB (cOf e ["value", "length"] (defScope (top 8)) 0 W) (slots [.dat v_value4, .dat v_length5] 2) (defBody (top 8)) kEnd (m_is_row v_value4 v_length5) := by
  unfold m_is_row
  exact (rb_ret (re_and (e_istuple bi (re_var 0)) (re_one (re_or (re_cmp o_is (re_var 1) re_non) (re_one (re_cmp o_eq (e_len bi (rl_cons (re_var 0) rl_nil)) (re_var 1)))))))

theorem b_are_wholes {e : Wd} (bi : Bi e) (k_is_row_d1 : Kn e "is_row" 1 2 (fn2 m_is_row) [.none]) (k_is_whole : Kn e "is_whole" 1 3 (fn3 m_is_whole) []) (W : XK) (v_value6 : D) (v_least7 : D) (v_most8 : D) : RefB (cOf e ["value", "least", "most", "one"] (defScope (top 9)) 1 W) (slots [.dat v_value6, .dat v_least7, .dat v_most8] 4) (defBody (top 9)) kEnd (m_are_wholes v_value6 v_least7 v_most8) := by
  unfold m_are_wholes
  exact (rb_ret (re_and (re_call k_is_row_d1 (ra_dat (re_var 0) ra_nil)) (re_one (e_all bi (rl_cons (re_new (rn_lc (lc_one (own := [("one", 3)]) 3 (by exact (ri_sq (re_var 0))) (fun v_one9 => ⟨by exact rif_nil, by exact (re_call k_is_whole (ra_dat (re_var 3) (ra_dat (re_var 1) (ra_dat (re_var 2) ra_nil))))⟩)))) rl_nil)))))

theorem b_gcd {e : Wd} (bi : Bi e)  (W : XK) (v_one10 : D) (v_other11 : D) : RefB (cOf e ["one", "other"] (defScope (top 10)) 0 W) (slots [.dat v_one10, .dat v_other11] 2) (defBody (top 10)) kEnd (m_gcd v_one10 v_other11) := by
  unfold m_gcd
  exact (rb_cons (by exact (rs_par 0 1 (e_abs bi (rl_cons (re_var 0) rl_nil)) (e_abs bi (rl_cons (re_var 1) rl_nil)))) fun v_q12 => (by exact (by apply rb_while (fun q : D × D => [.dat q.1, .dat q.2]) (m_gcd_l0 (fun (v_one13, v_other14) => (pure v_one13))) (fuelD v_q12.2) (v_q12.1, v_q12.2) (mt := fun (v_one13, v_other14) => (do let x ← (pure v_other14); let y ← (pure (.int 0)); let z ← lift (neD' x y); asB z)) (mb := fun nn0 (v_one13, v_other14) => ((do let u ← (pure v_other14); let v ← (do let x ← (do let ds ← (do let x ← (pure v_one13); let xs ← pure []; pure (x :: xs)); lift (intD ds)); let y ← (pure v_other14); lift (modD x y)); pure (u, v)) >>= fun v_q15 => ((m_gcd_l0 (fun (v_one13, v_other14) => (pure v_one13))) nn0 (v_q15.1, v_q15.2)))) (mr := (fun (v_one13, v_other14) => (pure v_one13))); (case h0 => exact (by exact ⟨.inr rfl, .inr rfl, trivial⟩)); (case hz => exact (fun q => rfl)); (case hs => exact (fun nn0 q => by obtain ⟨v_one13, v_other14⟩ := q; rfl)); (case ht => exact (fun q => by obtain ⟨v_one13, v_other14⟩ := q; exact (show RefT _ _ _ (do let x ← (pure v_other14); let y ← (pure (.int 0)); let z ← lift (neD' x y); asB z) from (rt_cmp o_ne (re_var 1) re_int)))); (case hb => exact (fun nn0 q => by obtain ⟨v_one13, v_other14⟩ := q; exact (show RefB _ _ _ _ ((do let u ← (pure v_other14); let v ← (do let x ← (do let ds ← (do let x ← (pure v_one13); let xs ← pure []; pure (x :: xs)); lift (intD ds)); let y ← (pure v_other14); lift (modD x y)); pure (u, v)) >>= fun v_q15 => ((m_gcd_l0 (fun (v_one13, v_other14) => (pure v_one13))) nn0 (v_q15.1, v_q15.2))) from (rb_cons (by exact (rs_par 0 1 (re_var 1) (e_mod (e_intc bi (rl_cons (re_var 0) rl_nil)) (re_var 1)))) fun v_q15 => (by exact (rb_nil (by exact ⟨(v_q15.1, v_q15.2), (by exact ⟨.inr rfl, .inr rfl, trivial⟩), rfl⟩))))))); (case hrest => exact (fun q => by obtain ⟨v_one13, v_other14⟩ := q; exact (show RefB _ _ _ _ (pure v_one13) from (rb_ret (re_var 0))))))))

theorem b_need_monomial {e : Wd} (bi : Bi e) (k_are_wholes : Kn e "are_wholes" 2 3 (fn3 m_are_wholes) []) (x_BadMonomial : Xc e "BadMonomial" "value") (h_MOST_EXPONENT : Glo e "MOST_EXPONENT" g_MOST_EXPONENT) (h_MOST_VARIABLES : Glo e "MOST_VARIABLES" g_MOST_VARIABLES) (W : XK) (v_monomial16 : D) : RefB (cOf e ["monomial"] (defScope (top 14)) 2 W) (slots [.dat v_monomial16] 1) (defBody (top 14)) kEnd (m_need_monomial v_monomial16) := by
  unfold m_need_monomial
  exact (rb_if (by exact (rw_t (rw_or (rt_not (rt_val (re_call k_are_wholes (ra_dat (re_var 0) (ra_dat re_int (ra_dat (re_glob h_MOST_EXPONENT) ra_nil)))))) (rw_or1 (rt_cmp o_gt (e_len bi (rl_cons (re_var 0) rl_nil)) (re_glob h_MOST_VARIABLES)))))) (by exact (rb_raise x_BadMonomial (re_var 0))) (by exact (rb_nil (by exact (rb_ret (re_var 0))))))

theorem b_need_count {e : Wd} (bi : Bi e) (k_is_whole : Kn e "is_whole" 1 3 (fn3 m_is_whole) []) (x_BadNumber : Xc e "BadNumber" "value") (h_MOST_VARIABLES : Glo e "MOST_VARIABLES" g_MOST_VARIABLES) (W : XK) (v_number17 : D) : RefB (cOf e ["number"] (defScope (top 15)) 2 W) (slots [.dat v_number17] 1) (defBody (top 15)) kEnd (m_need_count v_number17) := by
  unfold m_need_count
  exact (rb_if (by exact (rt_not (rt_val (re_call k_is_whole (ra_dat (re_var 0) (ra_dat re_int (ra_dat (re_glob h_MOST_VARIABLES) ra_nil))))))) (by exact (rb_raise x_BadNumber (re_var 0))) (by exact (rb_nil (by exact (rb_ret (re_var 0))))))

theorem b_divides {e : Wd} (bi : Bi e)  (W : XK) (v_one18 : D) (v_other19 : D) : RefB (cOf e ["one", "other", "a", "b"] (defScope (top 16)) 0 W) (slots [.dat v_one18, .dat v_other19] 4) (defBody (top 16)) kEnd (m_divides v_one18 v_other19) := by
  unfold m_divides
  exact (rb_ret (e_all bi (rl_cons (re_new (rn_lc (lc_two (own := [("a", 2), ("b", 3)]) 2 3 (by exact (ri_zip (re_var 0) (re_var 1) (hm := bi.zip))) (fun v_a20 v_b21 => ⟨by exact rif_nil, by exact (re_cmp o_le (re_var 2) (re_var 3))⟩)))) rl_nil)))

theorem b_multiple_of {e : Wd} (bi : Bi e)  (W : XK) (v_one22 : D) (v_other23 : D) : RefB (cOf e ["one", "other", "a", "b"] (defScope (top 17)) 0 W) (slots [.dat v_one22, .dat v_other23] 4) (defBody (top 17)) kEnd (m_multiple_of v_one22 v_other23) := by
  unfold m_multiple_of
  exact (rb_ret (e_tuplec bi (rl_cons (re_new (rn_lc (lc_two (own := [("a", 2), ("b", 3)]) 2 3 (by exact (ri_zip (re_var 0) (re_var 1) (hm := bi.zip))) (fun v_a24 v_b25 => ⟨by exact rif_nil, by exact (e_max bi (rl_cons (re_var 2) (rl_cons (re_var 3) rl_nil)))⟩)))) rl_nil)))

theorem b_divisor_of {e : Wd} (bi : Bi e)  (W : XK) (v_one26 : D) (v_other27 : D) : RefB (cOf e ["one", "other", "a", "b"] (defScope (top 18)) 0 W) (slots [.dat v_one26, .dat v_other27] 4) (defBody (top 18)) kEnd (m_divisor_of v_one26 v_other27) := by
  unfold m_divisor_of
  exact (rb_ret (e_tuplec bi (rl_cons (re_new (rn_lc (lc_two (own := [("a", 2), ("b", 3)]) 2 3 (by exact (ri_zip (re_var 0) (re_var 1) (hm := bi.zip))) (fun v_a28 v_b29 => ⟨by exact rif_nil, by exact (e_min bi (rl_cons (re_var 2) (rl_cons (re_var 3) rl_nil)))⟩)))) rl_nil)))

theorem b_need_two {e : Wd} (bi : Bi e) (k_need_monomial : Kn e "need_monomial" 3 1 (fn1 m_need_monomial) []) (x_Unalike : Xc e "Unalike" "place") (W : XK) (v_monomial30 : D) (v_other31 : D) : RefB (cOf e ["monomial", "other"] (defScope (top 19)) 3 W) (slots [.dat v_monomial30, .dat v_other31] 2) (defBody (top 19)) kEnd (m_need_two v_monomial30 v_other31) := by
  unfold m_need_two
  exact (rb_cons (by exact (rs_expr (re_call k_need_monomial (ra_dat (re_var 0) ra_nil)))) fun v_u32 => (by exact (rb_cons (by exact (rs_expr (re_call k_need_monomial (ra_dat (re_var 1) ra_nil)))) fun v_u33 => (by exact (rb_if (by exact (rt_cmp o_ne (e_len bi (rl_cons (re_var 0) rl_nil)) (e_len bi (rl_cons (re_var 1) rl_nil)))) (by exact (rb_raise x_Unalike re_str)) (by exact (rb_nil (by exact (rb_nil (by exact rfl))))))))))

theorem b_monomial_divides {e : Wd} (bi : Bi e) (k_divides : Kn e "divides" 1 2 (fn2 m_divides) []) (k_need_two : Kn e "need_two" 4 2 (fn2 m_need_two) []) (W : XK) (v_monomial34 : D) (v_other35 : D) : RefB (cOf e ["monomial", "other"] (defScope (top 20)) 4 W) (slots [.dat v_monomial34, .dat v_other35] 2) (defBody (top 20)) kEnd (m_monomial_divides v_monomial34 v_other35) := by
  unfold m_monomial_divides
  exact (rb_cons (by exact (rs_expr (re_call k_need_two (ra_dat (re_var 0) (ra_dat (re_var 1) ra_nil))))) fun v_u36 => (by exact (rb_ret (re_call k_divides (ra_dat (re_var 0) (ra_dat (re_var 1) ra_nil))))))

theorem b_least_multiple {e : Wd} (bi : Bi e) (k_multiple_of : Kn e "multiple_of" 1 2 (fn2 m_multiple_of) []) (k_need_two : Kn e "need_two" 4 2 (fn2 m_need_two) []) (W : XK) (v_monomial37 : D) (v_other38 : D) : RefB (cOf e ["monomial", "other"] (defScope (top 21)) 4 W) (slots [.dat v_monomial37, .dat v_other38] 2) (defBody (top 21)) kEnd (m_least_multiple v_monomial37 v_other38) := by
  unfold m_least_multiple
  exact (rb_cons (by exact (rs_expr (re_call k_need_two (ra_dat (re_var 0) (ra_dat (re_var 1) ra_nil))))) fun v_u39 => (by exact (rb_ret (re_call k_multiple_of (ra_dat (re_var 0) (ra_dat (re_var 1) ra_nil))))))

theorem b_greatest_divisor {e : Wd} (bi : Bi e) (k_divisor_of : Kn e "divisor_of" 1 2 (fn2 m_divisor_of) []) (k_need_two : Kn e "need_two" 4 2 (fn2 m_need_two) []) (W : XK) (v_monomial40 : D) (v_other41 : D) : RefB (cOf e ["monomial", "other"] (defScope (top 22)) 4 W) (slots [.dat v_monomial40, .dat v_other41] 2) (defBody (top 22)) kEnd (m_greatest_divisor v_monomial40 v_other41) := by
  unfold m_greatest_divisor
  exact (rb_cons (by exact (rs_expr (re_call k_need_two (ra_dat (re_var 0) (ra_dat (re_var 1) ra_nil))))) fun v_u42 => (by exact (rb_ret (re_call k_divisor_of (ra_dat (re_var 0) (ra_dat (re_var 1) ra_nil))))))

theorem b_ratio {e : Wd} (bi : Bi e) (k_gcd : Kn e "gcd" 1 2 (fn2 m_gcd) []) (W : XK) (v_upper43 : D) (v_under44 : D) : RefB (cOf e ["upper", "under", "common"] (defScope (top 25)) 1 W) (slots [.dat v_upper43, .dat v_under44] 3) (defBody (top 25)) kEnd (m_ratio v_upper43 v_under44) := by
  unfold m_ratio
  exact (rb_if (by exact (rt_cmp o_lt (re_var 1) re_int)) (by exact (rb_cons (by exact (rs_par 0 1 (e_neg (re_var 0)) (e_neg (re_var 1)))) fun v_q45 => (by exact (rb_nil (by exact (rb_cons (by exact (rs_set 2 (re_call k_gcd (ra_dat (re_var 0) (ra_dat (re_var 1) ra_nil))))) fun v_common46 => (by exact (rb_ret (re_tup (rl_cons (e_fdiv (re_var 0) (re_var 2)) (rl_cons (e_fdiv (re_var 1) (re_var 2)) rl_nil))))))))))) (by exact (rb_nil (by exact (rb_cons (by exact (rs_set 2 (re_call k_gcd (ra_dat (re_var 0) (ra_dat (re_var 1) ra_nil))))) fun v_common47 => (by exact (rb_ret (re_tup (rl_cons (e_fdiv (re_var 0) (re_var 2)) (rl_cons (e_fdiv (re_var 1) (re_var 2)) rl_nil))))))))))

theorem b_ratio_minus {e : Wd} (bi : Bi e) (k_ratio : Kn e "ratio" 2 2 (fn2 m_ratio) []) (W : XK) (v_one48 : D) (v_other49 : D) : RefB (cOf e ["one", "other"] (defScope (top 26)) 2 W) (slots [.dat v_one48, .dat v_other49] 2) (defBody (top 26)) kEnd (m_ratio_minus v_one48 v_other49) := by
  unfold m_ratio_minus
  exact (rb_ret (re_call k_ratio (ra_dat (e_sub (e_mul (re_ix (re_var 0) re_int) (re_ix (re_var 1) re_int)) (e_mul (re_ix (re_var 1) re_int) (re_ix (re_var 0) re_int))) (ra_dat (e_mul (re_ix (re_var 0) re_int) (re_ix (re_var 1) re_int)) ra_nil))))

theorem b_ratio_times {e : Wd} (bi : Bi e) (k_ratio : Kn e "ratio" 2 2 (fn2 m_ratio) []) (W : XK) (v_one50 : D) (v_other51 : D) : RefB (cOf e ["one", "other"] (defScope (top 27)) 2 W) (slots [.dat v_one50, .dat v_other51] 2) (defBody (top 27)) kEnd (m_ratio_times v_one50 v_other51) := by
  unfold m_ratio_times
  exact (rb_ret (re_call k_ratio (ra_dat (e_mul (re_ix (re_var 0) re_int) (re_ix (re_var 1) re_int)) (ra_dat (e_mul (re_ix (re_var 0) re_int) (re_ix (re_var 1) re_int)) ra_nil))))

theorem b_ratio_over {e : Wd} (bi : Bi e) (k_ratio : Kn e "ratio" 2 2 (fn2 m_ratio) []) (W : XK) (v_one52 : D) (v_other53 : D) : RefB (cOf e ["one", "other"] (defScope (top 28)) 2 W) (slots [.dat v_one52, .dat v_other53] 2) (defBody (top 28)) kEnd (m_ratio_over v_one52 v_other53) := by
  unfold m_ratio_over
  exact (rb_ret (re_call k_ratio (ra_dat (e_mul (re_ix (re_var 0) re_int) (re_ix (re_var 1) re_int)) (ra_dat (e_mul (re_ix (re_var 0) re_int) (re_ix (re_var 1) re_int)) ra_nil))))

theorem b_rank_of {e : Wd} (bi : Bi e) (k_ratio : Kn e "ratio" 2 2 (fn2 m_ratio) []) (k_ratio_minus : Kn e "ratio_minus" 3 2 (fn2 m_ratio_minus) []) (k_ratio_over : Kn e "ratio_over" 3 2 (fn2 m_ratio_over) []) (k_ratio_times : Kn e "ratio_times" 3 2 (fn2 m_ratio_times) []) (h_NONE : Glo e "NONE" g_NONE) (W : XK) (v_rows54 : D) (v_columns55 : D) : RefB (cOf e ["rows", "columns", "column", "left", "found", "leads", "place", "row", "part", "one", "two"] (defScope (top 32)) 3 W) (slots [.dat v_rows54, .dat v_columns55] 11) (defBody (top 32)) kEnd (m_rank_of v_rows54 v_columns55) := by
  unfold m_rank_of
  exact (rb_cons (by exact (rs_parC 3 4 (rn_lc (lc_one (own := [("row", 7)]) 7 (by exact (ri_sq (re_var 0))) (fun v_row57 => ⟨by exact rif_nil, by exact (re_new (rn_lc (lc_one (own := [("one", 9)]) 9 (by exact (ri_sq (re_var 7))) (fun v_one58 => ⟨by exact rif_nil, by exact (re_call k_ratio (ra_dat (re_var 9) (ra_dat re_int ra_nil)))⟩))))⟩))) re_int)) fun v_q56 => (by exact (by apply rb_for1 2 (fun q : List D × D => [.dat v_rows54, .dat v_columns55, .un, .own q.1, .dat q.2, .un, .un, .un, .un, .un, .un]) (m_rank_of_l0 (fun (v_left59, v_found60) => (pure v_found60))) (v_q56.1, v_q56.2); (case hi => exact (ri_rng1 (re_var 1) (hm := bi.range))); (case h0 => exact (by exact ⟨.inr rfl, .inr rfl, .inl rfl, .inr rfl, .inr rfl, .inl rfl, .inl rfl, .inl rfl, .inl rfl, .inl rfl, .inl rfl, trivial⟩)); (case hb => exact (fun v_column61 rs0 q => by obtain ⟨v_left59, v_found60⟩ := q; exact (show RefB _ _ _ _ ((do let ds ← (do let x ← (pure v_found60); let y ← (pure (.int (v_left59 : List D).length)); let i ← asN x; let j ← asN y; pure (rngL i (j - i).toNat)); lcM (fun v_place63 => elM (do let x ← (do let x ← (do let y ← (pure v_place63); lift (ixD (.list v_left59) y)); let y ← (pure v_column61); lift (ixD x y)); let y ← (pure g_NONE); let z ← lift (neD' x y); asB z) (pure v_place63)) ds) >>= fun v_leads62 => (do let k ← (do let x ← (pure (.list v_leads62)); let y ← (do let ds ← pure []; mkLst ds); let z ← lift (neD' x y); asB z); if k = true then ((do let u ← (do let y ← (do let x ← (pure (.list v_leads62)); let y ← (pure (.int 0)); lift (ixD x y)); lift (ixD (.list v_left59) y)); let v ← (do let y ← (pure v_found60); lift (ixD (.list v_left59) y)); let n ← (pure v_found60); let v_ds65 ← setL v_left59 n u; let l ← quiet (do let x ← (pure (.list v_leads62)); let y ← (pure (.int 0)); lift (ixD x y)); setL v_ds65 l v) >>= fun v_left64 => (do let ds ← (do let x ← (do let x ← (pure v_found60); let y ← (pure (.int 1)); lift (addD x y)); let y ← (pure (.int (v_left64 : List D).length)); let i ← asN x; let j ← asN y; pure (rngL i (j - i).toNat)); (m_rank_of_l1 v_column61 v_found60 (fun v_left66 => ((do let x ← (pure v_found60); let y ← (pure (.int 1)); lift (addD x y)) >>= fun v_found67 => ((m_rank_of_l0 (fun (v_left59, v_found60) => (pure v_found60))) rs0 (v_left66, v_found67))))) ds (v_left64))) else ((m_rank_of_l0 (fun (v_left59, v_found60) => (pure v_found60))) rs0 (v_left59, v_found60)))) from (rb_cons (by exact (rs_setLc 5 (lc_one (own := [("place", 6)]) 6 (by exact (ri_rng2 (re_var 4) (re_lenOwn 3 bi.len) (hm := bi.range))) (fun v_place63 => ⟨by exact (rif_one (rt_cmp o_ne (re_ix (re_ixOwn 3 (re_var 6)) (re_var 2)) (re_glob h_NONE))), by exact (re_var 6)⟩)))) fun v_leads62 => (by exact (rb_if (by exact (rt_cmp o_ne (re_var 5) (re_lst rl_nil))) (by exact (rb_cons (by exact (rs_swap 3 (re_ixOwn 3 (re_ix (re_var 5) re_int)) (re_ixOwn 3 (re_var 4)) (re_var 4) (fun v_ds65 => (re_ix (re_var 5) re_int)))) fun v_left64 => (by exact (by apply rb_for1 6 (fun q : List D => [.dat v_rows54, .dat v_columns55, .dat v_column61, .own q, .dat v_found60, .dat (.list v_leads62), .un, .un, .un, .un, .un]) (m_rank_of_l1 v_column61 v_found60 (fun v_left66 => ((do let x ← (pure v_found60); let y ← (pure (.int 1)); lift (addD x y)) >>= fun v_found67 => ((m_rank_of_l0 (fun (v_left59, v_found60) => (pure v_found60))) rs0 (v_left66, v_found67))))) (v_left64); (case hi => exact (ri_rng2 (e_add (re_var 4) re_int) (re_lenOwn 3 bi.len) (hm := bi.range))); (case h0 => exact (by exact ⟨.inr rfl, .inr rfl, .inr rfl, .inr rfl, .inr rfl, .inr rfl, .inl rfl, .inl rfl, .inl rfl, .inl rfl, .inl rfl, trivial⟩)); (case hb => exact (fun v_place68 rs1 v_left66 => by exact (show RefB _ _ _ _ ((do let as ← (do let x ← (do let x ← (do let y ← (pure v_place68); lift (ixD (.list v_left66) y)); let y ← (pure v_column61); lift (ixD x y)); let xs ← (do let x ← (do let x ← (do let y ← (pure v_found60); lift (ixD (.list v_left66) y)); let y ← (pure v_column61); lift (ixD x y)); let xs ← pure []; pure (Ar.dat x :: xs)); pure (Ar.dat x :: xs)); fn2 m_ratio_over (as ++ (([] : List D)).map Ar.dat)) >>= fun v_part69 => ((do let v ← (do let ds ← (do let ds ← (do let x ← (do let y ← (pure v_place68); lift (ixD (.list v_left66) y)); let y ← (do let y ← (pure v_found60); lift (ixD (.list v_left66) y)); asZip x y); lcM (two fun v_one71 v_two72 => elM (pure true) (do let as ← (do let x ← (pure v_one71); let xs ← (do let x ← (do let as ← (do let x ← (pure v_part69); let xs ← (do let x ← (pure v_two72); let xs ← pure []; pure (Ar.dat x :: xs)); pure (Ar.dat x :: xs)); fn2 m_ratio_times (as ++ (([] : List D)).map Ar.dat)); let xs ← pure []; pure (Ar.dat x :: xs)); pure (Ar.dat x :: xs)); fn2 m_ratio_minus (as ++ (([] : List D)).map Ar.dat))) ds); pure (.list ds)); let k ← (pure v_place68); setL v_left66 k v) >>= fun v_left70 => ((m_rank_of_l1 v_column61 v_found60 (fun v_left66 => ((do let x ← (pure v_found60); let y ← (pure (.int 1)); lift (addD x y)) >>= fun v_found67 => ((m_rank_of_l0 (fun (v_left59, v_found60) => (pure v_found60))) rs0 (v_left66, v_found67))))) rs1 (v_left70)))) from (rb_cons (by exact (rs_set 8 (re_call k_ratio_over (ra_dat (re_ix (re_ixOwn 3 (re_var 6)) (re_var 2)) (ra_dat (re_ix (re_ixOwn 3 (re_var 4)) (re_var 2)) ra_nil))))) fun v_part69 => (by exact (rb_cons (by exact (rs_setI 3 (re_new (rn_lc (lc_two (own := [("one", 9), ("two", 10)]) 9 10 (by exact (ri_zip (re_ixOwn 3 (re_var 6)) (re_ixOwn 3 (re_var 4)) (hm := bi.zip))) (fun v_one71 v_two72 => ⟨by exact rif_nil, by exact (re_call k_ratio_minus (ra_dat (re_var 9) (ra_dat (re_call k_ratio_times (ra_dat (re_var 8) (ra_dat (re_var 10) ra_nil))) ra_nil)))⟩)))) (re_var 6))) fun v_left70 => (by exact (rb_nil (by exact ⟨(v_left70), (by exact ⟨.inr rfl, .inr rfl, .inr rfl, .inr rfl, .inr rfl, .inr rfl, .inl rfl, .inl rfl, .inl rfl, .inl rfl, .inl rfl, trivial⟩), rfl⟩))))))))); (case hrest => exact (fun v_left66 => by exact (show RefB _ _ _ _ ((do let x ← (pure v_found60); let y ← (pure (.int 1)); lift (addD x y)) >>= fun v_found67 => ((m_rank_of_l0 (fun (v_left59, v_found60) => (pure v_found60))) rs0 (v_left66, v_found67))) from (rb_cons (by exact (rs_set 4 (e_add (re_var 4) re_int))) fun v_found67 => (by exact (rb_nil (by exact (rb_nil (by exact ⟨(v_left66, v_found67), (by exact ⟨.inr rfl, .inr rfl, .inl rfl, .inr rfl, .inr rfl, .inl rfl, .inl rfl, .inl rfl, .inl rfl, .inl rfl, .inl rfl, trivial⟩), rfl⟩))))))))))))) (by exact (rb_nil (by exact (rb_nil (by exact ⟨(v_left59, v_found60), (by exact ⟨.inr rfl, .inr rfl, .inl rfl, .inr rfl, .inr rfl, .inl rfl, .inl rfl, .inl rfl, .inl rfl, .inl rfl, .inl rfl, trivial⟩), rfl⟩))))))))))); (case hrest => exact (fun q => by obtain ⟨v_left59, v_found60⟩ := q; exact (show RefB _ _ _ _ (pure v_found60) from (rb_ret (re_var 4))))))))

theorem b_first_above {e : Wd} (bi : Bi e)  (W : XK) (v_rows73 : D) (v_column74 : D) : RefB (cOf e ["rows", "column", "numbers", "row"] (defScope (top 33)) 0 W) (slots [.dat v_rows73, .dat v_column74] 4) (defBody (top 33)) kEnd (m_first_above v_rows73 v_column74) := by
  unfold m_first_above
  exact (rb_cons (by exact (rs_setLc 2 (lc_one (own := [("row", 3)]) 3 (by exact (ri_sq (re_var 0))) (fun v_row76 => ⟨by exact (rif_one (rt_cmp o_ne (re_ix (re_var 3) (re_var 1)) re_int)), by exact (re_ix (re_var 3) (re_var 1))⟩)))) fun v_numbers75 => (by exact (rb_ret (re_and (re_cmp o_ne (re_var 2) (re_lst rl_nil)) (re_one (re_cmp o_gt (re_ix (re_var 2) re_int) re_int))))))

theorem b_are_weights {e : Wd} (bi : Bi e) (k_are_wholes : Kn e "are_wholes" 2 3 (fn3 m_are_wholes) []) (k_is_row_d1 : Kn e "is_row" 1 2 (fn2 m_is_row) [.none]) (h_MOST_ROWS : Glo e "MOST_ROWS" g_MOST_ROWS) (h_MOST_WEIGHT : Glo e "MOST_WEIGHT" g_MOST_WEIGHT) (W : XK) (v_count77 : D) (v_rows78 : D) : RefB (cOf e ["count", "rows", "row"] (defScope (top 34)) 2 W) (slots [.dat v_count77, .dat v_rows78] 3) (defBody (top 34)) kEnd (m_are_weights v_count77 v_rows78) := by
  unfold m_are_weights
  exact (rb_if (by exact (rw_t (rw_or (rt_not (rt_val (re_call k_is_row_d1 (ra_dat (re_var 1) ra_nil)))) (rw_or1 (rt_cmp o_gt (e_len bi (rl_cons (re_var 1) rl_nil)) (re_glob h_MOST_ROWS)))))) (by exact (rb_ret re_bl)) (by exact (rb_nil (by exact (rb_ret (e_all bi (rl_cons (re_new (rn_lc (lc_one (own := [("row", 2)]) 2 (by exact (ri_sq (re_var 1))) (fun v_row79 => ⟨by exact rif_nil, by exact (re_and (re_call k_are_wholes (ra_dat (re_var 2) (ra_dat (e_neg (re_glob h_MOST_WEIGHT)) (ra_dat (re_glob h_MOST_WEIGHT) ra_nil)))) (re_one (re_cmp o_eq (e_len bi (rl_cons (re_var 2) rl_nil)) (re_var 0))))⟩)))) rl_nil)))))))

theorem b_order_fault {e : Wd} (bi : Bi e) (k_are_weights : Kn e "are_weights" 3 2 (fn2 m_are_weights) []) (k_first_above : Kn e "first_above" 1 2 (fn2 m_first_above) []) (k_is_row_d1 : Kn e "is_row" 1 2 (fn2 m_is_row) [.none]) (k_is_whole : Kn e "is_whole" 1 3 (fn3 m_is_whole) []) (k_rank_of : Kn e "rank_of" 4 2 (fn2 m_rank_of) []) (W : XK) (v_count80 : D) (v_value81 : D) : RefB (cOf e ["count", "value", "column"] (defScope (top 35)) 4 W) (slots [.dat v_count80, .dat v_value81] 3) (defBody (top 35)) kEnd (m_order_fault v_count80 v_value81) := by
  unfold m_order_fault
  exact (rb_if (by exact (rw_t (rw_or (rt_not (rt_val (re_call k_is_row_d1 (ra_dat (re_var 1) ra_nil)))) (rw_or (rt_cmp o_eq (re_var 1) (re_tup rl_nil)) (rw_or1 (rt_not (rt_val (e_isstr bi (re_ix (re_var 1) re_int))))))))) (by exact (rb_ret (re_tup (rl_cons re_str rl_nil)))) (by exact (rb_nil (by exact (rb_if (by exact (rt_cmp o_in (re_var 1) (re_tup (rl_cons (re_tup (rl_cons re_str rl_nil)) (rl_cons (re_tup (rl_cons re_str rl_nil)) rl_nil))))) (by exact (rb_ret (re_tup rl_nil))) (by exact (rb_nil (by exact (rb_if (by exact (rw_t (rw_or (rt_cmp o_ne (e_len bi (rl_cons (re_var 1) rl_nil)) re_int) (rw_or1 (rt_cmp o_notIn (re_ix (re_var 1) re_int) (re_tup (rl_cons re_str (rl_cons re_str rl_nil)))))))) (by exact (rb_ret (re_tup (rl_cons re_str rl_nil)))) (by exact (rb_nil (by exact (rb_if (by exact (rt_cmp o_eq (re_ix (re_var 1) re_int) re_str)) (by exact (rb_ret (re_if (rt_val (re_call k_is_whole (ra_dat (re_ix (re_var 1) re_int) (ra_dat re_int (ra_dat (re_var 0) ra_nil))))) (re_tup rl_nil) (re_tup (rl_cons re_str rl_nil))))) (by exact (rb_nil (by exact (rb_if (by exact (rt_not (rt_val (re_call k_are_weights (ra_dat (re_var 0) (ra_dat (re_ix (re_var 1) re_int) ra_nil)))))) (by exact (rb_ret (re_tup (rl_cons re_str rl_nil)))) (by exact (rb_nil (by exact (rb_if (by exact (rw_t (rw_or (rt_cmp o_lt (re_call k_rank_of (ra_dat (re_ix (re_var 1) re_int) (ra_dat (re_var 0) ra_nil))) (re_var 0)) (rw_or1 (rt_not (rt_val (e_all bi (rl_cons (re_new (rn_lc (lc_one (own := [("column", 2)]) 2 (by exact (ri_rng1 (re_var 0) (hm := bi.range))) (fun v_column82 => ⟨by exact rif_nil, by exact (re_call k_first_above (ra_dat (re_ix (re_var 1) re_int) (ra_dat (re_var 2) ra_nil)))⟩)))) rl_nil)))))))) (by exact (rb_ret (re_tup (rl_cons re_str rl_nil)))) (by exact (rb_nil (by exact (rb_ret (re_tup rl_nil))))))))))))))))))))))))))

theorem b_need_order {e : Wd} (bi : Bi e) (k_need_count : Kn e "need_count" 3 1 (fn1 m_need_count) []) (k_order_fault : Kn e "order_fault" 5 2 (fn2 m_order_fault) []) (x_BadOrder : Xc e "BadOrder" "place") (W : XK) (v_number83 : D) (v_order84 : D) : RefB (cOf e ["number", "order", "fault"] (defScope (top 36)) 5 W) (slots [.dat v_number83, .dat v_order84] 3) (defBody (top 36)) kEnd (m_need_order v_number83 v_order84) := by
  unfold m_need_order
  exact (rb_cons (by exact (rs_expr (re_call k_need_count (ra_dat (re_var 0) ra_nil)))) fun v_u85 => (by exact (rb_cons (by exact (rs_set 2 (re_call k_order_fault (ra_dat (re_var 0) (ra_dat (re_var 1) ra_nil))))) fun v_fault86 => (by exact (rb_if (by exact (rt_cmp o_ne (re_var 2) (re_tup rl_nil))) (by exact (rb_raise x_BadOrder (re_ix (re_var 2) re_int))) (by exact (rb_nil (by exact (rb_ret (re_var 1))))))))))

theorem b_by_degree {e : Wd} (bi : Bi e)  (W : XK) (v_exponents87 : D) : RefB (cOf e ["exponents", "one"] (defScope (top 37)) 0 W) (slots [.dat v_exponents87] 2) (defBody (top 37)) kEnd (m_by_degree v_exponents87) := by
  unfold m_by_degree
  exact (rb_ret (e_add (re_tup (rl_cons (e_sum bi (rl_cons (re_var 0) rl_nil)) rl_nil)) (e_tuplec bi (rl_cons (re_new (rn_lc (lc_one (own := [("one", 1)]) 1 (by exact (ri_rev (re_var 0) (hm := bi.reversed))) (fun v_one88 => ⟨by exact rif_nil, by exact (e_neg (re_var 1))⟩)))) rl_nil))))

theorem b_key_of {e : Wd} (bi : Bi e) (k_by_degree : Kn e "by_degree" 1 1 (fn1 m_by_degree) []) (W : XK) (v_order89 : D) (v_monomial90 : D) : RefB (cOf e ["order", "monomial", "row", "weight", "one"] (defScope (top 38)) 1 W) (slots [.dat v_order89, .dat v_monomial90] 5) (defBody (top 38)) kEnd (m_key_of v_order89 v_monomial90) := by
  unfold m_key_of
  exact (rb_if (by exact (rt_cmp o_eq (re_ix (re_var 0) re_int) re_str)) (by exact (rb_ret (re_var 1))) (by exact (rb_nil (by exact (rb_if (by exact (rt_cmp o_eq (re_ix (re_var 0) re_int) re_str)) (by exact (rb_ret (re_call k_by_degree (ra_dat (re_var 1) ra_nil)))) (by exact (rb_nil (by exact (rb_if (by exact (rt_cmp o_eq (re_ix (re_var 0) re_int) re_str)) (by exact (rb_ret (e_add (re_call k_by_degree (ra_dat (re_sl (re_var 1) ro_none (ro_some (re_ix (re_var 0) re_int))) ra_nil)) (re_call k_by_degree (ra_dat (re_sl (re_var 1) (ro_some (re_ix (re_var 0) re_int)) ro_none) ra_nil))))) (by exact (rb_nil (by exact (rb_ret (e_tuplec bi (rl_cons (re_new (rn_lc (lc_one (own := [("row", 2)]) 2 (by exact (ri_sq (re_ix (re_var 0) re_int))) (fun v_row91 => ⟨by exact rif_nil, by exact (e_sum bi (rl_cons (re_new (rn_lc (lc_two (own := [("weight", 3), ("one", 4)]) 3 4 (by exact (ri_zip (re_var 2) (re_var 1) (hm := bi.zip))) (fun v_weight92 v_one93 => ⟨by exact rif_nil, by exact (e_mul (re_var 3) (re_var 4))⟩)))) rl_nil))⟩)))) rl_nil)))))))))))))))

theorem b_is_below {e : Wd} (bi : Bi e) (k_key_of : Kn e "key_of" 2 2 (fn2 m_key_of) []) (k_need_order : Kn e "need_order" 6 2 (fn2 m_need_order) []) (k_need_two : Kn e "need_two" 4 2 (fn2 m_need_two) []) (W : XK) (v_monomial94 : D) (v_other95 : D) (v_order96 : D) : RefB (cOf e ["monomial", "other", "order"] (defScope (top 39)) 6 W) (slots [.dat v_monomial94, .dat v_other95, .dat v_order96] 3) (defBody (top 39)) kEnd (m_is_below v_monomial94 v_other95 v_order96) := by
  unfold m_is_below
  exact (rb_cons (by exact (rs_expr (re_call k_need_two (ra_dat (re_var 0) (ra_dat (re_var 1) ra_nil))))) fun v_u97 => (by exact (rb_cons (by exact (rs_expr (re_call k_need_order (ra_dat (e_len bi (rl_cons (re_var 0) rl_nil)) (ra_dat (re_var 2) ra_nil))))) fun v_u98 => (by exact (rb_ret (re_cmp o_lt (re_call k_key_of (ra_dat (re_var 2) (ra_dat (re_var 0) ra_nil))) (re_call k_key_of (ra_dat (re_var 2) (ra_dat (re_var 1) ra_nil)))))))))

theorem b__law_mixed {e : Wd} (bi : Bi e)  (W : XK) (v_cell99 : D) (v_n100 : D) : RefB (cOf e ["cell", "n", "blend"] (defScope (top 41)) 0 W) (slots [.dat v_cell99, .dat v_n100] 3) (defBody (top 41)) kEnd (m__law_mixed v_cell99 v_n100) := by
  unfold m__law_mixed
  exact (rb_cons (by exact (rs_set 2 (e_add (e_add (e_mod (e_intc bi (rl_cons (e_mul (e_mul (re_var 0) (e_add re_int (e_mul re_int (re_var 1)))) re_int) rl_nil)) re_int) (e_mul (e_mul re_int (re_var 1)) (re_var 1))) (e_mul re_int (re_var 1))))) fun v_blend101 => (by exact (rb_ret (e_fdiv (e_mod (e_intc bi (rl_cons (e_mul (re_var 2) re_int) rl_nil)) re_int) re_int))))

theorem b__law_folded {e : Wd} (bi : Bi e)  (W : XK) (v_script102 : List Int) : RefB (cOf e ["script", "found", "n", "cell"] (defScope (top 42)) 0 W) (slots [.giv v_script102] 4) (defBody (top 42)) kEnd (m__law_folded v_script102) := by
  unfold m__law_folded
  exact (rb_cons (by exact (rs_setLcO 1 (lc_one (own := [("n", 2)]) 2 (by exact (ri_rng1 re_int (hm := bi.range))) (fun v_n104 => ⟨by exact rif_nil, by exact (e_add re_int (re_var 2))⟩)))) fun v_found103 => (by exact (by apply rb_for2 2 3 (fun q : List D => [.giv v_script102, .own q, .un, .un]) (m__law_folded_l0 (fun v_found105 => (do let ds ← (do let x ← (pure (.int 1)); let y ← (pure (.int 64)); let i ← asN x; let j ← asN y; pure (rngL i (j - i).toNat)); (m__law_folded_l1 (fun v_found106 => (pure (.list v_found106)))) ds (v_found105)))) (fun rs0 v_found105 v_n109 v_cell110 => ((do let v ← (do let x ← (do let ds ← (do let x ← (do let x ← (do let x ← (do let y ← (do let x ← (do let ds ← (do let x ← (pure v_n109); let xs ← pure []; pure (x :: xs)); lift (intD ds)); let y ← (pure (.int 64)); lift (modD x y)); lift (ixD (.list v_found105) y)); let y ← (pure (.int 48271)); lift (mulD x y)); let y ← (pure v_cell110); lift (addD x y)); let xs ← pure []; pure (x :: xs)); lift (intD ds)); let y ← (pure (.int 2147483647)); lift (modD x y)); let k ← (do let x ← (do let ds ← (do let x ← (pure v_n109); let xs ← pure []; pure (x :: xs)); lift (intD ds)); let y ← (pure (.int 64)); lift (modD x y)); setL v_found105 k v) >>= fun v_found111 => ((m__law_folded_l0 (fun v_found105 => (do let ds ← (do let x ← (pure (.int 1)); let y ← (pure (.int 64)); let i ← asN x; let j ← asN y; pure (rngL i (j - i).toNat)); (m__law_folded_l1 (fun v_found106 => (pure (.list v_found106)))) ds (v_found105)))) rs0 (v_found111)))) (v_found103); (case hlp => exact (fun d rs0 v_found105 => by rfl)); (case hi => exact (ri_givEnum 0 bi.enumerate)); (case h0 => exact (by exact ⟨.inr rfl, .inr rfl, .inl rfl, .inl rfl, trivial⟩)); (case hb => exact (fun v_n109 v_cell110 rs0 v_found105 => by exact (show RefB _ _ _ _ ((do let v ← (do let x ← (do let ds ← (do let x ← (do let x ← (do let x ← (do let y ← (do let x ← (do let ds ← (do let x ← (pure v_n109); let xs ← pure []; pure (x :: xs)); lift (intD ds)); let y ← (pure (.int 64)); lift (modD x y)); lift (ixD (.list v_found105) y)); let y ← (pure (.int 48271)); lift (mulD x y)); let y ← (pure v_cell110); lift (addD x y)); let xs ← pure []; pure (x :: xs)); lift (intD ds)); let y ← (pure (.int 2147483647)); lift (modD x y)); let k ← (do let x ← (do let ds ← (do let x ← (pure v_n109); let xs ← pure []; pure (x :: xs)); lift (intD ds)); let y ← (pure (.int 64)); lift (modD x y)); setL v_found105 k v) >>= fun v_found111 => ((m__law_folded_l0 (fun v_found105 => (do let ds ← (do let x ← (pure (.int 1)); let y ← (pure (.int 64)); let i ← asN x; let j ← asN y; pure (rngL i (j - i).toNat)); (m__law_folded_l1 (fun v_found106 => (pure (.list v_found106)))) ds (v_found105)))) rs0 (v_found111))) from (rb_cons (by exact (rs_setI 1 (e_mod (e_intc bi (rl_cons (e_add (e_mul (re_ixOwn 1 (e_mod (e_intc bi (rl_cons (re_var 2) rl_nil)) re_int)) re_int) (re_var 3)) rl_nil)) re_int) (e_mod (e_intc bi (rl_cons (re_var 2) rl_nil)) re_int))) fun v_found111 => (by exact (rb_nil (by exact ⟨(v_found111), (by exact ⟨.inr rfl, .inr rfl, .inl rfl, .inl rfl, trivial⟩), rfl⟩))))))); (case hrest => exact (fun v_found105 => by exact (show RefB _ _ _ _ (do let ds ← (do let x ← (pure (.int 1)); let y ← (pure (.int 64)); let i ← asN x; let j ← asN y; pure (rngL i (j - i).toNat)); (m__law_folded_l1 (fun v_found106 => (pure (.list v_found106)))) ds (v_found105)) from (by apply rb_for1 2 (fun q : List D => [.giv v_script102, .own q, .un, .un]) (m__law_folded_l1 (fun v_found106 => (pure (.list v_found106)))) (v_found105); (case hi => exact (ri_rng2 re_int re_int (hm := bi.range))); (case h0 => exact (by exact ⟨.inr rfl, .inr rfl, .inl rfl, .inl rfl, trivial⟩)); (case hb => exact (fun v_n107 rs1 v_found106 => by exact (show RefB _ _ _ _ ((do let v ← (do let x ← (do let ds ← (do let x ← (do let x ← (do let y ← (pure v_n107); lift (ixD (.list v_found106) y)); let y ← (do let x ← (do let y ← (do let x ← (pure v_n107); let y ← (pure (.int 1)); lift (subD x y)); lift (ixD (.list v_found106) y)); let y ← (pure (.int 16807)); lift (mulD x y)); lift (addD x y)); let xs ← pure []; pure (x :: xs)); lift (intD ds)); let y ← (pure (.int 2147483647)); lift (modD x y)); let k ← (pure v_n107); setL v_found106 k v) >>= fun v_found108 => ((m__law_folded_l1 (fun v_found106 => (pure (.list v_found106)))) rs1 (v_found108))) from (rb_cons (by exact (rs_setI 1 (e_mod (e_intc bi (rl_cons (e_add (re_ixOwn 1 (re_var 2)) (e_mul (re_ixOwn 1 (e_sub (re_var 2) re_int)) re_int)) rl_nil)) re_int) (re_var 2))) fun v_found108 => (by exact (rb_nil (by exact ⟨(v_found108), (by exact ⟨.inr rfl, .inr rfl, .inl rfl, .inl rfl, trivial⟩), rfl⟩))))))); (case hrest => exact (fun v_found106 => by exact (show RefB _ _ _ _ (pure (.list v_found106)) from (rb_frz (ds := v_found106) 1 (by exact (rb_ret (re_var 1))))))))))))))

theorem b__law_draw {e : Wd} (bi : Bi e) (k__law_mixed : Kn e "_law_mixed" 1 2 (fn2 m__law_mixed) []) (W : XK) (v_limit113 : D) : RefB (cOf e ["m", "limit", "n", "lot", "here", "cell"] (defScope (top 43)) 1 W) (slots [.drw, .dat v_limit113] 6) (defBody (top 43)) kEnd (m__law_draw v_limit113) := by
  unfold m__law_draw
  exact (rb_cons (by exact (rs_set 2 (re_mspot 0))) fun v_n114 => (by exact (rb_cons (by exact (rs_mspot 0 (e_add (re_var 2) re_int))) fun _ => (by exact (rb_if (by exact (rt_greatNe 0)) (by exact (rb_cons (by exact (rs_setMem 0 3 true)) fun _ => (by exact (rb_cons (by exact (rs_set 4 (e_mod (e_intc bi (rl_cons (re_var 2) rl_nil)) (re_lenMem 3 bi.len)))) fun v_here115 => (by exact (rb_cons (by exact (rs_set 5 (re_ixMem 3 (re_var 4)))) fun v_cell116 => (by exact (rb_if (by exact (rt_cmp o_gt (re_var 5) re_int)) (by exact (rb_cons (by exact (rs_setIMem 3 (e_fdiv (re_var 5) (re_var 1)) (re_var 4))) fun _ => (by exact (rb_ret (e_mod (e_intc bi (rl_cons (re_var 5) rl_nil)) (re_var 1)))))) (by exact (rb_nil (by exact (rb_nil (by exact (rb_cons (by exact (rs_setMem 0 3 false)) fun _ => (by exact (rb_ret (e_mod (e_intc bi (rl_cons (re_call k__law_mixed (ra_dat (re_call k__law_mixed (ra_dat (e_add (re_ixMem 3 (e_mod (e_intc bi (rl_cons (re_var 2) rl_nil)) re_int)) (e_mul re_int (e_fdiv (re_var 2) re_int))) (ra_dat (re_var 2) ra_nil))) (ra_dat (e_add (re_var 2) re_int) ra_nil))) rl_nil)) (re_var 1)))))))))))))))))) (by exact (rb_nil (by exact (rb_cons (by exact (rs_setMem 0 3 false)) fun _ => (by exact (rb_ret (e_mod (e_intc bi (rl_cons (re_call k__law_mixed (ra_dat (re_call k__law_mixed (ra_dat (e_add (re_ixMem 3 (e_mod (e_intc bi (rl_cons (re_var 2) rl_nil)) re_int)) (e_mul re_int (e_fdiv (re_var 2) re_int))) (ra_dat (re_var 2) ra_nil))) (ra_dat (e_add (re_var 2) re_int) ra_nil))) rl_nil)) (re_var 1)))))))))))))

theorem b__law_begun {e : Wd} (bi : Bi e) (k__law_folded : Kn e "_law_folded" 1 1 (fg1 m__law_folded) []) (W : XK) (v_script : List Int) {cells great : List Int} {H : Hp} {σ : L2.St} {S0 : DS} {D : Ends} (hr1 : ∀ S, m1__law_begun v_script S = .ok (.list (cells.map .int)) S) (hr2 : ∀ S, m2__law_begun v_script S = .ok (.list (great.map .int)) S) (hne : cells.length ≠ great.length)
    (st : St (cOf e ["script", "m", "cell"] (defScope (top 44)) 1 W) ⟨H, [], none⟩ (slots [.giv v_script] 3) S0 σ H []) (Q : ∀ am ag ac H', Nx [] H H' → LamX.Tabs e.T H' → Mst (some (am, ag, ac)) H' ⟨cells, great, 0⟩ → D.rt (.ref am) H') : WSs (cOf e ["script", "m", "cell"] (defScope (top 44)) 1 W) (defBody (top 44)) D σ H := by
  unfold m1__law_begun at hr1
  unfold m2__law_begun at hr2
  exact wb_begun (c := (cOf e ["script", "m", "cell"] (defScope (top 44)) 1 W)) (by exact (re_call k__law_folded (ra_giv 0 ra_nil))) (by exact (re_new (rn_lc (lc_one (own := [("cell", 2)]) 2 (by exact (ri_giv 0)) (fun v_cell117 => ⟨by exact rif_nil, by exact (re_if (rt_cmp o_ge (re_var 2) (e_pow re_int re_int)) (re_var 2) re_int)⟩))))) hr1 hr2 hne rfl rfl (by first | exact .inl rfl | exact .inr rfl) (by first | exact Or.inl rfl | exact Or.inr (Or.inl rfl) | exact Or.inr (Or.inr rfl)) (by decide) (by decide) (.inl rfl) (by intro _ _; rfl) (by intro _ _; rfl) st Q

theorem b__law_of {e : Wd} (bi : Bi e) (k__law_draw : Kn e "_law_draw" 2 2 (fm1 m__law_draw) []) (W : XK) (v_some118 : D) : RefB (cOf e ["m", "some"] (defScope (top 45)) 2 W) (slots [.drw, .dat v_some118] 2) (defBody (top 45)) kEnd (m__law_of v_some118) := by
  unfold m__law_of
  exact (rb_ret (re_ix (re_var 1) (re_call k__law_draw (ra_drw 0 (ra_dat (e_len bi (rl_cons (re_var 1) rl_nil)) ra_nil)))))

theorem b__law_like {e : Wd} (bi : Bi e) (n : Nat) (k__law_like : Kn e "_law_like" (n + 1) 2 (fn2 (r__law_like n)) []) (W : XK) (v_got119 : D) (v_due120 : D) : RefB (cOf e ["got", "due", "n"] (defScope (top 46)) (n + 1) W) (slots [.dat v_got119, .dat v_due120] 3) (defBody (top 46)) kEnd (r__law_like (n + 1) v_got119 v_due120) := by
  unfold r__law_like
  exact (rb_if (by exact (rt_cmp o_is (re_var 1) re_non)) (by exact (rb_ret (re_cmp o_is (re_var 0) re_non))) (by exact (rb_nil (by exact (rb_if (by exact (rt_val (e_isbool bi (re_var 1)))) (by exact (rb_ret (re_and (e_isbool bi (re_var 0)) (re_one (re_cmp o_eq (re_var 0) (re_var 1)))))) (by exact (rb_nil (by exact (rb_if (by exact (rt_val (e_isint bi (re_var 1)))) (by exact (rb_ret (re_and (e_isint bi (re_var 0)) (re_and (re_not (e_isbool bi (re_var 0))) (re_one (re_cmp o_eq (re_var 0) (re_var 1))))))) (by exact (rb_nil (by exact (rb_if (by exact (rt_val (e_isstr bi (re_var 1)))) (by exact (rb_ret (re_and (e_isstr bi (re_var 0)) (re_one (re_cmp o_eq (re_var 0) (re_var 1)))))) (by exact (rb_nil (by exact (rb_if (by exact (rw_t (rw_or (rw_t (rw_and (rt_val (e_istuple bi (re_var 1))) (rw_and1 (rt_not (rt_val (e_istuple bi (re_var 0))))))) (rw_or1 (rw_t (rw_and (rt_val (e_islist bi (re_var 1))) (rw_and1 (rt_not (rt_val (e_islist bi (re_var 0))))))))))) (by exact (rb_ret re_bl)) (by exact (rb_nil (by exact (rb_if (by exact (rt_cmp o_ne (e_len bi (rl_cons (re_var 0) rl_nil)) (e_len bi (rl_cons (re_var 1) rl_nil)))) (by exact (rb_ret re_bl)) (by exact (rb_nil (by exact (by apply rb_for1 2 (fun q : Unit => [.dat v_got119, .dat v_due120, .un]) (m__law_like_l0 (r__law_like n) v_due120 v_got119 (fun (_ : Unit) => (pure (.bool true)))) (); (case hi => exact (ri_rng1 (e_len bi (rl_cons (re_var 1) rl_nil)) (hm := bi.range))); (case h0 => exact (by exact ⟨.inr rfl, .inr rfl, .inl rfl, trivial⟩)); (case hb => exact (fun v_n121 rs0 q => by exact (show RefB _ _ _ _ (do let k ← (do let k ← (do let x ← (do let as ← (do let x ← (do let x ← (pure v_got119); let y ← (pure v_n121); lift (ixD x y)); let xs ← (do let x ← (do let x ← (pure v_due120); let y ← (pure v_n121); lift (ixD x y)); let xs ← pure []; pure (Ar.dat x :: xs)); pure (Ar.dat x :: xs)); fn2 (r__law_like n) (as ++ (([] : List D)).map Ar.dat)); asB x); pure (!k)); if k = true then (pure (.bool false)) else ((m__law_like_l0 (r__law_like n) v_due120 v_got119 (fun (_ : Unit) => (pure (.bool true)))) rs0 ())) from (rb_if (by exact (rt_not (rt_val (re_call k__law_like (ra_dat (re_ix (re_var 0) (re_var 2)) (ra_dat (re_ix (re_var 1) (re_var 2)) ra_nil)))))) (by exact (rb_ret re_bl)) (by exact (rb_nil (by exact (rb_nil (by exact ⟨(), (by exact ⟨.inr rfl, .inr rfl, .inl rfl, trivial⟩), rfl⟩))))))))); (case hrest => exact (fun q => by exact (show RefB _ _ _ _ (pure (.bool true)) from (rb_ret re_bl)))))))))))))))))))))))))))))

theorem b__law_order {e : Wd} (bi : Bi e) (k__law_draw : Kn e "_law_draw" 2 2 (fm1 m__law_draw) []) (W : XK) (v_many122 : D) : RefB (cOf e ["m", "many", "left", "found"] (defScope (top 47)) 2 W) (slots [.drw, .dat v_many122] 4) (defBody (top 47)) kEnd (m__law_order v_many122) := by
  unfold m__law_order
  exact (rb_cons (by exact (rs_parNN 2 3 (rn_listRg (re_var 1) bi.list bi.range) (rn_lst rl_nil))) fun v_q123 => (by exact (by apply rb_while (fun q : List D × List D => [.drw, .dat v_many122, .own q.1, .own q.2]) (m__law_order_l0 (fun (v_left124, v_found125) => (pure (.list v_found125)))) ((v_q123.1).length + 1) (v_q123.1, v_q123.2) (mt := fun (v_left124, v_found125) => (do let z ← lift (neD' (.list v_left124) (.list [])); asB z)) (mb := fun nn0 (v_left124, v_found125) => ((do let k ← (do let as ← (do let xs ← (do let x ← (pure (.int (v_left124 : List D).length)); let xs ← pure []; pure (Ar.dat x :: xs)); pure (Ar.drw :: xs)); fm1 m__law_draw (as ++ (([] : List D)).map Ar.dat)); let q ← popL v_left124 k; let ds' ← pushL v_found125 q.1; pure (ds', q.2)) >>= fun v_q126 => ((m__law_order_l0 (fun (v_left124, v_found125) => (pure (.list v_found125)))) nn0 (v_q126.2, v_q126.1)))) (mr := (fun (v_left124, v_found125) => (pure (.list v_found125)))); (case h0 => exact (by exact ⟨.inr rfl, .inr rfl, .inr rfl, .inr rfl, trivial⟩)); (case hz => exact (fun q => rfl)); (case hs => exact (fun nn0 q => by obtain ⟨v_left124, v_found125⟩ := q; rfl)); (case ht => exact (fun q => by obtain ⟨v_left124, v_found125⟩ := q; exact (show RefT _ _ _ (do let z ← lift (neD' (.list v_left124) (.list [])); asB z) from (rt_ownNe 2)))); (case hb => exact (fun nn0 q => by obtain ⟨v_left124, v_found125⟩ := q; exact (show RefB _ _ _ _ ((do let k ← (do let as ← (do let xs ← (do let x ← (pure (.int (v_left124 : List D).length)); let xs ← pure []; pure (Ar.dat x :: xs)); pure (Ar.drw :: xs)); fm1 m__law_draw (as ++ (([] : List D)).map Ar.dat)); let q ← popL v_left124 k; let ds' ← pushL v_found125 q.1; pure (ds', q.2)) >>= fun v_q126 => ((m__law_order_l0 (fun (v_left124, v_found125) => (pure (.list v_found125)))) nn0 (v_q126.2, v_q126.1))) from (rb_cons (by exact (rs_appPop 3 2 (by decide) (re_call k__law_draw (ra_drw 0 (ra_dat (re_lenOwn 2 bi.len) ra_nil))))) fun v_q126 => (by exact (rb_nil (by exact ⟨(v_q126.2, v_q126.1), (by exact ⟨.inr rfl, .inr rfl, .inr rfl, .inr rfl, trivial⟩), rfl⟩))))))); (case hrest => exact (fun q => by obtain ⟨v_left124, v_found125⟩ := q; exact (show RefB _ _ _ _ (pure (.list v_found125)) from (rb_frz (ds := v_found125) 3 (by exact (rb_ret (re_var 3))))))))))

theorem b__law_common {e : Wd} (bi : Bi e)  (W : XK) (v_one127 : D) (v_other128 : D) : RefB (cOf e ["one", "other"] (defScope (top 48)) 0 W) (slots [.dat v_one127, .dat v_other128] 2) (defBody (top 48)) kEnd (m__law_common v_one127 v_other128) := by
  unfold m__law_common
  exact (rb_cons (by exact (rs_par 0 1 (e_abs bi (rl_cons (re_var 0) rl_nil)) (e_abs bi (rl_cons (re_var 1) rl_nil)))) fun v_q129 => (by exact (by apply rb_while (fun q : D × D => [.dat q.1, .dat q.2]) (m__law_common_l0 (fun (v_one130, v_other131) => (pure v_one130))) (fuelD v_q129.2) (v_q129.1, v_q129.2) (mt := fun (v_one130, v_other131) => (do let x ← (pure v_other131); let y ← (pure (.int 0)); let z ← lift (neD' x y); asB z)) (mb := fun nn0 (v_one130, v_other131) => ((do let u ← (pure v_other131); let v ← (do let x ← (do let ds ← (do let x ← (pure v_one130); let xs ← pure []; pure (x :: xs)); lift (intD ds)); let y ← (pure v_other131); lift (modD x y)); pure (u, v)) >>= fun v_q132 => ((m__law_common_l0 (fun (v_one130, v_other131) => (pure v_one130))) nn0 (v_q132.1, v_q132.2)))) (mr := (fun (v_one130, v_other131) => (pure v_one130))); (case h0 => exact (by exact ⟨.inr rfl, .inr rfl, trivial⟩)); (case hz => exact (fun q => rfl)); (case hs => exact (fun nn0 q => by obtain ⟨v_one130, v_other131⟩ := q; rfl)); (case ht => exact (fun q => by obtain ⟨v_one130, v_other131⟩ := q; exact (show RefT _ _ _ (do let x ← (pure v_other131); let y ← (pure (.int 0)); let z ← lift (neD' x y); asB z) from (rt_cmp o_ne (re_var 1) re_int)))); (case hb => exact (fun nn0 q => by obtain ⟨v_one130, v_other131⟩ := q; exact (show RefB _ _ _ _ ((do let u ← (pure v_other131); let v ← (do let x ← (do let ds ← (do let x ← (pure v_one130); let xs ← pure []; pure (x :: xs)); lift (intD ds)); let y ← (pure v_other131); lift (modD x y)); pure (u, v)) >>= fun v_q132 => ((m__law_common_l0 (fun (v_one130, v_other131) => (pure v_one130))) nn0 (v_q132.1, v_q132.2))) from (rb_cons (by exact (rs_par 0 1 (re_var 1) (e_mod (e_intc bi (rl_cons (re_var 0) rl_nil)) (re_var 1)))) fun v_q132 => (by exact (rb_nil (by exact ⟨(v_q132.1, v_q132.2), (by exact ⟨.inr rfl, .inr rfl, trivial⟩), rfl⟩))))))); (case hrest => exact (fun q => by obtain ⟨v_one130, v_other131⟩ := q; exact (show RefB _ _ _ _ (pure v_one130) from (rb_ret (re_var 0))))))))

theorem b__law_ratio {e : Wd} (bi : Bi e) (k__law_common : Kn e "_law_common" 1 2 (fn2 m__law_common) []) (W : XK) (v_upper133 : D) (v_under134 : D) : RefB (cOf e ["upper", "under", "common"] (defScope (top 49)) 1 W) (slots [.dat v_upper133, .dat v_under134] 3) (defBody (top 49)) kEnd (m__law_ratio v_upper133 v_under134) := by
  unfold m__law_ratio
  exact (rb_cons (by exact (rs_set 2 (re_call k__law_common (ra_dat (re_var 0) (ra_dat (re_var 1) ra_nil))))) fun v_common135 => (by exact (rb_cons (by exact (rs_set 2 (re_if (rt_cmp o_lt (re_var 1) re_int) (e_neg (re_var 2)) (re_var 2)))) fun v_common136 => (by exact (rb_ret (re_tup (rl_cons (e_fdiv (re_var 0) (re_var 2)) (rl_cons (e_fdiv (re_var 1) (re_var 2)) rl_nil))))))))

theorem b__law_times {e : Wd} (bi : Bi e) (k__law_ratio : Kn e "_law_ratio" 2 2 (fn2 m__law_ratio) []) (W : XK) (v_fractions137 : D) : RefB (cOf e ["fractions", "found", "upper", "under"] (defScope (top 50)) 2 W) (slots [.dat v_fractions137] 4) (defBody (top 50)) kEnd (m__law_times v_fractions137) := by
  unfold m__law_times
  exact (rb_cons (by exact (rs_set 1 (re_tup (rl_cons re_int (rl_cons re_int rl_nil))))) fun v_found138 => (by exact (by apply rb_for2 2 3 (fun q : D => [.dat v_fractions137, .dat q, .un, .un]) (m__law_times_l0 (fun v_found139 => (pure v_found139))) (fun rs0 v_found139 v_upper140 v_under141 => ((do let as ← (do let x ← (do let x ← (do let x ← (pure v_found139); let y ← (pure (.int 0)); lift (ixD x y)); let y ← (pure v_upper140); lift (mulD x y)); let xs ← (do let x ← (do let x ← (do let x ← (pure v_found139); let y ← (pure (.int 1)); lift (ixD x y)); let y ← (pure v_under141); lift (mulD x y)); let xs ← pure []; pure (Ar.dat x :: xs)); pure (Ar.dat x :: xs)); fn2 m__law_ratio (as ++ (([] : List D)).map Ar.dat)) >>= fun v_found142 => ((m__law_times_l0 (fun v_found139 => (pure v_found139))) rs0 (v_found142)))) (v_found138); (case hlp => exact (fun d rs0 v_found139 => by rfl)); (case hi => exact (ri_sq (re_var 0))); (case h0 => exact (by exact ⟨.inr rfl, .inr rfl, .inl rfl, .inl rfl, trivial⟩)); (case hb => exact (fun v_upper140 v_under141 rs0 v_found139 => by exact (show RefB _ _ _ _ ((do let as ← (do let x ← (do let x ← (do let x ← (pure v_found139); let y ← (pure (.int 0)); lift (ixD x y)); let y ← (pure v_upper140); lift (mulD x y)); let xs ← (do let x ← (do let x ← (do let x ← (pure v_found139); let y ← (pure (.int 1)); lift (ixD x y)); let y ← (pure v_under141); lift (mulD x y)); let xs ← pure []; pure (Ar.dat x :: xs)); pure (Ar.dat x :: xs)); fn2 m__law_ratio (as ++ (([] : List D)).map Ar.dat)) >>= fun v_found142 => ((m__law_times_l0 (fun v_found139 => (pure v_found139))) rs0 (v_found142))) from (rb_cons (by exact (rs_set 1 (re_call k__law_ratio (ra_dat (e_mul (re_ix (re_var 1) re_int) (re_var 2)) (ra_dat (e_mul (re_ix (re_var 1) re_int) (re_var 3)) ra_nil))))) fun v_found142 => (by exact (rb_nil (by exact ⟨(v_found142), (by exact ⟨.inr rfl, .inr rfl, .inl rfl, .inl rfl, trivial⟩), rfl⟩))))))); (case hrest => exact (fun v_found139 => by exact (show RefB _ _ _ _ (pure v_found139) from (rb_ret (re_var 1))))))))

theorem b__law_over {e : Wd} (bi : Bi e) (k__law_ratio : Kn e "_law_ratio" 2 2 (fn2 m__law_ratio) []) (W : XK) (v_one144 : D) (v_other145 : D) : RefB (cOf e ["one", "other"] (defScope (top 51)) 2 W) (slots [.dat v_one144, .dat v_other145] 2) (defBody (top 51)) kEnd (m__law_over v_one144 v_other145) := by
  unfold m__law_over
  exact (rb_ret (re_call k__law_ratio (ra_dat (e_mul (re_ix (re_var 0) re_int) (re_ix (re_var 1) re_int)) (ra_dat (e_mul (re_ix (re_var 0) re_int) (re_ix (re_var 1) re_int)) ra_nil))))

theorem b__law_minus {e : Wd} (bi : Bi e) (k__law_ratio : Kn e "_law_ratio" 2 2 (fn2 m__law_ratio) []) (W : XK) (v_one146 : D) (v_other147 : D) : RefB (cOf e ["one", "other"] (defScope (top 52)) 2 W) (slots [.dat v_one146, .dat v_other147] 2) (defBody (top 52)) kEnd (m__law_minus v_one146 v_other147) := by
  unfold m__law_minus
  exact (rb_ret (re_call k__law_ratio (ra_dat (e_sub (e_mul (re_ix (re_var 0) re_int) (re_ix (re_var 1) re_int)) (e_mul (re_ix (re_var 1) re_int) (re_ix (re_var 0) re_int))) (ra_dat (e_mul (re_ix (re_var 0) re_int) (re_ix (re_var 1) re_int)) ra_nil))))

theorem b__law_monomial {e : Wd} (bi : Bi e) (k__law_draw : Kn e "_law_draw" 2 2 (fm1 m__law_draw) []) (W : XK) (v_count148 : D) (v_degree149 : D) : RefB (cOf e ["m", "count", "degree", "found", "turn", "place"] (defScope (top 53)) 2 W) (slots [.drw, .dat v_count148, .dat v_degree149] 6) (defBody (top 53)) kEnd (m__law_monomial v_count148 v_degree149) := by
  unfold m__law_monomial
  exact (rb_cons (by exact (rs_setN 3 (rn_rep (re_lst (rl_cons re_int rl_nil)) (re_var 1)))) fun v_found150 => (by exact (rb_if (by exact (rt_cmp o_gt (re_var 1) re_int)) (by exact (by apply rb_for1 4 (fun q : List D => [.drw, .dat v_count148, .dat v_degree149, .own q, .un, .un]) (m__law_monomial_l0 v_count148 (fun v_found151 => (do let ds ← (do let x ← (pure (.list v_found151)); let xs ← pure []; pure (x :: xs)); lift (tupleD ds)))) (v_found150); (case hi => exact (ri_rng1 (re_call k__law_draw (ra_drw 0 (ra_dat (e_add (re_var 2) re_int) ra_nil))) (hm := bi.range))); (case h0 => exact (by exact ⟨.inr rfl, .inr rfl, .inr rfl, .inr rfl, .inl rfl, .inl rfl, trivial⟩)); (case hb => exact (fun v_turn152 rs0 v_found151 => by exact (show RefB _ _ _ _ ((do let as ← (do let xs ← (do let x ← (pure v_count148); let xs ← pure []; pure (Ar.dat x :: xs)); pure (Ar.drw :: xs)); fm1 m__law_draw (as ++ (([] : List D)).map Ar.dat)) >>= fun v_place153 => ((do let v ← (do let x ← (do let y ← (pure v_place153); lift (ixD (.list v_found151) y)); let y ← (pure (.int 1)); lift (addD x y)); let k ← (pure v_place153); setL v_found151 k v) >>= fun v_found154 => ((m__law_monomial_l0 v_count148 (fun v_found151 => (do let ds ← (do let x ← (pure (.list v_found151)); let xs ← pure []; pure (x :: xs)); lift (tupleD ds)))) rs0 (v_found154)))) from (rb_cons (by exact (rs_set 5 (re_call k__law_draw (ra_drw 0 (ra_dat (re_var 1) ra_nil))))) fun v_place153 => (by exact (rb_cons (by exact (rs_setI 3 (e_add (re_ixOwn 3 (re_var 5)) re_int) (re_var 5))) fun v_found154 => (by exact (rb_nil (by exact ⟨(v_found154), (by exact ⟨.inr rfl, .inr rfl, .inr rfl, .inr rfl, .inl rfl, .inl rfl, trivial⟩), rfl⟩))))))))); (case hrest => exact (fun v_found151 => by exact (show RefB _ _ _ _ (do let ds ← (do let x ← (pure (.list v_found151)); let xs ← pure []; pure (x :: xs)); lift (tupleD ds)) from (rb_nil (by exact (rb_frz (ds := v_found151) 3 (by exact (rb_ret (e_tuplec bi (rl_cons (re_var 3) rl_nil)))))))))))) (by exact (rb_nil (by exact (rb_frz (ds := v_found150) 3 (by exact (rb_ret (e_tuplec bi (rl_cons (re_var 3) rl_nil)))))))))))

theorem b__law_key {e : Wd} (bi : Bi e)  (W : XK) (v_order155 : D) (v_monomial156 : D) : RefB (cOf e ["order", "monomial", "spot", "found", "part", "row", "one", "a", "b"] (defScope (top 54)) 0 W) (slots [.dat v_order155, .dat v_monomial156] 9) (defBody (top 54)) kEnd (m__law_key v_order155 v_monomial156) := by
  unfold m__law_key
  exact (rb_if (by exact (rt_cmp o_eq (re_ix (re_var 0) re_int) re_str)) (by exact (rb_ret (e_listc bi (rl_cons (re_var 1) rl_nil)))) (by exact (rb_nil (by exact (rb_if (by exact (rt_cmp o_eq (re_ix (re_var 0) re_int) re_str)) (by exact (rb_ret (re_new (rn_lc (lc_one (own := [("row", 5)]) 5 (by exact (ri_sq (re_ix (re_var 0) re_int))) (fun v_row157 => ⟨by exact rif_nil, by exact (e_sum bi (rl_cons (re_new (rn_lc (lc_two (own := [("a", 7), ("b", 8)]) 7 8 (by exact (ri_zip (re_var 5) (re_var 1) (hm := bi.zip))) (fun v_a158 v_b159 => ⟨by exact rif_nil, by exact (e_mul (re_var 7) (re_var 8))⟩)))) rl_nil))⟩)))))) (by exact (rb_nil (by exact (rb_cons (by exact (rs_set 2 (re_if (rt_cmp o_eq (re_ix (re_var 0) re_int) re_str) (e_len bi (rl_cons (re_var 1) rl_nil)) (re_ix (re_var 0) re_int)))) fun v_spot160 => (by exact (rb_cons (by exact (rs_set 3 (re_lst rl_nil))) fun v_found161 => (by exact (by apply rb_for1 4 (fun q : D => [.dat v_order155, .dat v_monomial156, .dat v_spot160, .dat q, .un, .un, .un, .un, .un]) (m__law_key_l0 (fun v_found162 => (pure v_found162))) (v_found161); (case hi => exact (ri_sq (re_lst (rl_cons (re_sl (re_var 1) ro_none (ro_some (re_var 2))) (rl_cons (re_sl (re_var 1) (ro_some (re_var 2)) ro_none) rl_nil))))); (case h0 => exact (by exact ⟨.inr rfl, .inr rfl, .inr rfl, .inr rfl, .inl rfl, .inl rfl, .inl rfl, .inl rfl, .inl rfl, trivial⟩)); (case hb => exact (fun v_part163 rs0 v_found162 => by exact (show RefB _ _ _ _ ((do let x ← (do let x ← (pure v_found162); let y ← (do let ds ← (do let x ← (do let ds ← (do let x ← (pure v_part163); let xs ← pure []; pure (x :: xs)); lift (sumD ds)); let xs ← pure []; pure (x :: xs)); mkLst ds); lift (addD x y)); let y ← (do let ds ← (do let ds ← (do let x ← (do let x ← (pure v_part163); lift (revD x)); asSq x); lcM (fun v_one165 => elM (pure true) (do let x ← (pure v_one165); lift (negD x))) ds); pure (.list ds)); lift (addD x y)) >>= fun v_found164 => ((m__law_key_l0 (fun v_found162 => (pure v_found162))) rs0 (v_found164))) from (rb_cons (by exact (rs_set 3 (e_add (e_add (re_var 3) (re_lst (rl_cons (e_sum bi (rl_cons (re_var 4) rl_nil)) rl_nil))) (re_new (rn_lc (lc_one (own := [("one", 6)]) 6 (by exact (ri_sq (re_rev (re_var 4)))) (fun v_one165 => ⟨by exact rif_nil, by exact (e_neg (re_var 6))⟩))))))) fun v_found164 => (by exact (rb_nil (by exact ⟨(v_found164), (by exact ⟨.inr rfl, .inr rfl, .inr rfl, .inr rfl, .inl rfl, .inl rfl, .inl rfl, .inl rfl, .inl rfl, trivial⟩), rfl⟩))))))); (case hrest => exact (fun v_found162 => by exact (show RefB _ _ _ _ (pure v_found162) from (rb_ret (re_var 3))))))))))))))))))

theorem b__law_divides {e : Wd} (bi : Bi e)  (W : XK) (v_one166 : D) (v_other167 : D) : RefB (cOf e ["one", "other", "a", "b"] (defScope (top 55)) 0 W) (slots [.dat v_one166, .dat v_other167] 4) (defBody (top 55)) kEnd (m__law_divides v_one166 v_other167) := by
  unfold m__law_divides
  exact (rb_ret (re_cmp o_eq (re_new (rn_lc (lc_two (own := [("a", 2), ("b", 3)]) 2 3 (by exact (ri_zip (re_var 0) (re_var 1) (hm := bi.zip))) (fun v_a168 v_b169 => ⟨by exact (rif_one (rt_cmp o_gt (re_var 2) (re_var 3))), by exact re_int⟩)))) (re_lst rl_nil)))

theorem b__law_some_order {e : Wd} (bi : Bi e) (k__law_draw : Kn e "_law_draw" 2 2 (fm1 m__law_draw) []) (k__law_order : Kn e "_law_order" 3 2 (fm1 m__law_order) []) (W : XK) (v_count170 : D) : RefB (cOf e ["m", "count", "pick", "rows", "turned", "place", "other"] (defScope (top 56)) 3 W) (slots [.drw, .dat v_count170] 7) (defBody (top 56)) kEnd (m__law_some_order v_count170) := by
  unfold m__law_some_order
  exact (rb_cons (by exact (rs_set 2 (re_call k__law_draw (ra_drw 0 (ra_dat re_int ra_nil))))) fun v_pick171 => (by exact (rb_if (by exact (rt_cmp o_lt (re_var 2) re_int)) (by exact (rb_ret (re_ix (re_lst (rl_cons (re_tup (rl_cons re_str rl_nil)) (rl_cons (re_tup (rl_cons re_str rl_nil)) rl_nil))) (re_var 2)))) (by exact (rb_nil (by exact (rb_if (by exact (rt_cmp o_eq (re_var 2) re_int)) (by exact (rb_ret (re_tup (rl_cons re_str (rl_cons (re_call k__law_draw (ra_drw 0 (ra_dat (e_add (re_var 1) re_int) ra_nil))) rl_nil))))) (by exact (rb_nil (by exact (rb_cons (by exact (rs_setN 3 (rn_if (rt_cmp o_eq (re_var 2) re_int) (rn_lst (rl_cons (e_tuplec bi (rl_cons (re_new (rn_lc (lc_one (own := [("place", 5)]) 5 (by exact (ri_rng1 (re_var 1) (hm := bi.range))) (fun v_place173 => ⟨by exact rif_nil, by exact (e_add re_int (re_call k__law_draw (ra_drw 0 (ra_dat re_int ra_nil))))⟩)))) rl_nil)) rl_nil)) (rn_lst rl_nil)))) fun v_rows172 => (by exact (rb_cons (by exact (rs_set 4 (re_call k__law_order (ra_drw 0 (ra_dat (re_var 1) ra_nil))))) fun v_turned174 => (by exact (by apply rb_for1 5 (fun q : List D => [.drw, .dat v_count170, .dat v_pick171, .own q, .dat v_turned174, .un, .un]) (m__law_some_order_l0 v_count170 v_turned174 (fun v_rows175 => (do let ds ← (do let x ← (pure (.str "weights")); let xs ← (do let x ← (do let ds ← (do let x ← (pure (.list v_rows175)); let xs ← pure []; pure (x :: xs)); lift (tupleD ds)); let xs ← pure []; pure (x :: xs)); pure (x :: xs)); mkTup ds))) (v_rows172); (case hi => exact (ri_rng1 (re_var 1) (hm := bi.range))); (case h0 => exact (by exact ⟨.inr rfl, .inr rfl, .inr rfl, .inr rfl, .inr rfl, .inl rfl, .inl rfl, trivial⟩)); (case hb => exact (fun v_place176 rs0 v_rows175 => by exact (show RefB _ _ _ _ ((do let d ← (do let ds ← (do let x ← (do let ds ← (do let ds ← (do let x ← (pure v_count170); let n ← asN x; pure (rngL 0 n.toNat)); lcM (fun v_other177 => elM (pure true) (do let ds ← (do let x ← (do let x ← (do let x ← (pure v_turned174); let y ← (pure v_other177); lift (ixD x y)); let y ← (pure v_place176); lift (eqD x y)); let xs ← pure []; pure (x :: xs)); lift (intD ds))) ds); pure (.list ds)); let xs ← pure []; pure (x :: xs)); lift (tupleD ds)); pushL v_rows175 d) >>= fun v_rows178 => ((m__law_some_order_l0 v_count170 v_turned174 (fun v_rows175 => (do let ds ← (do let x ← (pure (.str "weights")); let xs ← (do let x ← (do let ds ← (do let x ← (pure (.list v_rows175)); let xs ← pure []; pure (x :: xs)); lift (tupleD ds)); let xs ← pure []; pure (x :: xs)); pure (x :: xs)); mkTup ds))) rs0 (v_rows178))) from (rb_cons (by exact (rs_append 3 (e_tuplec bi (rl_cons (re_new (rn_lc (lc_one (own := [("other", 6)]) 6 (by exact (ri_rng1 (re_var 1) (hm := bi.range))) (fun v_other177 => ⟨by exact rif_nil, by exact (e_intc bi (rl_cons (re_cmp o_eq (re_ix (re_var 4) (re_var 6)) (re_var 5)) rl_nil))⟩)))) rl_nil)))) fun v_rows178 => (by exact (rb_nil (by exact ⟨(v_rows178), (by exact ⟨.inr rfl, .inr rfl, .inr rfl, .inr rfl, .inr rfl, .inl rfl, .inl rfl, trivial⟩), rfl⟩))))))); (case hrest => exact (fun v_rows175 => by exact (show RefB _ _ _ _ (do let ds ← (do let x ← (pure (.str "weights")); let xs ← (do let x ← (do let ds ← (do let x ← (pure (.list v_rows175)); let xs ← pure []; pure (x :: xs)); lift (tupleD ds)); let xs ← pure []; pure (x :: xs)); pure (x :: xs)); mkTup ds) from (rb_frz (ds := v_rows175) 3 (by exact (rb_ret (re_tup (rl_cons re_str (rl_cons (e_tuplec bi (rl_cons (re_var 3) rl_nil)) rl_nil))))))))))))))))))))))))

theorem b__law_rank {e : Wd} (bi : Bi e) (k__law_minus : Kn e "_law_minus" 3 2 (fn2 m__law_minus) []) (k__law_over : Kn e "_law_over" 3 2 (fn2 m__law_over) []) (k__law_times : Kn e "_law_times" 3 1 (fn1 m__law_times) []) (W : XK) (v_rows179 : D) (v_columns180 : D) : RefB (cOf e ["rows", "columns", "column", "left", "found", "leads", "n", "row", "part", "one", "two"] (defScope (top 57)) 3 W) (slots [.dat v_rows179, .dat v_columns180] 11) (defBody (top 57)) kEnd (m__law_rank v_rows179 v_columns180) := by
  unfold m__law_rank
  exact (rb_cons (by exact (rs_parC 3 4 (rn_lc (lc_one (own := [("row", 7)]) 7 (by exact (ri_sq (re_var 0))) (fun v_row182 => ⟨by exact rif_nil, by exact (re_new (rn_lc (lc_one (own := [("one", 9)]) 9 (by exact (ri_sq (re_var 7))) (fun v_one183 => ⟨by exact rif_nil, by exact (re_tup (rl_cons (re_var 9) (rl_cons re_int rl_nil)))⟩))))⟩))) re_int)) fun v_q181 => (by exact (by apply rb_for1 2 (fun q : List D × D => [.dat v_rows179, .dat v_columns180, .un, .own q.1, .dat q.2, .un, .un, .un, .un, .un, .un]) (m__law_rank_l0 (fun (v_left184, v_found185) => (pure v_found185))) (v_q181.1, v_q181.2); (case hi => exact (ri_rng1 (re_var 1) (hm := bi.range))); (case h0 => exact (by exact ⟨.inr rfl, .inr rfl, .inl rfl, .inr rfl, .inr rfl, .inl rfl, .inl rfl, .inl rfl, .inl rfl, .inl rfl, .inl rfl, trivial⟩)); (case hb => exact (fun v_column186 rs0 q => by obtain ⟨v_left184, v_found185⟩ := q; exact (show RefB _ _ _ _ ((do let ds ← (do let x ← (pure v_found185); let y ← (pure (.int (v_left184 : List D).length)); let i ← asN x; let j ← asN y; pure (rngL i (j - i).toNat)); lcM (fun v_n188 => elM (do let x ← (do let x ← (do let y ← (pure v_n188); lift (ixD (.list v_left184) y)); let y ← (pure v_column186); lift (ixD x y)); let y ← (do let ds ← (do let x ← (pure (.int 0)); let xs ← (do let x ← (pure (.int 1)); let xs ← pure []; pure (x :: xs)); pure (x :: xs)); mkTup ds); let z ← lift (neD' x y); asB z) (pure v_n188)) ds) >>= fun v_leads187 => (do let k ← (do let x ← (pure (.list v_leads187)); let y ← (do let ds ← pure []; mkLst ds); let z ← lift (neD' x y); asB z); if k = true then ((do let u ← (do let y ← (do let x ← (pure (.list v_leads187)); let y ← (pure (.int 0)); lift (ixD x y)); lift (ixD (.list v_left184) y)); let v ← (do let y ← (pure v_found185); lift (ixD (.list v_left184) y)); let n ← (pure v_found185); let v_ds190 ← setL v_left184 n u; let l ← quiet (do let x ← (pure (.list v_leads187)); let y ← (pure (.int 0)); lift (ixD x y)); setL v_ds190 l v) >>= fun v_left189 => (do let ds ← (do let x ← (do let x ← (pure v_found185); let y ← (pure (.int 1)); lift (addD x y)); let y ← (pure (.int (v_left189 : List D).length)); let i ← asN x; let j ← asN y; pure (rngL i (j - i).toNat)); (m__law_rank_l1 v_column186 v_found185 (fun v_left191 => ((do let x ← (pure v_found185); let y ← (pure (.int 1)); lift (addD x y)) >>= fun v_found192 => ((m__law_rank_l0 (fun (v_left184, v_found185) => (pure v_found185))) rs0 (v_left191, v_found192))))) ds (v_left189))) else ((m__law_rank_l0 (fun (v_left184, v_found185) => (pure v_found185))) rs0 (v_left184, v_found185)))) from (rb_cons (by exact (rs_setLc 5 (lc_one (own := [("n", 6)]) 6 (by exact (ri_rng2 (re_var 4) (re_lenOwn 3 bi.len) (hm := bi.range))) (fun v_n188 => ⟨by exact (rif_one (rt_cmp o_ne (re_ix (re_ixOwn 3 (re_var 6)) (re_var 2)) (re_tup (rl_cons re_int (rl_cons re_int rl_nil))))), by exact (re_var 6)⟩)))) fun v_leads187 => (by exact (rb_if (by exact (rt_cmp o_ne (re_var 5) (re_lst rl_nil))) (by exact (rb_cons (by exact (rs_swap 3 (re_ixOwn 3 (re_ix (re_var 5) re_int)) (re_ixOwn 3 (re_var 4)) (re_var 4) (fun v_ds190 => (re_ix (re_var 5) re_int)))) fun v_left189 => (by exact (by apply rb_for1 6 (fun q : List D => [.dat v_rows179, .dat v_columns180, .dat v_column186, .own q, .dat v_found185, .dat (.list v_leads187), .un, .un, .un, .un, .un]) (m__law_rank_l1 v_column186 v_found185 (fun v_left191 => ((do let x ← (pure v_found185); let y ← (pure (.int 1)); lift (addD x y)) >>= fun v_found192 => ((m__law_rank_l0 (fun (v_left184, v_found185) => (pure v_found185))) rs0 (v_left191, v_found192))))) (v_left189); (case hi => exact (ri_rng2 (e_add (re_var 4) re_int) (re_lenOwn 3 bi.len) (hm := bi.range))); (case h0 => exact (by exact ⟨.inr rfl, .inr rfl, .inr rfl, .inr rfl, .inr rfl, .inr rfl, .inl rfl, .inl rfl, .inl rfl, .inl rfl, .inl rfl, trivial⟩)); (case hb => exact (fun v_n193 rs1 v_left191 => by exact (show RefB _ _ _ _ ((do let as ← (do let x ← (do let x ← (do let y ← (pure v_n193); lift (ixD (.list v_left191) y)); let y ← (pure v_column186); lift (ixD x y)); let xs ← (do let x ← (do let x ← (do let y ← (pure v_found185); lift (ixD (.list v_left191) y)); let y ← (pure v_column186); lift (ixD x y)); let xs ← pure []; pure (Ar.dat x :: xs)); pure (Ar.dat x :: xs)); fn2 m__law_over (as ++ (([] : List D)).map Ar.dat)) >>= fun v_part194 => ((do let v ← (do let ds ← (do let ds ← (do let x ← (do let y ← (pure v_n193); lift (ixD (.list v_left191) y)); let y ← (do let y ← (pure v_found185); lift (ixD (.list v_left191) y)); asZip x y); lcM (two fun v_one196 v_two197 => elM (pure true) (do let as ← (do let x ← (pure v_one196); let xs ← (do let x ← (do let as ← (do let x ← (do let ds ← (do let x ← (pure v_part194); let xs ← (do let x ← (pure v_two197); let xs ← pure []; pure (x :: xs)); pure (x :: xs)); mkLst ds); let xs ← pure []; pure (Ar.dat x :: xs)); fn1 m__law_times (as ++ (([] : List D)).map Ar.dat)); let xs ← pure []; pure (Ar.dat x :: xs)); pure (Ar.dat x :: xs)); fn2 m__law_minus (as ++ (([] : List D)).map Ar.dat))) ds); pure (.list ds)); let k ← (pure v_n193); setL v_left191 k v) >>= fun v_left195 => ((m__law_rank_l1 v_column186 v_found185 (fun v_left191 => ((do let x ← (pure v_found185); let y ← (pure (.int 1)); lift (addD x y)) >>= fun v_found192 => ((m__law_rank_l0 (fun (v_left184, v_found185) => (pure v_found185))) rs0 (v_left191, v_found192))))) rs1 (v_left195)))) from (rb_cons (by exact (rs_set 8 (re_call k__law_over (ra_dat (re_ix (re_ixOwn 3 (re_var 6)) (re_var 2)) (ra_dat (re_ix (re_ixOwn 3 (re_var 4)) (re_var 2)) ra_nil))))) fun v_part194 => (by exact (rb_cons (by exact (rs_setI 3 (re_new (rn_lc (lc_two (own := [("one", 9), ("two", 10)]) 9 10 (by exact (ri_zip (re_ixOwn 3 (re_var 6)) (re_ixOwn 3 (re_var 4)) (hm := bi.zip))) (fun v_one196 v_two197 => ⟨by exact rif_nil, by exact (re_call k__law_minus (ra_dat (re_var 9) (ra_dat (re_call k__law_times (ra_dat (re_lst (rl_cons (re_var 8) (rl_cons (re_var 10) rl_nil))) ra_nil)) ra_nil)))⟩)))) (re_var 6))) fun v_left195 => (by exact (rb_nil (by exact ⟨(v_left195), (by exact ⟨.inr rfl, .inr rfl, .inr rfl, .inr rfl, .inr rfl, .inr rfl, .inl rfl, .inl rfl, .inl rfl, .inl rfl, .inl rfl, trivial⟩), rfl⟩))))))))); (case hrest => exact (fun v_left191 => by exact (show RefB _ _ _ _ ((do let x ← (pure v_found185); let y ← (pure (.int 1)); lift (addD x y)) >>= fun v_found192 => ((m__law_rank_l0 (fun (v_left184, v_found185) => (pure v_found185))) rs0 (v_left191, v_found192))) from (rb_cons (by exact (rs_set 4 (e_add (re_var 4) re_int))) fun v_found192 => (by exact (rb_nil (by exact (rb_nil (by exact ⟨(v_left191, v_found192), (by exact ⟨.inr rfl, .inr rfl, .inl rfl, .inr rfl, .inr rfl, .inl rfl, .inl rfl, .inl rfl, .inl rfl, .inl rfl, .inl rfl, trivial⟩), rfl⟩))))))))))))) (by exact (rb_nil (by exact (rb_nil (by exact ⟨(v_left184, v_found185), (by exact ⟨.inr rfl, .inr rfl, .inl rfl, .inr rfl, .inr rfl, .inl rfl, .inl rfl, .inl rfl, .inl rfl, .inl rfl, .inl rfl, trivial⟩), rfl⟩))))))))))); (case hrest => exact (fun q => by obtain ⟨v_left184, v_found185⟩ := q; exact (show RefB _ _ _ _ (pure v_found185) from (rb_ret (re_var 4))))))))

theorem b__law_is_within {e : Wd} (bi : Bi e)  (W : XK) (v_value198 : D) (v_low199 : D) (v_high200 : D) : RefB (cOf e ["value", "low", "high"] (defScope (top 58)) 0 W) (slots [.dat v_value198, .dat v_low199, .dat v_high200] 3) (defBody (top 58)) kEnd (m__law_is_within v_value198 v_low199 v_high200) := by
  unfold m__law_is_within
  exact (rb_ret (re_and (e_isint bi (re_var 0)) (re_and (re_not (e_isbool bi (re_var 0))) (re_one (re_chain o_le o_le (re_var 1) (re_var 0) (re_var 2))))))

theorem b__law_due {e : Wd} (bi : Bi e) (k__law_is_within : Kn e "_law_is_within" 1 3 (fn3 m__law_is_within) []) (k__law_rank : Kn e "_law_rank" 4 2 (fn2 m__law_rank) []) (W : XK) (v_count201 : D) (v_value202 : D) : RefB (cOf e ["count", "value", "rows", "row", "column", "numbers", "one"] (defScope (top 59)) 4 W) (slots [.dat v_count201, .dat v_value202] 7) (defBody (top 59)) kEnd (m__law_due v_count201 v_value202) := by
  unfold m__law_due
  exact (rb_if (by exact (rw_t (rw_or (rt_not (rt_val (e_istuple bi (re_var 1)))) (rw_or (rt_cmp o_eq (re_var 1) (re_tup rl_nil)) (rw_or1 (rt_not (rt_val (e_isstr bi (re_ix (re_var 1) re_int))))))))) (by exact (rb_ret re_str)) (by exact (rb_nil (by exact (rb_if (by exact (rt_cmp o_in (re_var 1) (re_lst (rl_cons (re_tup (rl_cons re_str rl_nil)) (rl_cons (re_tup (rl_cons re_str rl_nil)) rl_nil))))) (by exact (rb_ret re_non)) (by exact (rb_nil (by exact (rb_if (by exact (rw_t (rw_or (rt_cmp o_ne (e_len bi (rl_cons (re_var 1) rl_nil)) re_int) (rw_or1 (rt_cmp o_notIn (re_ix (re_var 1) re_int) (re_lst (rl_cons re_str (rl_cons re_str rl_nil)))))))) (by exact (rb_ret re_str)) (by exact (rb_nil (by exact (rb_if (by exact (rt_cmp o_eq (re_ix (re_var 1) re_int) re_str)) (by exact (rb_ret (re_if (rt_val (re_call k__law_is_within (ra_dat (re_ix (re_var 1) re_int) (ra_dat re_int (ra_dat (re_var 0) ra_nil))))) re_non re_str))) (by exact (rb_nil (by exact (rb_cons (by exact (rs_set 2 (re_ix (re_var 1) re_int))) fun v_rows203 => (by exact (rb_if (by exact (rw_t (rw_or (rt_not (rt_val (e_istuple bi (re_var 2)))) (rw_or1 (rt_cmp o_gt (e_len bi (rl_cons (re_var 2) rl_nil)) re_int))))) (by exact (rb_ret re_str)) (by exact (rb_nil (by exact (by apply rb_for1 3 (fun q : Unit => [.dat v_count201, .dat v_value202, .dat v_rows203, .un, .un, .un, .un]) (m__law_due_l0 v_count201 (fun (_ : Unit) => (do let ds ← (do let x ← (pure v_count201); let n ← asN x; pure (rngL 0 n.toNat)); (m__law_due_l1 v_rows203 (fun (_ : Unit) => (do let k ← (do let x ← (do let as ← (do let x ← (pure v_rows203); let xs ← (do let x ← (pure v_count201); let xs ← pure []; pure (Ar.dat x :: xs)); pure (Ar.dat x :: xs)); fn2 m__law_rank (as ++ (([] : List D)).map Ar.dat)); let y ← (pure v_count201); let z ← lift (eqD x y); asB z); if k = true then (pure PyData.none) else (pure (.str "no order"))))) ds ()))) (); (case hi => exact (ri_sq (re_var 2))); (case h0 => exact (by exact ⟨.inr rfl, .inr rfl, .inr rfl, .inl rfl, .inl rfl, .inl rfl, .inl rfl, trivial⟩)); (case hb => exact (fun v_row207 rs0 q => by exact (show RefB _ _ _ _ (do let k ← (do let k ← (do let k ← (do let x ← (do let d ← (pure v_row207); pure (.bool (PyData.isTuple d))); asB x); pure (!k)); if k = true then pure true else (do let k ← (do let x ← (do let ds ← (do let x ← (pure v_row207); let xs ← pure []; pure (x :: xs)); lift (lenD ds)); let y ← (pure v_count201); let z ← lift (neD' x y); asB z); if k = true then pure true else (do let x ← (do let ds ← (do let ds ← (do let x ← (pure v_row207); asSq x); lcM (fun v_one208 => elM (do let k ← (do let x ← (do let as ← (do let x ← (pure v_one208); let xs ← (do let x ← (do let x ← (pure (.int 100)); lift (negD x)); let xs ← (do let x ← (pure (.int 100)); let xs ← pure []; pure (Ar.dat x :: xs)); pure (Ar.dat x :: xs)); pure (Ar.dat x :: xs)); fn3 m__law_is_within (as ++ (([] : List D)).map Ar.dat)); asB x); pure (!k)) (pure (.int 1))) ds); pure (.list ds)); let y ← (do let ds ← pure []; mkLst ds); let z ← lift (neD' x y); asB z))); if k = true then (pure (.str "weights")) else ((m__law_due_l0 v_count201 (fun (_ : Unit) => (do let ds ← (do let x ← (pure v_count201); let n ← asN x; pure (rngL 0 n.toNat)); (m__law_due_l1 v_rows203 (fun (_ : Unit) => (do let k ← (do let x ← (do let as ← (do let x ← (pure v_rows203); let xs ← (do let x ← (pure v_count201); let xs ← pure []; pure (Ar.dat x :: xs)); pure (Ar.dat x :: xs)); fn2 m__law_rank (as ++ (([] : List D)).map Ar.dat)); let y ← (pure v_count201); let z ← lift (eqD x y); asB z); if k = true then (pure PyData.none) else (pure (.str "no order"))))) ds ()))) rs0 ())) from (rb_if (by exact (rw_t (rw_or (rt_not (rt_val (e_istuple bi (re_var 3)))) (rw_or (rt_cmp o_ne (e_len bi (rl_cons (re_var 3) rl_nil)) (re_var 0)) (rw_or1 (rt_cmp o_ne (re_new (rn_lc (lc_one (own := [("one", 6)]) 6 (by exact (ri_sq (re_var 3))) (fun v_one208 => ⟨by exact (rif_one (rt_not (rt_val (re_call k__law_is_within (ra_dat (re_var 6) (ra_dat (e_neg re_int) (ra_dat re_int ra_nil))))))), by exact re_int⟩)))) (re_lst rl_nil))))))) (by exact (rb_ret re_str)) (by exact (rb_nil (by exact (rb_nil (by exact ⟨(), (by exact ⟨.inr rfl, .inr rfl, .inr rfl, .inl rfl, .inl rfl, .inl rfl, .inl rfl, trivial⟩), rfl⟩))))))))); (case hrest => exact (fun q => by exact (show RefB _ _ _ _ (do let ds ← (do let x ← (pure v_count201); let n ← asN x; pure (rngL 0 n.toNat)); (m__law_due_l1 v_rows203 (fun (_ : Unit) => (do let k ← (do let x ← (do let as ← (do let x ← (pure v_rows203); let xs ← (do let x ← (pure v_count201); let xs ← pure []; pure (Ar.dat x :: xs)); pure (Ar.dat x :: xs)); fn2 m__law_rank (as ++ (([] : List D)).map Ar.dat)); let y ← (pure v_count201); let z ← lift (eqD x y); asB z); if k = true then (pure PyData.none) else (pure (.str "no order"))))) ds ()) from (by apply rb_for1 4 (fun q : Unit => [.dat v_count201, .dat v_value202, .dat v_rows203, .un, .un, .un, .un]) (m__law_due_l1 v_rows203 (fun (_ : Unit) => (do let k ← (do let x ← (do let as ← (do let x ← (pure v_rows203); let xs ← (do let x ← (pure v_count201); let xs ← pure []; pure (Ar.dat x :: xs)); pure (Ar.dat x :: xs)); fn2 m__law_rank (as ++ (([] : List D)).map Ar.dat)); let y ← (pure v_count201); let z ← lift (eqD x y); asB z); if k = true then (pure PyData.none) else (pure (.str "no order"))))) (); (case hi => exact (ri_rng1 (re_var 0) (hm := bi.range))); (case h0 => exact (by exact ⟨.inr rfl, .inr rfl, .inr rfl, .inl rfl, .inl rfl, .inl rfl, .inl rfl, trivial⟩)); (case hb => exact (fun v_column204 rs1 q => by exact (show RefB _ _ _ _ ((do let ds ← (do let x ← (pure v_rows203); asSq x); lcM (fun v_row206 => elM (do let x ← (do let x ← (pure v_row206); let y ← (pure v_column204); lift (ixD x y)); let y ← (pure (.int 0)); let z ← lift (neD' x y); asB z) (do let x ← (pure v_row206); let y ← (pure v_column204); lift (ixD x y))) ds) >>= fun v_numbers205 => (do let k ← (do let k ← (do let x ← (pure (.list v_numbers205)); let y ← (do let ds ← pure []; mkLst ds); let z ← lift (eqD x y); asB z); if k = true then pure true else (do let x ← (do let x ← (pure (.list v_numbers205)); let y ← (pure (.int 0)); lift (ixD x y)); let y ← (pure (.int 0)); let z ← lift (ltD x y); asB z)); if k = true then (pure (.str "no order")) else ((m__law_due_l1 v_rows203 (fun (_ : Unit) => (do let k ← (do let x ← (do let as ← (do let x ← (pure v_rows203); let xs ← (do let x ← (pure v_count201); let xs ← pure []; pure (Ar.dat x :: xs)); pure (Ar.dat x :: xs)); fn2 m__law_rank (as ++ (([] : List D)).map Ar.dat)); let y ← (pure v_count201); let z ← lift (eqD x y); asB z); if k = true then (pure PyData.none) else (pure (.str "no order"))))) rs1 ()))) from (rb_cons (by exact (rs_setLc 5 (lc_one (own := [("row", 3)]) 3 (by exact (ri_sq (re_var 2))) (fun v_row206 => ⟨by exact (rif_one (rt_cmp o_ne (re_ix (re_var 3) (re_var 4)) re_int)), by exact (re_ix (re_var 3) (re_var 4))⟩)))) fun v_numbers205 => (by exact (rb_if (by exact (rw_t (rw_or (rt_cmp o_eq (re_var 5) (re_lst rl_nil)) (rw_or1 (rt_cmp o_lt (re_ix (re_var 5) re_int) re_int))))) (by exact (rb_ret re_str)) (by exact (rb_nil (by exact (rb_nil (by exact ⟨(), (by exact ⟨.inr rfl, .inr rfl, .inr rfl, .inl rfl, .inl rfl, .inl rfl, .inl rfl, trivial⟩), rfl⟩))))))))))); (case hrest => exact (fun q => by exact (show RefB _ _ _ _ (do let k ← (do let x ← (do let as ← (do let x ← (pure v_rows203); let xs ← (do let x ← (pure v_count201); let xs ← pure []; pure (Ar.dat x :: xs)); pure (Ar.dat x :: xs)); fn2 m__law_rank (as ++ (([] : List D)).map Ar.dat)); let y ← (pure v_count201); let z ← lift (eqD x y); asB z); if k = true then (pure PyData.none) else (pure (.str "no order"))) from (rb_ret (re_if (rt_cmp o_eq (re_call k__law_rank (ra_dat (re_var 2) (ra_dat (re_var 0) ra_nil))) (re_var 0)) re_non re_str))))))))))))))))))))))))))))))))

theorem b__law_some_rows {e : Wd} (bi : Bi e) (k__law_draw : Kn e "_law_draw" 2 2 (fm1 m__law_draw) []) (k__law_of : Kn e "_law_of" 3 2 (fm1 m__law_of) []) (W : XK) (v_count211 : D) : RefB (cOf e ["m", "count", "rows", "turn", "place"] (defScope (top 61)) 3 W) (slots [.drw, .dat v_count211] 5) (defBody (top 61)) kEnd (m__law_some_rows v_count211) := by
  unfold m__law_some_rows
  exact (rb_cons (by exact (rs_setN 2 (rn_lst rl_nil))) fun v_rows212 => (by exact (by apply rb_for1 3 (fun q : List D => [.drw, .dat v_count211, .own q, .un, .un]) (m__law_some_rows_l0 v_count211 (fun v_rows213 => (do let ds ← (do let x ← (pure (.str "weights")); let xs ← (do let x ← (do let ds ← (do let x ← (pure (.list v_rows213)); let xs ← pure []; pure (x :: xs)); lift (tupleD ds)); let xs ← pure []; pure (x :: xs)); pure (x :: xs)); mkTup ds))) (v_rows212); (case hi => exact (ri_rng1 (re_call k__law_draw (ra_drw 0 (ra_dat re_int ra_nil))) (hm := bi.range))); (case h0 => exact (by exact ⟨.inr rfl, .inr rfl, .inr rfl, .inl rfl, .inl rfl, trivial⟩)); (case hb => exact (fun v_turn214 rs0 v_rows213 => by exact (show RefB _ _ _ _ ((do let d ← (do let ds ← (do let x ← (do let ds ← (do let ds ← (do let x ← (pure v_count211); let n ← asN x; pure (rngL 0 n.toNat)); lcM (fun v_place215 => elM (pure true) (do let x ← (do let as ← (do let xs ← (do let x ← (pure (.int 5)); let xs ← pure []; pure (Ar.dat x :: xs)); pure (Ar.drw :: xs)); fm1 m__law_draw (as ++ (([] : List D)).map Ar.dat)); let y ← (do let as ← (do let xs ← (do let x ← (do let ds ← (do let x ← (pure (.int 0)); let xs ← (do let x ← (pure (.int 0)); let xs ← (do let x ← (pure (.int 1)); let xs ← (do let x ← (pure (.int 2)); let xs ← pure []; pure (x :: xs)); pure (x :: xs)); pure (x :: xs)); pure (x :: xs)); mkLst ds); let xs ← pure []; pure (Ar.dat x :: xs)); pure (Ar.drw :: xs)); fm1 m__law_of (as ++ (([] : List D)).map Ar.dat)); lift (subD x y))) ds); pure (.list ds)); let xs ← pure []; pure (x :: xs)); lift (tupleD ds)); pushL v_rows213 d) >>= fun v_rows216 => ((m__law_some_rows_l0 v_count211 (fun v_rows213 => (do let ds ← (do let x ← (pure (.str "weights")); let xs ← (do let x ← (do let ds ← (do let x ← (pure (.list v_rows213)); let xs ← pure []; pure (x :: xs)); lift (tupleD ds)); let xs ← pure []; pure (x :: xs)); pure (x :: xs)); mkTup ds))) rs0 (v_rows216))) from (rb_cons (by exact (rs_append 2 (e_tuplec bi (rl_cons (re_new (rn_lc (lc_one (own := [("place", 4)]) 4 (by exact (ri_rng1 (re_var 1) (hm := bi.range))) (fun v_place215 => ⟨by exact rif_nil, by exact (e_sub (re_call k__law_draw (ra_drw 0 (ra_dat re_int ra_nil))) (re_call k__law_of (ra_drw 0 (ra_dat (re_lst (rl_cons re_int (rl_cons re_int (rl_cons re_int (rl_cons re_int rl_nil))))) ra_nil))))⟩)))) rl_nil)))) fun v_rows216 => (by exact (rb_nil (by exact ⟨(v_rows216), (by exact ⟨.inr rfl, .inr rfl, .inr rfl, .inl rfl, .inl rfl, trivial⟩), rfl⟩))))))); (case hrest => exact (fun v_rows213 => by exact (show RefB _ _ _ _ (do let ds ← (do let x ← (pure (.str "weights")); let xs ← (do let x ← (do let ds ← (do let x ← (pure (.list v_rows213)); let xs ← pure []; pure (x :: xs)); lift (tupleD ds)); let xs ← pure []; pure (x :: xs)); pure (x :: xs)); mkTup ds) from (rb_frz (ds := v_rows213) 2 (by exact (rb_ret (re_tup (rl_cons re_str (rl_cons (e_tuplec bi (rl_cons (re_var 2) rl_nil)) rl_nil))))))))))))

theorem b__law_values {e : Wd} (bi : Bi e) (k__law_draw : Kn e "_law_draw" 2 2 (fm1 m__law_draw) []) (k__law_of : Kn e "_law_of" 3 2 (fm1 m__law_of) []) (k__law_some_order : Kn e "_law_some_order" 4 2 (fm1 m__law_some_order) []) (k__law_some_rows : Kn e "_law_some_rows" 4 2 (fm1 m__law_some_rows) []) (W : XK) (v_count217 : D) : RefB (cOf e ["m", "count", "odd", "some", "one", "bent"] (defScope (top 62)) 4 W) (slots [.drw, .dat v_count217] 6) (defBody (top 62)) kEnd (m__law_values v_count217) := by
  unfold m__law_values
  exact (rb_cons (by exact (rs_set 2 (re_call k__law_of (ra_drw 0 (ra_dat (re_lst (rl_cons re_non (rl_cons re_bl (rl_cons (e_neg re_int) (rl_cons (re_var 1) (rl_cons (e_add (re_var 1) re_int) (rl_cons re_str (rl_cons (re_tup (rl_cons re_int rl_nil)) (rl_cons re_int (rl_cons (re_lst rl_nil) rl_nil)))))))))) ra_nil))))) fun v_odd218 => (by exact (rb_cons (by exact (rs_set 3 (re_lst (rl_cons (re_call k__law_some_order (ra_drw 0 (ra_dat (re_var 1) ra_nil))) (rl_cons (re_call k__law_some_rows (ra_drw 0 (ra_dat (re_var 1) ra_nil))) (rl_cons (re_call k__law_some_rows (ra_drw 0 (ra_dat (re_var 1) ra_nil))) (rl_cons (re_tup (rl_cons re_str (rl_cons (re_var 2) rl_nil))) (rl_cons (re_tup (rl_cons re_str (rl_cons (re_var 2) rl_nil))) (rl_cons (re_tup (rl_cons re_str (rl_cons re_int rl_nil))) (rl_cons (re_tup (rl_cons re_str (rl_cons re_non rl_nil))) rl_nil)))))))))) fun v_some219 => (by exact (rb_cons (by exact (rs_set 3 (e_add (re_var 3) (re_lst (rl_cons (re_tup (rl_cons re_str rl_nil)) (rl_cons (re_tup rl_nil) (rl_cons re_non (rl_cons re_str (rl_cons (re_lst (rl_cons re_str rl_nil)) (rl_cons (re_tup (rl_cons (re_lst (rl_cons re_str rl_nil)) rl_nil)) (rl_cons (re_tup (rl_cons re_dict0 rl_nil)) (rl_cons (re_tup (rl_cons re_str rl_nil)) (rl_cons (re_tup (rl_cons re_str rl_nil)) (rl_cons (re_tup (rl_cons re_str (rl_cons (e_mul (re_tup (rl_cons (e_mul (re_tup (rl_cons re_int rl_nil)) (re_var 1)) rl_nil)) re_int) rl_nil))) (rl_cons (re_tup (rl_cons re_str (rl_cons (re_tup (rl_cons (e_mul (re_tup (rl_cons re_int rl_nil)) (e_add (re_var 1) re_int)) rl_nil)) rl_nil))) rl_nil))))))))))))))) fun v_some220 => (by exact (rb_cons (by exact (rs_set 4 (re_call k__law_some_order (ra_drw 0 (ra_dat (re_var 1) ra_nil))))) fun v_one221 => (by exact (rb_if (by exact (rw_t (rw_and (rt_cmp o_eq (re_ix (re_var 4) re_int) re_str) (rw_and (rt_cmp o_ne (re_ix (re_var 4) re_int) (re_tup rl_nil)) (rw_and1 (rt_cmp o_gt (re_var 1) re_int)))))) (by exact (rb_cons (by exact (rs_setN 5 (rn_list (re_ix (re_ix (re_var 4) re_int) re_int) bi.list))) fun v_bent222 => (by exact (rb_cons (by exact (rs_setI 5 (re_call k__law_of (ra_drw 0 (ra_dat (re_lst (rl_cons re_int (rl_cons re_int (rl_cons (e_neg re_int) (rl_cons re_bl (rl_cons re_non (rl_cons (e_neg re_int) (rl_cons re_int rl_nil)))))))) ra_nil))) (re_call k__law_draw (ra_drw 0 (ra_dat (re_var 1) ra_nil))))) fun v_bent223 => (by exact (rb_frz (ds := v_bent223) 5 (by exact (rb_cons (by exact (rs_set 3 (e_add (re_var 3) (re_lst (rl_cons (re_tup (rl_cons re_str (rl_cons (e_add (re_tup (rl_cons (e_tuplec bi (rl_cons (re_var 5) rl_nil)) rl_nil)) (re_sl (re_ix (re_var 4) re_int) (ro_some re_int) ro_none)) rl_nil))) (rl_cons (re_tup (rl_cons re_str (rl_cons (re_sl (re_ix (re_var 4) re_int) ro_none (ro_some (e_neg re_int))) rl_nil))) (rl_cons (re_tup (rl_cons re_str (rl_cons (e_listc bi (rl_cons (re_ix (re_var 4) re_int) rl_nil)) rl_nil))) (rl_cons (re_tup (rl_cons re_str (rl_cons (e_add (re_tup (rl_cons (e_listc bi (rl_cons (re_ix (re_ix (re_var 4) re_int) re_int) rl_nil)) rl_nil)) (re_sl (re_ix (re_var 4) re_int) (ro_some re_int) ro_none)) rl_nil))) rl_nil)))))))) fun v_some224 => (by exact (rb_nil (by exact (rb_ret (re_var 3))))))))))))) (by exact (rb_nil (by exact (rb_ret (re_var 3))))))))))))))

theorem b__law_orders_right {e : Wd} (bi : Bi e) {ca : Addr} (h_heard : ∃ L, HeardOk e "_law_heard" L ∧ L.map Hrd.key = hdsK) (ht : ∀ W, TabOk (cOfL e ["m", "count", "value", "due", "heard"] (defScope (top 63)) 9 W "_law_orders_right" ca)) (k__law_due : Kn e "_law_due" 5 2 (fn2 m__law_due) []) (k__law_like : Kn e "_law_like" 9 2 (fn2 m__law_like) []) (k__law_values : Kn e "_law_values" 5 2 (fm1 m__law_values) []) (kk_need_order_order_number : KnK e "need_order" 6 2 (fn2 m_need_order) ["order", "number"] pi_need_order_order_number) (W : XK) (v_count225 : D) : RefB (cOfL e ["m", "count", "value", "due", "heard"] (defScope (top 63)) 9 W "_law_orders_right" ca) (slots [.drw, .dat v_count225] 5) (defBody (top 63)) kEnd (m__law_orders_right v_count225) := by
  unfold m__law_orders_right
  exact (by apply rb_for1 2 (fun q : Unit => [.drw, .dat v_count225, .un, .un, .un]) (m__law_orders_right_l0 v_count225 (fun (_ : Unit) => (pure (.bool true)))) (); (case hi => exact (ri_sq (re_call k__law_values (ra_drw 0 (ra_dat (re_var 1) ra_nil))))); (case h0 => exact (by exact ⟨.inr rfl, .inr rfl, .inl rfl, .inl rfl, .inl rfl, trivial⟩)); (case hb => exact (fun v_value226 rs0 q => by exact (show RefB _ _ _ _ ((do let as ← (do let x ← (pure v_count225); let xs ← (do let x ← (pure v_value226); let xs ← pure []; pure (Ar.dat x :: xs)); pure (Ar.dat x :: xs)); fn2 m__law_due (as ++ (([] : List D)).map Ar.dat)) >>= fun v_due227 => ((heardM hdsK (do let as ← (do let x ← (pure v_value226); let xs ← (do let x ← (pure v_count225); let xs ← pure []; pure (Ar.dat x :: xs)); pure (Ar.dat x :: xs)); fn2 m_need_order (pi_need_order_order_number as))) >>= fun v_heard228 => (do let k ← (do let k ← (do let x ← (do let as ← (do let x ← (pure v_heard228); let xs ← (do let x ← (do let k ← (do let x ← (pure v_due227); let y ← (pure PyData.none); let z ← lift (isD x y); asB z); if k = true then (do let ds ← (do let x ← (pure (.str "told")); let xs ← (do let x ← (pure v_value226); let xs ← pure []; pure (x :: xs)); pure (x :: xs)); mkLst ds) else (do let ds ← (do let x ← (pure (.str "order")); let xs ← (do let x ← (pure v_due227); let xs ← pure []; pure (x :: xs)); pure (x :: xs)); mkLst ds)); let xs ← pure []; pure (Ar.dat x :: xs)); pure (Ar.dat x :: xs)); fn2 m__law_like (as ++ (([] : List D)).map Ar.dat)); asB x); pure (!k)); if k = true then (pure (.bool false)) else ((m__law_orders_right_l0 v_count225 (fun (_ : Unit) => (pure (.bool true)))) rs0 ())))) from (rb_cons (by exact (rs_set 3 (re_call k__law_due (ra_dat (re_var 1) (ra_dat (re_var 2) ra_nil))))) fun v_due227 => (by exact (rb_cons (by exact (rs_set 4 (re_heardK 6 h_heard (ht _) (fun _ => by exact (re_callK kk_need_order_order_number (rk_cons (re_var 2) (rk_cons (re_var 1) rk_nil)) (hl := kw_len2)))))) fun v_heard228 => (by exact (rb_if (by exact (rt_not (rt_val (re_call k__law_like (ra_dat (re_var 4) (ra_dat (re_if (rt_cmp o_is (re_var 3) re_non) (re_lst (rl_cons re_str (rl_cons (re_var 2) rl_nil))) (re_lst (rl_cons re_str (rl_cons (re_var 3) rl_nil)))) ra_nil)))))) (by exact (rb_ret re_bl)) (by exact (rb_nil (by exact (rb_nil (by exact ⟨(), (by exact ⟨.inr rfl, .inr rfl, .inl rfl, .inl rfl, .inl rfl, trivial⟩), rfl⟩))))))))))))); (case hrest => exact (fun q => by exact (show RefB _ _ _ _ (pure (.bool true)) from (rb_ret re_bl)))))

theorem b__law_below_right {e : Wd} (bi : Bi e) (k__law_divides : Kn e "_law_divides" 1 2 (fn2 m__law_divides) []) (k__law_key : Kn e "_law_key" 1 2 (fn2 m__law_key) []) (k__law_like : Kn e "_law_like" 9 2 (fn2 m__law_like) []) (k__law_monomial : Kn e "_law_monomial" 3 3 (fm2 m__law_monomial) []) (k__law_of : Kn e "_law_of" 3 2 (fm1 m__law_of) []) (k_is_below : Kn e "is_below" 7 3 (fn3 m_is_below) []) (kk_greatest_divisor_monomial_other : KnK e "greatest_divisor" 5 2 (fn2 m_greatest_divisor) ["monomial", "other"] pi_greatest_divisor_monomial_other) (kk_is_below_order_other_monomial : KnK e "is_below" 7 3 (fn3 m_is_below) ["order", "other", "monomial"] pi_is_below_order_other_monomial) (kk_least_multiple_other_monomial : KnK e "least_multiple" 5 2 (fn2 m_least_multiple) ["other", "monomial"] pi_least_multiple_other_monomial) (kk_monomial_divides_other_monomial : KnK e "monomial_divides" 5 2 (fn2 m_monomial_divides) ["other", "monomial"] pi_monomial_divides_other_monomial) (W : XK) (v_count229 : D) (v_order230 : D) : RefB (cOf e ["m", "count", "order", "some", "one", "other", "turn", "due", "by", "told", "near", "far", "top", "low", "a", "b"] (defScope (top 64)) 9 W) (slots [.drw, .dat v_count229, .dat v_order230] 16) (defBody (top 64)) kEnd (m__law_below_right v_count229 v_order230) := by
  unfold m__law_below_right
  exact (rb_cons (by exact (rs_setLc 3 (lc_one (own := [("turn", 6)]) 6 (by exact (ri_rng1 re_int (hm := bi.range))) (fun v_turn232 => ⟨by exact rif_nil, by exact (re_call k__law_monomial (ra_drw 0 (ra_dat (re_var 1) (ra_dat (re_call k__law_of (ra_drw 0 (ra_dat (re_lst (rl_cons re_int (rl_cons re_int (rl_cons re_int rl_nil)))) ra_nil))) ra_nil))))⟩)))) fun v_some231 => (by exact (by apply rb_for1 4 (fun q : Unit => [.drw, .dat v_count229, .dat v_order230, .dat (.list v_some231), .un, .un, .un, .un, .un, .un, .un, .un, .un, .un, .un, .un]) (m__law_below_right_l0 v_count229 v_order230 v_some231 (fun (_ : Unit) => (pure (.bool true)))) (); (case hi => exact (ri_sq (re_var 3))); (case h0 => exact (by exact ⟨.inr rfl, .inr rfl, .inr rfl, .inr rfl, .inl rfl, .inl rfl, .inl rfl, .inl rfl, .inl rfl, .inl rfl, .inl rfl, .inl rfl, .inl rfl, .inl rfl, .inl rfl, .inl rfl, trivial⟩)); (case hb => exact (fun v_one233 rs0 q => by exact (show RefB _ _ _ _ (do let ds ← (do let x ← (pure (.list v_some231)); asSq x); (m__law_below_right_l1 v_count229 v_one233 v_order230 (fun (_ : Unit) => (do let k ← (do let k ← (do let x ← (pure v_one233); let y ← (do let x ← (do let ds ← (do let x ← (pure (.int 0)); let xs ← pure []; pure (x :: xs)); mkTup ds); let y ← (pure v_count229); lift (mulD x y)); let z ← lift (neD' x y); asB z); if k = true then (do let x ← (do let as ← (do let x ← (do let x ← (do let ds ← (do let x ← (pure (.int 0)); let xs ← pure []; pure (x :: xs)); mkTup ds); let y ← (pure v_count229); lift (mulD x y)); let xs ← (do let x ← (pure v_one233); let xs ← (do let x ← (pure v_order230); let xs ← pure []; pure (Ar.dat x :: xs)); pure (Ar.dat x :: xs)); pure (Ar.dat x :: xs)); fn3 m_is_below (as ++ (([] : List D)).map Ar.dat)); let y ← (pure (.bool true)); let z ← lift (isNotD x y); asB z) else pure false); if k = true then (pure (.bool false)) else ((m__law_below_right_l0 v_count229 v_order230 v_some231 (fun (_ : Unit) => (pure (.bool true)))) rs0 ())))) ds ()) from (by apply rb_for1 5 (fun q : Unit => [.drw, .dat v_count229, .dat v_order230, .dat (.list v_some231), .dat v_one233, .un, .un, .un, .un, .un, .un, .un, .un, .un, .un, .un]) (m__law_below_right_l1 v_count229 v_one233 v_order230 (fun (_ : Unit) => (do let k ← (do let k ← (do let x ← (pure v_one233); let y ← (do let x ← (do let ds ← (do let x ← (pure (.int 0)); let xs ← pure []; pure (x :: xs)); mkTup ds); let y ← (pure v_count229); lift (mulD x y)); let z ← lift (neD' x y); asB z); if k = true then (do let x ← (do let as ← (do let x ← (do let x ← (do let ds ← (do let x ← (pure (.int 0)); let xs ← pure []; pure (x :: xs)); mkTup ds); let y ← (pure v_count229); lift (mulD x y)); let xs ← (do let x ← (pure v_one233); let xs ← (do let x ← (pure v_order230); let xs ← pure []; pure (Ar.dat x :: xs)); pure (Ar.dat x :: xs)); pure (Ar.dat x :: xs)); fn3 m_is_below (as ++ (([] : List D)).map Ar.dat)); let y ← (pure (.bool true)); let z ← lift (isNotD x y); asB z) else pure false); if k = true then (pure (.bool false)) else ((m__law_below_right_l0 v_count229 v_order230 v_some231 (fun (_ : Unit) => (pure (.bool true)))) rs0 ())))) (); (case hi => exact (ri_sq (re_var 3))); (case h0 => exact (by exact ⟨.inr rfl, .inr rfl, .inr rfl, .inr rfl, .inr rfl, .inl rfl, .inl rfl, .inl rfl, .inl rfl, .inl rfl, .inl rfl, .inl rfl, .inl rfl, .inl rfl, .inl rfl, .inl rfl, trivial⟩)); (case hb => exact (fun v_other234 rs1 q => by exact (show RefB _ _ _ _ ((do let x ← (do let as ← (do let x ← (pure v_order230); let xs ← (do let x ← (pure v_one233); let xs ← pure []; pure (Ar.dat x :: xs)); pure (Ar.dat x :: xs)); fn2 m__law_key (as ++ (([] : List D)).map Ar.dat)); let y ← (do let as ← (do let x ← (pure v_order230); let xs ← (do let x ← (pure v_other234); let xs ← pure []; pure (Ar.dat x :: xs)); pure (Ar.dat x :: xs)); fn2 m__law_key (as ++ (([] : List D)).map Ar.dat)); lift (ltD x y)) >>= fun v_due235 => (do let k ← (do let k ← (do let x ← (do let as ← (do let x ← (do let as ← (do let x ← (pure v_order230); let xs ← (do let x ← (pure v_other234); let xs ← (do let x ← (pure v_one233); let xs ← pure []; pure (Ar.dat x :: xs)); pure (Ar.dat x :: xs)); pure (Ar.dat x :: xs)); fn3 m_is_below (pi_is_below_order_other_monomial as)); let xs ← (do let x ← (pure v_due235); let xs ← pure []; pure (Ar.dat x :: xs)); pure (Ar.dat x :: xs)); fn2 m__law_like (as ++ (([] : List D)).map Ar.dat)); asB x); pure (!k)); if k = true then (pure (.bool false)) else ((do let as ← (do let xs ← (do let x ← (pure v_count229); let xs ← (do let x ← (pure (.int 3)); let xs ← pure []; pure (Ar.dat x :: xs)); pure (Ar.dat x :: xs)); pure (Ar.drw :: xs)); fm2 m__law_monomial (as ++ (([] : List D)).map Ar.dat)) >>= fun v_by236 => ((do let u ← (do let ds ← (do let ds ← (do let x ← (pure v_one233); let y ← (pure v_by236); asZip x y); lcM (two fun v_a238 v_b239 => elM (pure true) (do let x ← (pure v_a238); let y ← (pure v_b239); lift (addD x y))) ds); pure (.list ds)); let v ← (do let ds ← (do let ds ← (do let x ← (pure v_other234); let y ← (pure v_by236); asZip x y); lcM (two fun v_a240 v_b241 => elM (pure true) (do let x ← (pure v_a240); let y ← (pure v_b241); lift (addD x y))) ds); pure (.list ds)); pure (u, v)) >>= fun v_q237 => (do let k ← (do let k ← (do let x ← (do let ds ← (do let x ← (do let x ← (do let x ← (do let ds ← (do let x ← (pure (.int 0)); let xs ← pure []; pure (x :: xs)); mkLst ds); let y ← (pure v_q237.1); lift (addD x y)); let y ← (pure v_q237.2); lift (addD x y)); let xs ← pure []; pure (x :: xs)); lift (maxD ds)); let y ← (pure (.int 60)); let z ← lift (leD x y); asB z); if k = true then (do let x ← (do let as ← (do let x ← (do let ds ← (do let x ← (pure v_q237.1); let xs ← pure []; pure (x :: xs)); lift (tupleD ds)); let xs ← (do let x ← (do let ds ← (do let x ← (pure v_q237.2); let xs ← pure []; pure (x :: xs)); lift (tupleD ds)); let xs ← (do let x ← (pure v_order230); let xs ← pure []; pure (Ar.dat x :: xs)); pure (Ar.dat x :: xs)); pure (Ar.dat x :: xs)); fn3 m_is_below (as ++ (([] : List D)).map Ar.dat)); let y ← (pure v_due235); let z ← lift (neD' x y); asB z) else pure false); if k = true then (pure (.bool false)) else ((do let ds ← (do let x ← (do let as ← (do let x ← (pure v_other234); let xs ← (do let x ← (pure v_one233); let xs ← pure []; pure (Ar.dat x :: xs)); pure (Ar.dat x :: xs)); fn2 m_monomial_divides (pi_monomial_divides_other_monomial as)); let xs ← (do let x ← (do let as ← (do let x ← (pure v_other234); let xs ← (do let x ← (pure v_one233); let xs ← pure []; pure (Ar.dat x :: xs)); pure (Ar.dat x :: xs)); fn2 m_least_multiple (pi_least_multiple_other_monomial as)); let xs ← (do let x ← (do let as ← (do let x ← (pure v_one233); let xs ← (do let x ← (pure v_other234); let xs ← pure []; pure (Ar.dat x :: xs)); pure (Ar.dat x :: xs)); fn2 m_greatest_divisor (pi_greatest_divisor_monomial_other as)); let xs ← pure []; pure (x :: xs)); pure (x :: xs)); pure (x :: xs)); mkLst ds) >>= fun v_told242 => ((do let u ← (do let ds ← (do let x ← (do let ds ← (do let ds ← (do let x ← (pure v_one233); let y ← (pure v_other234); asZip x y); lcM (two fun v_a244 v_b245 => elM (pure true) (do let ds ← (do let x ← (pure v_a244); let xs ← (do let x ← (pure v_b245); let xs ← pure []; pure (x :: xs)); pure (x :: xs)); lift (maxD ds))) ds); pure (.list ds)); let xs ← pure []; pure (x :: xs)); lift (tupleD ds)); let v ← (do let ds ← (do let x ← (do let ds ← (do let ds ← (do let x ← (pure v_one233); let y ← (pure v_other234); asZip x y); lcM (two fun v_a246 v_b247 => elM (pure true) (do let ds ← (do let x ← (pure v_a246); let xs ← (do let x ← (pure v_b247); let xs ← pure []; pure (x :: xs)); pure (x :: xs)); lift (minD ds))) ds); pure (.list ds)); let xs ← pure []; pure (x :: xs)); lift (tupleD ds)); pure (u, v)) >>= fun v_q243 => (do let k ← (do let k ← (do let x ← (do let as ← (do let x ← (pure v_told242); let xs ← (do let x ← (do let ds ← (do let x ← (do let as ← (do let x ← (pure v_one233); let xs ← (do let x ← (pure v_other234); let xs ← pure []; pure (Ar.dat x :: xs)); pure (Ar.dat x :: xs)); fn2 m__law_divides (as ++ (([] : List D)).map Ar.dat)); let xs ← (do let x ← (pure v_q243.1); let xs ← (do let x ← (pure v_q243.2); let xs ← pure []; pure (x :: xs)); pure (x :: xs)); pure (x :: xs)); mkLst ds); let xs ← pure []; pure (Ar.dat x :: xs)); pure (Ar.dat x :: xs)); fn2 m__law_like (as ++ (([] : List D)).map Ar.dat)); asB x); pure (!k)); if k = true then (pure (.bool false)) else ((m__law_below_right_l1 v_count229 v_one233 v_order230 (fun (_ : Unit) => (do let k ← (do let k ← (do let x ← (pure v_one233); let y ← (do let x ← (do let ds ← (do let x ← (pure (.int 0)); let xs ← pure []; pure (x :: xs)); mkTup ds); let y ← (pure v_count229); lift (mulD x y)); let z ← lift (neD' x y); asB z); if k = true then (do let x ← (do let as ← (do let x ← (do let x ← (do let ds ← (do let x ← (pure (.int 0)); let xs ← pure []; pure (x :: xs)); mkTup ds); let y ← (pure v_count229); lift (mulD x y)); let xs ← (do let x ← (pure v_one233); let xs ← (do let x ← (pure v_order230); let xs ← pure []; pure (Ar.dat x :: xs)); pure (Ar.dat x :: xs)); pure (Ar.dat x :: xs)); fn3 m_is_below (as ++ (([] : List D)).map Ar.dat)); let y ← (pure (.bool true)); let z ← lift (isNotD x y); asB z) else pure false); if k = true then (pure (.bool false)) else ((m__law_below_right_l0 v_count229 v_order230 v_some231 (fun (_ : Unit) => (pure (.bool true)))) rs0 ())))) rs1 ()))))))))) from (rb_cons (by exact (rs_set 7 (re_cmp o_lt (re_call k__law_key (ra_dat (re_var 2) (ra_dat (re_var 4) ra_nil))) (re_call k__law_key (ra_dat (re_var 2) (ra_dat (re_var 5) ra_nil)))))) fun v_due235 => (by exact (rb_if (by exact (rt_not (rt_val (re_call k__law_like (ra_dat (re_callK kk_is_below_order_other_monomial (rk_cons (re_var 2) (rk_cons (re_var 5) (rk_cons (re_var 4) rk_nil))) (hl := kw_len3)) (ra_dat (re_var 7) ra_nil)))))) (by exact (rb_ret re_bl)) (by exact (rb_nil (by exact (rb_cons (by exact (rs_set 8 (re_call k__law_monomial (ra_drw 0 (ra_dat (re_var 1) (ra_dat re_int ra_nil)))))) fun v_by236 => (by exact (rb_cons (by exact (rs_par 10 11 (re_new (rn_lc (lc_two (own := [("a", 14), ("b", 15)]) 14 15 (by exact (ri_zip (re_var 4) (re_var 8) (hm := bi.zip))) (fun v_a238 v_b239 => ⟨by exact rif_nil, by exact (e_add (re_var 14) (re_var 15))⟩)))) (re_new (rn_lc (lc_two (own := [("a", 14), ("b", 15)]) 14 15 (by exact (ri_zip (re_var 5) (re_var 8) (hm := bi.zip))) (fun v_a240 v_b241 => ⟨by exact rif_nil, by exact (e_add (re_var 14) (re_var 15))⟩)))))) fun v_q237 => (by exact (rb_if (by exact (rw_t (rw_and (rt_cmp o_le (e_max bi (rl_cons (e_add (e_add (re_lst (rl_cons re_int rl_nil)) (re_var 10)) (re_var 11)) rl_nil)) re_int) (rw_and1 (rt_cmp o_ne (re_call k_is_below (ra_dat (e_tuplec bi (rl_cons (re_var 10) rl_nil)) (ra_dat (e_tuplec bi (rl_cons (re_var 11) rl_nil)) (ra_dat (re_var 2) ra_nil)))) (re_var 7)))))) (by exact (rb_ret re_bl)) (by exact (rb_nil (by exact (rb_cons (by exact (rs_set 9 (re_lst (rl_cons (re_callK kk_monomial_divides_other_monomial (rk_cons (re_var 5) (rk_cons (re_var 4) rk_nil)) (hl := kw_len2)) (rl_cons (re_callK kk_least_multiple_other_monomial (rk_cons (re_var 5) (rk_cons (re_var 4) rk_nil)) (hl := kw_len2)) (rl_cons (re_callK kk_greatest_divisor_monomial_other (rk_cons (re_var 4) (rk_cons (re_var 5) rk_nil)) (hl := kw_len2)) rl_nil)))))) fun v_told242 => (by exact (rb_cons (by exact (rs_par 12 13 (e_tuplec bi (rl_cons (re_new (rn_lc (lc_two (own := [("a", 14), ("b", 15)]) 14 15 (by exact (ri_zip (re_var 4) (re_var 5) (hm := bi.zip))) (fun v_a244 v_b245 => ⟨by exact rif_nil, by exact (e_max bi (rl_cons (re_var 14) (rl_cons (re_var 15) rl_nil)))⟩)))) rl_nil)) (e_tuplec bi (rl_cons (re_new (rn_lc (lc_two (own := [("a", 14), ("b", 15)]) 14 15 (by exact (ri_zip (re_var 4) (re_var 5) (hm := bi.zip))) (fun v_a246 v_b247 => ⟨by exact rif_nil, by exact (e_min bi (rl_cons (re_var 14) (rl_cons (re_var 15) rl_nil)))⟩)))) rl_nil)))) fun v_q243 => (by exact (rb_if (by exact (rt_not (rt_val (re_call k__law_like (ra_dat (re_var 9) (ra_dat (re_lst (rl_cons (re_call k__law_divides (ra_dat (re_var 4) (ra_dat (re_var 5) ra_nil))) (rl_cons (re_var 12) (rl_cons (re_var 13) rl_nil)))) ra_nil)))))) (by exact (rb_ret re_bl)) (by exact (rb_nil (by exact (rb_nil (by exact ⟨(), (by exact ⟨.inr rfl, .inr rfl, .inr rfl, .inr rfl, .inr rfl, .inl rfl, .inl rfl, .inl rfl, .inl rfl, .inl rfl, .inl rfl, .inl rfl, .inl rfl, .inl rfl, .inl rfl, .inl rfl, trivial⟩), rfl⟩))))))))))))))))))))))))))); (case hrest => exact (fun q => by exact (show RefB _ _ _ _ (do let k ← (do let k ← (do let x ← (pure v_one233); let y ← (do let x ← (do let ds ← (do let x ← (pure (.int 0)); let xs ← pure []; pure (x :: xs)); mkTup ds); let y ← (pure v_count229); lift (mulD x y)); let z ← lift (neD' x y); asB z); if k = true then (do let x ← (do let as ← (do let x ← (do let x ← (do let ds ← (do let x ← (pure (.int 0)); let xs ← pure []; pure (x :: xs)); mkTup ds); let y ← (pure v_count229); lift (mulD x y)); let xs ← (do let x ← (pure v_one233); let xs ← (do let x ← (pure v_order230); let xs ← pure []; pure (Ar.dat x :: xs)); pure (Ar.dat x :: xs)); pure (Ar.dat x :: xs)); fn3 m_is_below (as ++ (([] : List D)).map Ar.dat)); let y ← (pure (.bool true)); let z ← lift (isNotD x y); asB z) else pure false); if k = true then (pure (.bool false)) else ((m__law_below_right_l0 v_count229 v_order230 v_some231 (fun (_ : Unit) => (pure (.bool true)))) rs0 ())) from (rb_if (by exact (rw_t (rw_and (rt_cmp o_ne (re_var 4) (e_mul (re_tup (rl_cons re_int rl_nil)) (re_var 1))) (rw_and1 (rt_cmp o_isNot (re_call k_is_below (ra_dat (e_mul (re_tup (rl_cons re_int rl_nil)) (re_var 1)) (ra_dat (re_var 4) (ra_dat (re_var 2) ra_nil)))) re_bl))))) (by exact (rb_ret re_bl)) (by exact (rb_nil (by exact (rb_nil (by exact ⟨(), (by exact ⟨.inr rfl, .inr rfl, .inr rfl, .inr rfl, .inl rfl, .inl rfl, .inl rfl, .inl rfl, .inl rfl, .inl rfl, .inl rfl, .inl rfl, .inl rfl, .inl rfl, .inl rfl, .inl rfl, trivial⟩), rfl⟩))))))))))))); (case hrest => exact (fun q => by exact (show RefB _ _ _ _ (pure (.bool true)) from (rb_ret re_bl)))))))

theorem b_law {e : Wd} (bi : Bi e) {ca : Addr} (h_heard : ∃ L, HeardOk e "_law_heard" L ∧ L.map Hrd.key = hdsK) (ht : ∀ W, TabOk (cOfL e ["script", "m", "turn", "odd", "told", "due", "count", "order"] (defScope (top 65)) 10 W "law" ca)) (k__law_below_right : Kn e "_law_below_right" 10 3 (fm2 m__law_below_right) []) (k__law_draw : Kn e "_law_draw" 2 2 (fm1 m__law_draw) []) (k__law_like : Kn e "_law_like" 9 2 (fn2 m__law_like) []) (k__law_of : Kn e "_law_of" 3 2 (fm1 m__law_of) []) (k__law_orders_right : Kn e "_law_orders_right" 10 2 (fm1 m__law_orders_right) []) (k__law_some_order : Kn e "_law_some_order" 4 2 (fm1 m__law_some_order) []) (k_greatest_divisor : Kn e "greatest_divisor" 5 2 (fn2 m_greatest_divisor) []) (k_is_below : Kn e "is_below" 7 3 (fn3 m_is_below) []) (k_least_multiple : Kn e "least_multiple" 5 2 (fn2 m_least_multiple) []) (k_monomial_divides : Kn e "monomial_divides" 5 2 (fn2 m_monomial_divides) []) (k_need_order : Kn e "need_order" 6 2 (fn2 m_need_order) []) (W : XK) (v_script248 : D) : RefB (cOfL e ["script", "m", "turn", "odd", "told", "due", "count", "order"] (defScope (top 65)) 10 W "law" ca) ([.un, .drw, .un, .un, .un, .un, .un, .un]) (defBody (top 65)).tail kEnd (m_law v_script248) := by
  unfold m_law
  exact (by apply rb_for1 2 (fun q : Unit => [.un, .drw, .un, .un, .un, .un, .un, .un]) (m_law_l0 (fun (_ : Unit) => ((do let as ← (do let xs ← (do let x ← (do let ds ← (do let x ← (do let x ← (pure (.int 1)); lift (negD x)); let xs ← (do let x ← (pure (.int 5)); let xs ← (do let x ← (pure (.bool true)); let xs ← (do let x ← (pure PyData.none); let xs ← (do let x ← (pure (.str "2")); let xs ← (do let x ← (do let ds ← (do let x ← (pure (.int 1)); let xs ← pure []; pure (x :: xs)); mkTup ds); let xs ← pure []; pure (x :: xs)); pure (x :: xs)); pure (x :: xs)); pure (x :: xs)); pure (x :: xs)); pure (x :: xs)); mkLst ds); let xs ← pure []; pure (Ar.dat x :: xs)); pure (Ar.drw :: xs)); fm1 m__law_of (as ++ (([] : List D)).map Ar.dat)) >>= fun v_odd249 => ((do let ds ← (do let x ← (heardM hdsK (do let as ← (do let x ← (pure v_odd249); let xs ← (do let x ← (pure PyData.none); let xs ← pure []; pure (Ar.dat x :: xs)); pure (Ar.dat x :: xs)); fn2 m_need_order (as ++ (([] : List D)).map Ar.dat))); let xs ← pure []; pure (x :: xs)); okLen ds) >>= fun v_told250 => ((do let d ← (heardM hdsK (do let as ← (do let x ← (do let ds ← (do let x ← (pure (.int 1)); let xs ← (do let x ← (pure (.int 61)); let xs ← pure []; pure (x :: xs)); pure (x :: xs)); mkTup ds); let xs ← (do let x ← (pure PyData.none); let xs ← (do let x ← (pure PyData.none); let xs ← pure []; pure (Ar.dat x :: xs)); pure (Ar.dat x :: xs)); pure (Ar.dat x :: xs)); fn3 m_is_below (as ++ (([] : List D)).map Ar.dat))); pushL v_told250 d) >>= fun v_told251 => ((do let d ← (heardM hdsK (do let as ← (do let x ← (do let ds ← (do let x ← (pure (.int 1)); let xs ← pure []; pure (x :: xs)); mkTup ds); let xs ← (do let x ← (do let ds ← (do let x ← (pure (.int 1)); let xs ← (do let x ← (pure (.int 0)); let xs ← pure []; pure (x :: xs)); pure (x :: xs)); mkTup ds); let xs ← (do let x ← (pure PyData.none); let xs ← pure []; pure (Ar.dat x :: xs)); pure (Ar.dat x :: xs)); pure (Ar.dat x :: xs)); fn3 m_is_below (as ++ (([] : List D)).map Ar.dat))); pushL v_told251 d) >>= fun v_told252 => ((do let d ← (heardM hdsK (do let as ← (do let x ← (do let ds ← (do let x ← (pure (.int 1)); let xs ← pure []; pure (x :: xs)); mkTup ds); let xs ← (do let x ← (do let ds ← (do let x ← (pure (.bool true)); let xs ← pure []; pure (x :: xs)); mkTup ds); let xs ← (do let x ← (pure PyData.none); let xs ← pure []; pure (Ar.dat x :: xs)); pure (Ar.dat x :: xs)); pure (Ar.dat x :: xs)); fn3 m_is_below (as ++ (([] : List D)).map Ar.dat))); pushL v_told252 d) >>= fun v_told253 => ((do let d ← (heardM hdsK (do let as ← (do let x ← (do let ds ← (do let x ← (pure (.int 1)); let xs ← (do let x ← (pure (.int 0)); let xs ← pure []; pure (x :: xs)); pure (x :: xs)); mkTup ds); let xs ← (do let x ← (do let ds ← (do let x ← (pure (.int 0)); let xs ← (do let x ← (pure (.int 1)); let xs ← pure []; pure (x :: xs)); pure (x :: xs)); mkTup ds); let xs ← (do let x ← (do let ds ← (do let x ← (pure (.str "out")); let xs ← (do let x ← (pure (.int 3)); let xs ← pure []; pure (x :: xs)); pure (x :: xs)); mkTup ds); let xs ← pure []; pure (Ar.dat x :: xs)); pure (Ar.dat x :: xs)); pure (Ar.dat x :: xs)); fn3 m_is_below (as ++ (([] : List D)).map Ar.dat))); pushL v_told253 d) >>= fun v_told254 => ((do let d ← (heardM hdsK (do let as ← (do let x ← (do let x ← (do let ds ← (do let x ← (pure (.int 0)); let xs ← pure []; pure (x :: xs)); mkTup ds); let y ← (pure (.int 5)); lift (mulD x y)); let xs ← (do let x ← (pure PyData.none); let xs ← pure []; pure (Ar.dat x :: xs)); pure (Ar.dat x :: xs)); fn2 m_monomial_divides (as ++ (([] : List D)).map Ar.dat))); pushL v_told254 d) >>= fun v_told255 => ((do let d ← (heardM hdsK (do let as ← (do let x ← (do let ds ← (do let x ← (pure (.int 1)); let xs ← pure []; pure (x :: xs)); mkTup ds); let xs ← (do let x ← (do let ds ← pure []; mkTup ds); let xs ← pure []; pure (Ar.dat x :: xs)); pure (Ar.dat x :: xs)); fn2 m_least_multiple (as ++ (([] : List D)).map Ar.dat))); pushL v_told255 d) >>= fun v_told256 => ((do let d ← (heardM hdsK (do let as ← (do let x ← (do let ds ← (do let x ← (pure (.int 1)); let xs ← pure []; pure (x :: xs)); mkTup ds); let xs ← (do let x ← (do let ds ← (do let x ← (pure (.int 1)); let xs ← pure []; pure (x :: xs)); mkLst ds); let xs ← pure []; pure (Ar.dat x :: xs)); pure (Ar.dat x :: xs)); fn2 m_greatest_divisor (as ++ (([] : List D)).map Ar.dat))); pushL v_told256 d) >>= fun v_told257 => ((do let ds ← (do let x ← (do let ds ← (do let x ← (pure (.str "number")); let xs ← (do let x ← (pure v_odd249); let xs ← pure []; pure (x :: xs)); pure (x :: xs)); mkLst ds); let xs ← (do let x ← (do let ds ← (do let x ← (pure (.str "monomial")); let xs ← (do let x ← (do let ds ← (do let x ← (pure (.int 1)); let xs ← (do let x ← (pure (.int 61)); let xs ← pure []; pure (x :: xs)); pure (x :: xs)); mkTup ds); let xs ← pure []; pure (x :: xs)); pure (x :: xs)); mkLst ds); let xs ← (do let x ← (do let ds ← (do let x ← (pure (.str "unalike")); let xs ← (do let x ← (pure (.str "variables")); let xs ← pure []; pure (x :: xs)); pure (x :: xs)); mkLst ds); let xs ← (do let x ← (do let ds ← (do let x ← (pure (.str "monomial")); let xs ← (do let x ← (do let ds ← (do let x ← (pure (.bool true)); let xs ← pure []; pure (x :: xs)); mkTup ds); let xs ← pure []; pure (x :: xs)); pure (x :: xs)); mkLst ds); let xs ← (do let x ← (do let ds ← (do let x ← (pure (.str "order")); let xs ← (do let x ← (pure (.str "out")); let xs ← pure []; pure (x :: xs)); pure (x :: xs)); mkLst ds); let xs ← (do let x ← (do let ds ← (do let x ← (pure (.str "monomial")); let xs ← (do let x ← (do let x ← (do let ds ← (do let x ← (pure (.int 0)); let xs ← pure []; pure (x :: xs)); mkTup ds); let y ← (pure (.int 5)); lift (mulD x y)); let xs ← pure []; pure (x :: xs)); pure (x :: xs)); mkLst ds); let xs ← pure []; pure (x :: xs)); pure (x :: xs)); pure (x :: xs)); pure (x :: xs)); pure (x :: xs)); pure (x :: xs)); mkLst ds) >>= fun v_due258 => (do let as ← (do let x ← (pure (.list v_told257)); let xs ← (do let x ← (do let x ← (pure v_due258); let y ← (do let ds ← (do let x ← (do let ds ← (do let x ← (pure (.str "unalike")); let xs ← (do let x ← (pure (.str "variables")); let xs ← pure []; pure (x :: xs)); pure (x :: xs)); mkLst ds); let xs ← (do let x ← (do let ds ← (do let x ← (pure (.str "monomial")); let xs ← (do let x ← (do let ds ← (do let x ← (pure (.int 1)); let xs ← pure []; pure (x :: xs)); mkLst ds); let xs ← pure []; pure (x :: xs)); pure (x :: xs)); mkLst ds); let xs ← pure []; pure (x :: xs)); pure (x :: xs)); mkLst ds); lift (addD x y)); let xs ← pure []; pure (Ar.dat x :: xs)); pure (Ar.dat x :: xs)); fn2 m__law_like (as ++ (([] : List D)).map Ar.dat)))))))))))))) (); (case hi => exact (ri_rng1 re_int (hm := bi.range))); (case h0 => exact (by exact ⟨.inl rfl, .inr rfl, .inl rfl, .inl rfl, .inl rfl, .inl rfl, .inl rfl, .inl rfl, trivial⟩)); (case hb => exact (fun v_turn259 rs0 q => by exact (show RefB _ _ _ _ ((do let as ← (do let xs ← (do let x ← (pure (.int 5)); let xs ← pure []; pure (Ar.dat x :: xs)); pure (Ar.drw :: xs)); fm1 m__law_draw (as ++ (([] : List D)).map Ar.dat)) >>= fun v_count260 => ((do let as ← (do let xs ← (do let x ← (pure v_count260); let xs ← pure []; pure (Ar.dat x :: xs)); pure (Ar.drw :: xs)); fm1 m__law_some_order (as ++ (([] : List D)).map Ar.dat)) >>= fun v_order261 => (do let k ← (do let k ← (do let k ← (do let x ← (do let as ← (do let xs ← (do let x ← (pure v_count260); let xs ← pure []; pure (Ar.dat x :: xs)); pure (Ar.drw :: xs)); fm1 m__law_orders_right (as ++ (([] : List D)).map Ar.dat)); asB x); pure (!k)); if k = true then pure true else (do let k ← (do let x ← (do let as ← (do let xs ← (do let x ← (pure v_count260); let xs ← (do let x ← (pure v_order261); let xs ← pure []; pure (Ar.dat x :: xs)); pure (Ar.dat x :: xs)); pure (Ar.drw :: xs)); fm2 m__law_below_right (as ++ (([] : List D)).map Ar.dat)); asB x); pure (!k))); if k = true then (pure (.bool false)) else ((m_law_l0 (fun (_ : Unit) => ((do let as ← (do let xs ← (do let x ← (do let ds ← (do let x ← (do let x ← (pure (.int 1)); lift (negD x)); let xs ← (do let x ← (pure (.int 5)); let xs ← (do let x ← (pure (.bool true)); let xs ← (do let x ← (pure PyData.none); let xs ← (do let x ← (pure (.str "2")); let xs ← (do let x ← (do let ds ← (do let x ← (pure (.int 1)); let xs ← pure []; pure (x :: xs)); mkTup ds); let xs ← pure []; pure (x :: xs)); pure (x :: xs)); pure (x :: xs)); pure (x :: xs)); pure (x :: xs)); pure (x :: xs)); mkLst ds); let xs ← pure []; pure (Ar.dat x :: xs)); pure (Ar.drw :: xs)); fm1 m__law_of (as ++ (([] : List D)).map Ar.dat)) >>= fun v_odd249 => ((do let ds ← (do let x ← (heardM hdsK (do let as ← (do let x ← (pure v_odd249); let xs ← (do let x ← (pure PyData.none); let xs ← pure []; pure (Ar.dat x :: xs)); pure (Ar.dat x :: xs)); fn2 m_need_order (as ++ (([] : List D)).map Ar.dat))); let xs ← pure []; pure (x :: xs)); okLen ds) >>= fun v_told250 => ((do let d ← (heardM hdsK (do let as ← (do let x ← (do let ds ← (do let x ← (pure (.int 1)); let xs ← (do let x ← (pure (.int 61)); let xs ← pure []; pure (x :: xs)); pure (x :: xs)); mkTup ds); let xs ← (do let x ← (pure PyData.none); let xs ← (do let x ← (pure PyData.none); let xs ← pure []; pure (Ar.dat x :: xs)); pure (Ar.dat x :: xs)); pure (Ar.dat x :: xs)); fn3 m_is_below (as ++ (([] : List D)).map Ar.dat))); pushL v_told250 d) >>= fun v_told251 => ((do let d ← (heardM hdsK (do let as ← (do let x ← (do let ds ← (do let x ← (pure (.int 1)); let xs ← pure []; pure (x :: xs)); mkTup ds); let xs ← (do let x ← (do let ds ← (do let x ← (pure (.int 1)); let xs ← (do let x ← (pure (.int 0)); let xs ← pure []; pure (x :: xs)); pure (x :: xs)); mkTup ds); let xs ← (do let x ← (pure PyData.none); let xs ← pure []; pure (Ar.dat x :: xs)); pure (Ar.dat x :: xs)); pure (Ar.dat x :: xs)); fn3 m_is_below (as ++ (([] : List D)).map Ar.dat))); pushL v_told251 d) >>= fun v_told252 => ((do let d ← (heardM hdsK (do let as ← (do let x ← (do let ds ← (do let x ← (pure (.int 1)); let xs ← pure []; pure (x :: xs)); mkTup ds); let xs ← (do let x ← (do let ds ← (do let x ← (pure (.bool true)); let xs ← pure []; pure (x :: xs)); mkTup ds); let xs ← (do let x ← (pure PyData.none); let xs ← pure []; pure (Ar.dat x :: xs)); pure (Ar.dat x :: xs)); pure (Ar.dat x :: xs)); fn3 m_is_below (as ++ (([] : List D)).map Ar.dat))); pushL v_told252 d) >>= fun v_told253 => ((do let d ← (heardM hdsK (do let as ← (do let x ← (do let ds ← (do let x ← (pure (.int 1)); let xs ← (do let x ← (pure (.int 0)); let xs ← pure []; pure (x :: xs)); pure (x :: xs)); mkTup ds); let xs ← (do let x ← (do let ds ← (do let x ← (pure (.int 0)); let xs ← (do let x ← (pure (.int 1)); let xs ← pure []; pure (x :: xs)); pure (x :: xs)); mkTup ds); let xs ← (do let x ← (do let ds ← (do let x ← (pure (.str "out")); let xs ← (do let x ← (pure (.int 3)); let xs ← pure []; pure (x :: xs)); pure (x :: xs)); mkTup ds); let xs ← pure []; pure (Ar.dat x :: xs)); pure (Ar.dat x :: xs)); pure (Ar.dat x :: xs)); fn3 m_is_below (as ++ (([] : List D)).map Ar.dat))); pushL v_told253 d) >>= fun v_told254 => ((do let d ← (heardM hdsK (do let as ← (do let x ← (do let x ← (do let ds ← (do let x ← (pure (.int 0)); let xs ← pure []; pure (x :: xs)); mkTup ds); let y ← (pure (.int 5)); lift (mulD x y)); let xs ← (do let x ← (pure PyData.none); let xs ← pure []; pure (Ar.dat x :: xs)); pure (Ar.dat x :: xs)); fn2 m_monomial_divides (as ++ (([] : List D)).map Ar.dat))); pushL v_told254 d) >>= fun v_told255 => ((do let d ← (heardM hdsK (do let as ← (do let x ← (do let ds ← (do let x ← (pure (.int 1)); let xs ← pure []; pure (x :: xs)); mkTup ds); let xs ← (do let x ← (do let ds ← pure []; mkTup ds); let xs ← pure []; pure (Ar.dat x :: xs)); pure (Ar.dat x :: xs)); fn2 m_least_multiple (as ++ (([] : List D)).map Ar.dat))); pushL v_told255 d) >>= fun v_told256 => ((do let d ← (heardM hdsK (do let as ← (do let x ← (do let ds ← (do let x ← (pure (.int 1)); let xs ← pure []; pure (x :: xs)); mkTup ds); let xs ← (do let x ← (do let ds ← (do let x ← (pure (.int 1)); let xs ← pure []; pure (x :: xs)); mkLst ds); let xs ← pure []; pure (Ar.dat x :: xs)); pure (Ar.dat x :: xs)); fn2 m_greatest_divisor (as ++ (([] : List D)).map Ar.dat))); pushL v_told256 d) >>= fun v_told257 => ((do let ds ← (do let x ← (do let ds ← (do let x ← (pure (.str "number")); let xs ← (do let x ← (pure v_odd249); let xs ← pure []; pure (x :: xs)); pure (x :: xs)); mkLst ds); let xs ← (do let x ← (do let ds ← (do let x ← (pure (.str "monomial")); let xs ← (do let x ← (do let ds ← (do let x ← (pure (.int 1)); let xs ← (do let x ← (pure (.int 61)); let xs ← pure []; pure (x :: xs)); pure (x :: xs)); mkTup ds); let xs ← pure []; pure (x :: xs)); pure (x :: xs)); mkLst ds); let xs ← (do let x ← (do let ds ← (do let x ← (pure (.str "unalike")); let xs ← (do let x ← (pure (.str "variables")); let xs ← pure []; pure (x :: xs)); pure (x :: xs)); mkLst ds); let xs ← (do let x ← (do let ds ← (do let x ← (pure (.str "monomial")); let xs ← (do let x ← (do let ds ← (do let x ← (pure (.bool true)); let xs ← pure []; pure (x :: xs)); mkTup ds); let xs ← pure []; pure (x :: xs)); pure (x :: xs)); mkLst ds); let xs ← (do let x ← (do let ds ← (do let x ← (pure (.str "order")); let xs ← (do let x ← (pure (.str "out")); let xs ← pure []; pure (x :: xs)); pure (x :: xs)); mkLst ds); let xs ← (do let x ← (do let ds ← (do let x ← (pure (.str "monomial")); let xs ← (do let x ← (do let x ← (do let ds ← (do let x ← (pure (.int 0)); let xs ← pure []; pure (x :: xs)); mkTup ds); let y ← (pure (.int 5)); lift (mulD x y)); let xs ← pure []; pure (x :: xs)); pure (x :: xs)); mkLst ds); let xs ← pure []; pure (x :: xs)); pure (x :: xs)); pure (x :: xs)); pure (x :: xs)); pure (x :: xs)); pure (x :: xs)); mkLst ds) >>= fun v_due258 => (do let as ← (do let x ← (pure (.list v_told257)); let xs ← (do let x ← (do let x ← (pure v_due258); let y ← (do let ds ← (do let x ← (do let ds ← (do let x ← (pure (.str "unalike")); let xs ← (do let x ← (pure (.str "variables")); let xs ← pure []; pure (x :: xs)); pure (x :: xs)); mkLst ds); let xs ← (do let x ← (do let ds ← (do let x ← (pure (.str "monomial")); let xs ← (do let x ← (do let ds ← (do let x ← (pure (.int 1)); let xs ← pure []; pure (x :: xs)); mkLst ds); let xs ← pure []; pure (x :: xs)); pure (x :: xs)); mkLst ds); let xs ← pure []; pure (x :: xs)); pure (x :: xs)); mkLst ds); lift (addD x y)); let xs ← pure []; pure (Ar.dat x :: xs)); pure (Ar.dat x :: xs)); fn2 m__law_like (as ++ (([] : List D)).map Ar.dat)))))))))))))) rs0 ())))) from (rb_cons (by exact (rs_set 6 (re_call k__law_draw (ra_drw 1 (ra_dat re_int ra_nil))))) fun v_count260 => (by exact (rb_cons (by exact (rs_set 7 (re_call k__law_some_order (ra_drw 1 (ra_dat (re_var 6) ra_nil))))) fun v_order261 => (by exact (rb_if (by exact (rw_t (rw_or (rt_not (rt_val (re_call k__law_orders_right (ra_drw 1 (ra_dat (re_var 6) ra_nil))))) (rw_or1 (rt_not (rt_val (re_call k__law_below_right (ra_drw 1 (ra_dat (re_var 6) (ra_dat (re_var 7) ra_nil)))))))))) (by exact (rb_ret re_bl)) (by exact (rb_nil (by exact (rb_nil (by exact ⟨(), (by exact ⟨.inl rfl, .inr rfl, .inl rfl, .inl rfl, .inl rfl, .inl rfl, .inl rfl, .inl rfl, trivial⟩), rfl⟩))))))))))))); (case hrest => exact (fun q => by exact (show RefB _ _ _ _ ((do let as ← (do let xs ← (do let x ← (do let ds ← (do let x ← (do let x ← (pure (.int 1)); lift (negD x)); let xs ← (do let x ← (pure (.int 5)); let xs ← (do let x ← (pure (.bool true)); let xs ← (do let x ← (pure PyData.none); let xs ← (do let x ← (pure (.str "2")); let xs ← (do let x ← (do let ds ← (do let x ← (pure (.int 1)); let xs ← pure []; pure (x :: xs)); mkTup ds); let xs ← pure []; pure (x :: xs)); pure (x :: xs)); pure (x :: xs)); pure (x :: xs)); pure (x :: xs)); pure (x :: xs)); mkLst ds); let xs ← pure []; pure (Ar.dat x :: xs)); pure (Ar.drw :: xs)); fm1 m__law_of (as ++ (([] : List D)).map Ar.dat)) >>= fun v_odd249 => ((do let ds ← (do let x ← (heardM hdsK (do let as ← (do let x ← (pure v_odd249); let xs ← (do let x ← (pure PyData.none); let xs ← pure []; pure (Ar.dat x :: xs)); pure (Ar.dat x :: xs)); fn2 m_need_order (as ++ (([] : List D)).map Ar.dat))); let xs ← pure []; pure (x :: xs)); okLen ds) >>= fun v_told250 => ((do let d ← (heardM hdsK (do let as ← (do let x ← (do let ds ← (do let x ← (pure (.int 1)); let xs ← (do let x ← (pure (.int 61)); let xs ← pure []; pure (x :: xs)); pure (x :: xs)); mkTup ds); let xs ← (do let x ← (pure PyData.none); let xs ← (do let x ← (pure PyData.none); let xs ← pure []; pure (Ar.dat x :: xs)); pure (Ar.dat x :: xs)); pure (Ar.dat x :: xs)); fn3 m_is_below (as ++ (([] : List D)).map Ar.dat))); pushL v_told250 d) >>= fun v_told251 => ((do let d ← (heardM hdsK (do let as ← (do let x ← (do let ds ← (do let x ← (pure (.int 1)); let xs ← pure []; pure (x :: xs)); mkTup ds); let xs ← (do let x ← (do let ds ← (do let x ← (pure (.int 1)); let xs ← (do let x ← (pure (.int 0)); let xs ← pure []; pure (x :: xs)); pure (x :: xs)); mkTup ds); let xs ← (do let x ← (pure PyData.none); let xs ← pure []; pure (Ar.dat x :: xs)); pure (Ar.dat x :: xs)); pure (Ar.dat x :: xs)); fn3 m_is_below (as ++ (([] : List D)).map Ar.dat))); pushL v_told251 d) >>= fun v_told252 => ((do let d ← (heardM hdsK (do let as ← (do let x ← (do let ds ← (do let x ← (pure (.int 1)); let xs ← pure []; pure (x :: xs)); mkTup ds); let xs ← (do let x ← (do let ds ← (do let x ← (pure (.bool true)); let xs ← pure []; pure (x :: xs)); mkTup ds); let xs ← (do let x ← (pure PyData.none); let xs ← pure []; pure (Ar.dat x :: xs)); pure (Ar.dat x :: xs)); pure (Ar.dat x :: xs)); fn3 m_is_below (as ++ (([] : List D)).map Ar.dat))); pushL v_told252 d) >>= fun v_told253 => ((do let d ← (heardM hdsK (do let as ← (do let x ← (do let ds ← (do let x ← (pure (.int 1)); let xs ← (do let x ← (pure (.int 0)); let xs ← pure []; pure (x :: xs)); pure (x :: xs)); mkTup ds); let xs ← (do let x ← (do let ds ← (do let x ← (pure (.int 0)); let xs ← (do let x ← (pure (.int 1)); let xs ← pure []; pure (x :: xs)); pure (x :: xs)); mkTup ds); let xs ← (do let x ← (do let ds ← (do let x ← (pure (.str "out")); let xs ← (do let x ← (pure (.int 3)); let xs ← pure []; pure (x :: xs)); pure (x :: xs)); mkTup ds); let xs ← pure []; pure (Ar.dat x :: xs)); pure (Ar.dat x :: xs)); pure (Ar.dat x :: xs)); fn3 m_is_below (as ++ (([] : List D)).map Ar.dat))); pushL v_told253 d) >>= fun v_told254 => ((do let d ← (heardM hdsK (do let as ← (do let x ← (do let x ← (do let ds ← (do let x ← (pure (.int 0)); let xs ← pure []; pure (x :: xs)); mkTup ds); let y ← (pure (.int 5)); lift (mulD x y)); let xs ← (do let x ← (pure PyData.none); let xs ← pure []; pure (Ar.dat x :: xs)); pure (Ar.dat x :: xs)); fn2 m_monomial_divides (as ++ (([] : List D)).map Ar.dat))); pushL v_told254 d) >>= fun v_told255 => ((do let d ← (heardM hdsK (do let as ← (do let x ← (do let ds ← (do let x ← (pure (.int 1)); let xs ← pure []; pure (x :: xs)); mkTup ds); let xs ← (do let x ← (do let ds ← pure []; mkTup ds); let xs ← pure []; pure (Ar.dat x :: xs)); pure (Ar.dat x :: xs)); fn2 m_least_multiple (as ++ (([] : List D)).map Ar.dat))); pushL v_told255 d) >>= fun v_told256 => ((do let d ← (heardM hdsK (do let as ← (do let x ← (do let ds ← (do let x ← (pure (.int 1)); let xs ← pure []; pure (x :: xs)); mkTup ds); let xs ← (do let x ← (do let ds ← (do let x ← (pure (.int 1)); let xs ← pure []; pure (x :: xs)); mkLst ds); let xs ← pure []; pure (Ar.dat x :: xs)); pure (Ar.dat x :: xs)); fn2 m_greatest_divisor (as ++ (([] : List D)).map Ar.dat))); pushL v_told256 d) >>= fun v_told257 => ((do let ds ← (do let x ← (do let ds ← (do let x ← (pure (.str "number")); let xs ← (do let x ← (pure v_odd249); let xs ← pure []; pure (x :: xs)); pure (x :: xs)); mkLst ds); let xs ← (do let x ← (do let ds ← (do let x ← (pure (.str "monomial")); let xs ← (do let x ← (do let ds ← (do let x ← (pure (.int 1)); let xs ← (do let x ← (pure (.int 61)); let xs ← pure []; pure (x :: xs)); pure (x :: xs)); mkTup ds); let xs ← pure []; pure (x :: xs)); pure (x :: xs)); mkLst ds); let xs ← (do let x ← (do let ds ← (do let x ← (pure (.str "unalike")); let xs ← (do let x ← (pure (.str "variables")); let xs ← pure []; pure (x :: xs)); pure (x :: xs)); mkLst ds); let xs ← (do let x ← (do let ds ← (do let x ← (pure (.str "monomial")); let xs ← (do let x ← (do let ds ← (do let x ← (pure (.bool true)); let xs ← pure []; pure (x :: xs)); mkTup ds); let xs ← pure []; pure (x :: xs)); pure (x :: xs)); mkLst ds); let xs ← (do let x ← (do let ds ← (do let x ← (pure (.str "order")); let xs ← (do let x ← (pure (.str "out")); let xs ← pure []; pure (x :: xs)); pure (x :: xs)); mkLst ds); let xs ← (do let x ← (do let ds ← (do let x ← (pure (.str "monomial")); let xs ← (do let x ← (do let x ← (do let ds ← (do let x ← (pure (.int 0)); let xs ← pure []; pure (x :: xs)); mkTup ds); let y ← (pure (.int 5)); lift (mulD x y)); let xs ← pure []; pure (x :: xs)); pure (x :: xs)); mkLst ds); let xs ← pure []; pure (x :: xs)); pure (x :: xs)); pure (x :: xs)); pure (x :: xs)); pure (x :: xs)); pure (x :: xs)); mkLst ds) >>= fun v_due258 => (do let as ← (do let x ← (pure (.list v_told257)); let xs ← (do let x ← (do let x ← (pure v_due258); let y ← (do let ds ← (do let x ← (do let ds ← (do let x ← (pure (.str "unalike")); let xs ← (do let x ← (pure (.str "variables")); let xs ← pure []; pure (x :: xs)); pure (x :: xs)); mkLst ds); let xs ← (do let x ← (do let ds ← (do let x ← (pure (.str "monomial")); let xs ← (do let x ← (do let ds ← (do let x ← (pure (.int 1)); let xs ← pure []; pure (x :: xs)); mkLst ds); let xs ← pure []; pure (x :: xs)); pure (x :: xs)); mkLst ds); let xs ← pure []; pure (x :: xs)); pure (x :: xs)); mkLst ds); lift (addD x y)); let xs ← pure []; pure (Ar.dat x :: xs)); pure (Ar.dat x :: xs)); fn2 m__law_like (as ++ (([] : List D)).map Ar.dat)))))))))))) from (rb_cons (by exact (rs_set 3 (re_call k__law_of (ra_drw 1 (ra_dat (re_lst (rl_cons (e_neg re_int) (rl_cons re_int (rl_cons re_bl (rl_cons re_non (rl_cons re_str (rl_cons (re_tup (rl_cons re_int rl_nil)) rl_nil))))))) ra_nil))))) fun v_odd249 => (by exact (rb_cons (by exact (rs_setN 4 (rn_lst (rl_cons (re_heardK 6 h_heard (ht _) (fun _ => by exact (re_call k_need_order (ra_dat (re_var 3) (ra_dat re_non ra_nil))))) rl_nil)))) fun v_told250 => (by exact (rb_cons (by exact (rs_append 4 (re_heardK 7 h_heard (ht _) (fun _ => by exact (re_call k_is_below (ra_dat (re_tup (rl_cons re_int (rl_cons re_int rl_nil))) (ra_dat re_non (ra_dat re_non ra_nil)))))))) fun v_told251 => (by exact (rb_cons (by exact (rs_append 4 (re_heardK 7 h_heard (ht _) (fun _ => by exact (re_call k_is_below (ra_dat (re_tup (rl_cons re_int rl_nil)) (ra_dat (re_tup (rl_cons re_int (rl_cons re_int rl_nil))) (ra_dat re_non ra_nil)))))))) fun v_told252 => (by exact (rb_cons (by exact (rs_append 4 (re_heardK 7 h_heard (ht _) (fun _ => by exact (re_call k_is_below (ra_dat (re_tup (rl_cons re_int rl_nil)) (ra_dat (re_tup (rl_cons re_bl rl_nil)) (ra_dat re_non ra_nil)))))))) fun v_told253 => (by exact (rb_cons (by exact (rs_append 4 (re_heardK 7 h_heard (ht _) (fun _ => by exact (re_call k_is_below (ra_dat (re_tup (rl_cons re_int (rl_cons re_int rl_nil))) (ra_dat (re_tup (rl_cons re_int (rl_cons re_int rl_nil))) (ra_dat (re_tup (rl_cons re_str (rl_cons re_int rl_nil))) ra_nil)))))))) fun v_told254 => (by exact (rb_cons (by exact (rs_append 4 (re_heardK 5 h_heard (ht _) (fun _ => by exact (re_call k_monomial_divides (ra_dat (e_mul (re_tup (rl_cons re_int rl_nil)) re_int) (ra_dat re_non ra_nil))))))) fun v_told255 => (by exact (rb_cons (by exact (rs_append 4 (re_heardK 5 h_heard (ht _) (fun _ => by exact (re_call k_least_multiple (ra_dat (re_tup (rl_cons re_int rl_nil)) (ra_dat (re_tup rl_nil) ra_nil))))))) fun v_told256 => (by exact (rb_cons (by exact (rs_append 4 (re_heardK 5 h_heard (ht _) (fun _ => by exact (re_call k_greatest_divisor (ra_dat (re_tup (rl_cons re_int rl_nil)) (ra_dat (re_lst (rl_cons re_int rl_nil)) ra_nil))))))) fun v_told257 => (by exact (rb_cons (by exact (rs_set 5 (re_lst (rl_cons (re_lst (rl_cons re_str (rl_cons (re_var 3) rl_nil))) (rl_cons (re_lst (rl_cons re_str (rl_cons (re_tup (rl_cons re_int (rl_cons re_int rl_nil))) rl_nil))) (rl_cons (re_lst (rl_cons re_str (rl_cons re_str rl_nil))) (rl_cons (re_lst (rl_cons re_str (rl_cons (re_tup (rl_cons re_bl rl_nil)) rl_nil))) (rl_cons (re_lst (rl_cons re_str (rl_cons re_str rl_nil))) (rl_cons (re_lst (rl_cons re_str (rl_cons (e_mul (re_tup (rl_cons re_int rl_nil)) re_int) rl_nil))) rl_nil))))))))) fun v_due258 => (by exact (rb_frz (ds := v_told257) 4 (by exact (rb_ret (re_call k__law_like (ra_dat (re_var 4) (ra_dat (e_add (re_var 5) (re_lst (rl_cons (re_lst (rl_cons re_str (rl_cons re_str rl_nil))) (rl_cons (re_lst (rl_cons re_str (rl_cons (re_lst (rl_cons re_int rl_nil)) rl_nil))) rl_nil)))) ra_nil))))))))))))))))))))))))))))))

end DL
namespace DL
open PySem PySem.Spec L2
abbrev FnD (e : Wd) (x : Str) (st : Stmt) (dvs : List V) : Prop := ∃ (f : Addr) (fd : FuncData), FunD e.K x x (defArgs st) (defBody st) (defScope st) dvs [] f fd ∧ e.mg x = some (.ref f)
def LamD (e : Wd) (x : Str) (st : Stmt) : Prop := ∃ (f : Addr) (fd : FuncData) (ca P : Addr), FunD e.K x x (defArgs st) (defBody st) (defScope st) [] [] f fd ∧ e.mg x = some (.ref f) ∧ fd.code = .ref ca ∧ LamX.TabB e.base e.mg ca P ∧ (P, (x ++ ".<locals>.") ++ "<lambda>") ∈ e.T ∧ ∀ p ∈ e.T, p.1 = P → p.2 = (x ++ ".<locals>.") ++ "<lambda>"
theorem sc_is_whole : FnScope ["value", "least", "most"] ["value", "least", "most"] (defScope (top 7)) := ⟨rfl, rfl, rfl, by decide +kernel, rfl, by decide +kernel, by decide +kernel⟩
theorem kn_is_whole {e : Wd} (bi : Bi e)  (hF : FnD e "is_whole" (top 7) [.non, .non]) : Kn e "is_whole" 1 3 (fn3 m_is_whole) [] := by
  obtain ⟨f, fd, F, hm⟩ := hF
  exact kn_dfl 3 2 F (fn_ok3 F sc_is_whole rfl fun a0 a1 a2 W => b_is_whole bi W a0 a1 a2) ar_fn3 hm (by simp) (by rfl) (fun T _ _ _ _ _ _ us its h1 h2 => match us, its, h1, h2 with | [_, _, _], [_, _], _, _ => ⟨_, rfl, rfl⟩) (fun G => rfl)
theorem sc_is_row : FnScope ["value", "length"] ["value", "length"] (defScope (top 8)) := ⟨rfl, rfl, rfl, by decide +kernel, rfl, by decide +kernel, by decide +kernel⟩
theorem kn_is_row_d1 {e : Wd} (bi : Bi e)  (hF : FnD e "is_row" (top 8) [.non]) : Kn e "is_row" 1 2 (fn2 m_is_row) [.none] := by
  obtain ⟨f, fd, F, hm⟩ := hF
  exact kn_dfl 1 0 F (fn_ok2 F sc_is_row rfl fun a0 a1 W => b_is_row bi W a0 a1) ar_fn2 hm (by simp) (by rfl) (fun T _ _ _ _ _ _ us its h1 h2 => match us, its, h1, h2 with | [_], [_], _, _ => ⟨_, rfl, rfl⟩) (fun G => ⟨_, _, rfl, rfl, rfl⟩)
theorem sc_are_wholes : FnScope ["value", "least", "most", "one"] ["value", "least", "most"] (defScope (top 9)) := ⟨rfl, rfl, rfl, by decide +kernel, rfl, by decide +kernel, by decide +kernel⟩
theorem kn_are_wholes {e : Wd} (bi : Bi e) (k_is_row_d1 : Kn e "is_row" 1 2 (fn2 m_is_row) [.none]) (k_is_whole : Kn e "is_whole" 1 3 (fn3 m_is_whole) []) (hF : FnD e "are_wholes" (top 9) [.non, .non]) : Kn e "are_wholes" 2 3 (fn3 m_are_wholes) [] := by
  obtain ⟨f, fd, F, hm⟩ := hF
  exact kn_dfl 3 2 F (fn_ok3 F sc_are_wholes rfl fun a0 a1 a2 W => b_are_wholes bi k_is_row_d1 k_is_whole W a0 a1 a2) ar_fn3 hm (by simp) (by rfl) (fun T _ _ _ _ _ _ us its h1 h2 => match us, its, h1, h2 with | [_, _, _], [_, _], _, _ => ⟨_, rfl, rfl⟩) (fun G => rfl)
theorem sc_gcd : FnScope ["one", "other"] ["one", "other"] (defScope (top 10)) := ⟨rfl, rfl, rfl, by decide +kernel, rfl, by decide +kernel, by decide +kernel⟩
theorem kn_gcd {e : Wd} (bi : Bi e)  (hF : FnD e "gcd" (top 10) []) : Kn e "gcd" 1 2 (fn2 m_gcd) [] := by
  obtain ⟨f, fd, F, hm⟩ := hF
  exact kn_all F (fn_ok2 F sc_gcd rfl fun a0 a1 W => b_gcd bi W a0 a1) ar_fn2 hm (fun _ _ _ _ _ _ us hl => match us, hl with | [_, _], _ => rfl)
theorem sc_need_monomial : FnScope ["monomial"] ["monomial"] (defScope (top 14)) := ⟨rfl, rfl, rfl, by decide +kernel, rfl, by decide +kernel, by decide +kernel⟩
theorem kn_need_monomial {e : Wd} (bi : Bi e) (k_are_wholes : Kn e "are_wholes" 2 3 (fn3 m_are_wholes) []) (x_BadMonomial : Xc e "BadMonomial" "value") (h_MOST_EXPONENT : Glo e "MOST_EXPONENT" g_MOST_EXPONENT) (h_MOST_VARIABLES : Glo e "MOST_VARIABLES" g_MOST_VARIABLES) (hF : FnD e "need_monomial" (top 14) []) : Kn e "need_monomial" 3 1 (fn1 m_need_monomial) [] := by
  obtain ⟨f, fd, F, hm⟩ := hF
  exact kn_all F (fn_ok1 F sc_need_monomial rfl fun a0 W => b_need_monomial bi k_are_wholes x_BadMonomial h_MOST_EXPONENT h_MOST_VARIABLES W a0) ar_fn1 hm (fun _ _ _ _ _ _ us hl => match us, hl with | [_], _ => rfl)
theorem sc_need_count : FnScope ["number"] ["number"] (defScope (top 15)) := ⟨rfl, rfl, rfl, by decide +kernel, rfl, by decide +kernel, by decide +kernel⟩
theorem kn_need_count {e : Wd} (bi : Bi e) (k_is_whole : Kn e "is_whole" 1 3 (fn3 m_is_whole) []) (x_BadNumber : Xc e "BadNumber" "value") (h_MOST_VARIABLES : Glo e "MOST_VARIABLES" g_MOST_VARIABLES) (hF : FnD e "need_count" (top 15) []) : Kn e "need_count" 3 1 (fn1 m_need_count) [] := by
  obtain ⟨f, fd, F, hm⟩ := hF
  exact kn_all F (fn_ok1 F sc_need_count rfl fun a0 W => b_need_count bi k_is_whole x_BadNumber h_MOST_VARIABLES W a0) ar_fn1 hm (fun _ _ _ _ _ _ us hl => match us, hl with | [_], _ => rfl)
theorem sc_divides : FnScope ["one", "other", "a", "b"] ["one", "other"] (defScope (top 16)) := ⟨rfl, rfl, rfl, by decide +kernel, rfl, by decide +kernel, by decide +kernel⟩
theorem kn_divides {e : Wd} (bi : Bi e)  (hF : FnD e "divides" (top 16) []) : Kn e "divides" 1 2 (fn2 m_divides) [] := by
  obtain ⟨f, fd, F, hm⟩ := hF
  exact kn_all F (fn_ok2 F sc_divides rfl fun a0 a1 W => b_divides bi W a0 a1) ar_fn2 hm (fun _ _ _ _ _ _ us hl => match us, hl with | [_, _], _ => rfl)
theorem sc_multiple_of : FnScope ["one", "other", "a", "b"] ["one", "other"] (defScope (top 17)) := ⟨rfl, rfl, rfl, by decide +kernel, rfl, by decide +kernel, by decide +kernel⟩
theorem kn_multiple_of {e : Wd} (bi : Bi e)  (hF : FnD e "multiple_of" (top 17) []) : Kn e "multiple_of" 1 2 (fn2 m_multiple_of) [] := by
  obtain ⟨f, fd, F, hm⟩ := hF
  exact kn_all F (fn_ok2 F sc_multiple_of rfl fun a0 a1 W => b_multiple_of bi W a0 a1) ar_fn2 hm (fun _ _ _ _ _ _ us hl => match us, hl with | [_, _], _ => rfl)
theorem sc_divisor_of : FnScope ["one", "other", "a", "b"] ["one", "other"] (defScope (top 18)) := ⟨rfl, rfl, rfl, by decide +kernel, rfl, by decide +kernel, by decide +kernel⟩
theorem kn_divisor_of {e : Wd} (bi : Bi e)  (hF : FnD e "divisor_of" (top 18) []) : Kn e "divisor_of" 1 2 (fn2 m_divisor_of) [] := by
  obtain ⟨f, fd, F, hm⟩ := hF
  exact kn_all F (fn_ok2 F sc_divisor_of rfl fun a0 a1 W => b_divisor_of bi W a0 a1) ar_fn2 hm (fun _ _ _ _ _ _ us hl => match us, hl with | [_, _], _ => rfl)
theorem sc_need_two : FnScope ["monomial", "other"] ["monomial", "other"] (defScope (top 19)) := ⟨rfl, rfl, rfl, by decide +kernel, rfl, by decide +kernel, by decide +kernel⟩
theorem kn_need_two {e : Wd} (bi : Bi e) (k_need_monomial : Kn e "need_monomial" 3 1 (fn1 m_need_monomial) []) (x_Unalike : Xc e "Unalike" "place") (hF : FnD e "need_two" (top 19) []) : Kn e "need_two" 4 2 (fn2 m_need_two) [] := by
  obtain ⟨f, fd, F, hm⟩ := hF
  exact kn_all F (fn_ok2 F sc_need_two rfl fun a0 a1 W => b_need_two bi k_need_monomial x_Unalike W a0 a1) ar_fn2 hm (fun _ _ _ _ _ _ us hl => match us, hl with | [_, _], _ => rfl)
theorem sc_monomial_divides : FnScope ["monomial", "other"] ["monomial", "other"] (defScope (top 20)) := ⟨rfl, rfl, rfl, by decide +kernel, rfl, by decide +kernel, by decide +kernel⟩
theorem kn_monomial_divides {e : Wd} (bi : Bi e) (k_divides : Kn e "divides" 1 2 (fn2 m_divides) []) (k_need_two : Kn e "need_two" 4 2 (fn2 m_need_two) []) (hF : FnD e "monomial_divides" (top 20) []) : Kn e "monomial_divides" 5 2 (fn2 m_monomial_divides) [] := by
  obtain ⟨f, fd, F, hm⟩ := hF
  exact kn_all F (fn_ok2 F sc_monomial_divides rfl fun a0 a1 W => b_monomial_divides bi k_divides k_need_two W a0 a1) ar_fn2 hm (fun _ _ _ _ _ _ us hl => match us, hl with | [_, _], _ => rfl)
theorem knk_monomial_divides_other_monomial {e : Wd} (bi : Bi e) (k_divides : Kn e "divides" 1 2 (fn2 m_divides) []) (k_need_two : Kn e "need_two" 4 2 (fn2 m_need_two) []) (hF : FnD e "monomial_divides" (top 20) []) : KnK e "monomial_divides" 5 2 (fn2 m_monomial_divides) ["other", "monomial"] pi_monomial_divides_other_monomial := by
  obtain ⟨f, fd, F, hm⟩ := hF
  refine knk_all F (fn_ok2 F sc_monomial_divides rfl fun a0 a1 W => b_monomial_divides bi k_divides k_need_two W a0 a1) ar_fn2 hm (fun _ _ _ _ _ _ ws hl => match ws, hl with | [_, _], _ => rfl) (fun {vs us} h => ?_) (fun mA os H bs zs h hl => ?_)
  · exact (match h with | .nil => .nil | .cons x h => (match h with | .nil => (.cons x .nil) | .cons y h => (match h with | .nil => (.cons y (.cons x .nil)) | .cons t h => (.cons x (.cons y (.cons t h))))))
  · have hb : bs.length = 2 := by rw [← h.length]; exact hl
    match bs, zs, hb, hl, h with
    | [b0, b1], [z0, z1], _, _, h =>
      obtain ⟨_, _, e, q0, h⟩ := h; cases e
      obtain ⟨_, _, e, q1, h⟩ := h; cases e
      exact ⟨⟨_, _, rfl, q1, ⟨_, _, rfl, q0, rfl⟩⟩, rfl⟩
theorem sc_least_multiple : FnScope ["monomial", "other"] ["monomial", "other"] (defScope (top 21)) := ⟨rfl, rfl, rfl, by decide +kernel, rfl, by decide +kernel, by decide +kernel⟩
theorem kn_least_multiple {e : Wd} (bi : Bi e) (k_multiple_of : Kn e "multiple_of" 1 2 (fn2 m_multiple_of) []) (k_need_two : Kn e "need_two" 4 2 (fn2 m_need_two) []) (hF : FnD e "least_multiple" (top 21) []) : Kn e "least_multiple" 5 2 (fn2 m_least_multiple) [] := by
  obtain ⟨f, fd, F, hm⟩ := hF
  exact kn_all F (fn_ok2 F sc_least_multiple rfl fun a0 a1 W => b_least_multiple bi k_multiple_of k_need_two W a0 a1) ar_fn2 hm (fun _ _ _ _ _ _ us hl => match us, hl with | [_, _], _ => rfl)
theorem knk_least_multiple_other_monomial {e : Wd} (bi : Bi e) (k_multiple_of : Kn e "multiple_of" 1 2 (fn2 m_multiple_of) []) (k_need_two : Kn e "need_two" 4 2 (fn2 m_need_two) []) (hF : FnD e "least_multiple" (top 21) []) : KnK e "least_multiple" 5 2 (fn2 m_least_multiple) ["other", "monomial"] pi_least_multiple_other_monomial := by
  obtain ⟨f, fd, F, hm⟩ := hF
  refine knk_all F (fn_ok2 F sc_least_multiple rfl fun a0 a1 W => b_least_multiple bi k_multiple_of k_need_two W a0 a1) ar_fn2 hm (fun _ _ _ _ _ _ ws hl => match ws, hl with | [_, _], _ => rfl) (fun {vs us} h => ?_) (fun mA os H bs zs h hl => ?_)
  · exact (match h with | .nil => .nil | .cons x h => (match h with | .nil => (.cons x .nil) | .cons y h => (match h with | .nil => (.cons y (.cons x .nil)) | .cons t h => (.cons x (.cons y (.cons t h))))))
  · have hb : bs.length = 2 := by rw [← h.length]; exact hl
    match bs, zs, hb, hl, h with
    | [b0, b1], [z0, z1], _, _, h =>
      obtain ⟨_, _, e, q0, h⟩ := h; cases e
      obtain ⟨_, _, e, q1, h⟩ := h; cases e
      exact ⟨⟨_, _, rfl, q1, ⟨_, _, rfl, q0, rfl⟩⟩, rfl⟩
theorem sc_greatest_divisor : FnScope ["monomial", "other"] ["monomial", "other"] (defScope (top 22)) := ⟨rfl, rfl, rfl, by decide +kernel, rfl, by decide +kernel, by decide +kernel⟩
theorem kn_greatest_divisor {e : Wd} (bi : Bi e) (k_divisor_of : Kn e "divisor_of" 1 2 (fn2 m_divisor_of) []) (k_need_two : Kn e "need_two" 4 2 (fn2 m_need_two) []) (hF : FnD e "greatest_divisor" (top 22) []) : Kn e "greatest_divisor" 5 2 (fn2 m_greatest_divisor) [] := by
  obtain ⟨f, fd, F, hm⟩ := hF
  exact kn_all F (fn_ok2 F sc_greatest_divisor rfl fun a0 a1 W => b_greatest_divisor bi k_divisor_of k_need_two W a0 a1) ar_fn2 hm (fun _ _ _ _ _ _ us hl => match us, hl with | [_, _], _ => rfl)
theorem knk_greatest_divisor_monomial_other {e : Wd} (bi : Bi e) (k_divisor_of : Kn e "divisor_of" 1 2 (fn2 m_divisor_of) []) (k_need_two : Kn e "need_two" 4 2 (fn2 m_need_two) []) (hF : FnD e "greatest_divisor" (top 22) []) : KnK e "greatest_divisor" 5 2 (fn2 m_greatest_divisor) ["monomial", "other"] pi_greatest_divisor_monomial_other := by
  obtain ⟨f, fd, F, hm⟩ := hF
  refine knk_all F (fn_ok2 F sc_greatest_divisor rfl fun a0 a1 W => b_greatest_divisor bi k_divisor_of k_need_two W a0 a1) ar_fn2 hm (fun _ _ _ _ _ _ ws hl => match ws, hl with | [_, _], _ => rfl) (fun {vs us} h => ?_) (fun mA os H bs zs h hl => ?_)
  · exact (match h with | .nil => .nil | .cons x h => (match h with | .nil => (.cons x .nil) | .cons y h => (match h with | .nil => (.cons x (.cons y .nil)) | .cons t h => (.cons x (.cons y (.cons t h))))))
  · have hb : bs.length = 2 := by rw [← h.length]; exact hl
    match bs, zs, hb, hl, h with
    | [b0, b1], [z0, z1], _, _, h =>
      obtain ⟨_, _, e, q0, h⟩ := h; cases e
      obtain ⟨_, _, e, q1, h⟩ := h; cases e
      exact ⟨⟨_, _, rfl, q0, ⟨_, _, rfl, q1, rfl⟩⟩, rfl⟩
theorem sc_ratio : FnScope ["upper", "under", "common"] ["upper", "under"] (defScope (top 25)) := ⟨rfl, rfl, rfl, by decide +kernel, rfl, by decide +kernel, by decide +kernel⟩
theorem kn_ratio {e : Wd} (bi : Bi e) (k_gcd : Kn e "gcd" 1 2 (fn2 m_gcd) []) (hF : FnD e "ratio" (top 25) []) : Kn e "ratio" 2 2 (fn2 m_ratio) [] := by
  obtain ⟨f, fd, F, hm⟩ := hF
  exact kn_all F (fn_ok2 F sc_ratio rfl fun a0 a1 W => b_ratio bi k_gcd W a0 a1) ar_fn2 hm (fun _ _ _ _ _ _ us hl => match us, hl with | [_, _], _ => rfl)
theorem sc_ratio_minus : FnScope ["one", "other"] ["one", "other"] (defScope (top 26)) := ⟨rfl, rfl, rfl, by decide +kernel, rfl, by decide +kernel, by decide +kernel⟩
theorem kn_ratio_minus {e : Wd} (bi : Bi e) (k_ratio : Kn e "ratio" 2 2 (fn2 m_ratio) []) (hF : FnD e "ratio_minus" (top 26) []) : Kn e "ratio_minus" 3 2 (fn2 m_ratio_minus) [] := by
  obtain ⟨f, fd, F, hm⟩ := hF
  exact kn_all F (fn_ok2 F sc_ratio_minus rfl fun a0 a1 W => b_ratio_minus bi k_ratio W a0 a1) ar_fn2 hm (fun _ _ _ _ _ _ us hl => match us, hl with | [_, _], _ => rfl)
theorem sc_ratio_times : FnScope ["one", "other"] ["one", "other"] (defScope (top 27)) := ⟨rfl, rfl, rfl, by decide +kernel, rfl, by decide +kernel, by decide +kernel⟩
theorem kn_ratio_times {e : Wd} (bi : Bi e) (k_ratio : Kn e "ratio" 2 2 (fn2 m_ratio) []) (hF : FnD e "ratio_times" (top 27) []) : Kn e "ratio_times" 3 2 (fn2 m_ratio_times) [] := by
  obtain ⟨f, fd, F, hm⟩ := hF
  exact kn_all F (fn_ok2 F sc_ratio_times rfl fun a0 a1 W => b_ratio_times bi k_ratio W a0 a1) ar_fn2 hm (fun _ _ _ _ _ _ us hl => match us, hl with | [_, _], _ => rfl)
theorem sc_ratio_over : FnScope ["one", "other"] ["one", "other"] (defScope (top 28)) := ⟨rfl, rfl, rfl, by decide +kernel, rfl, by decide +kernel, by decide +kernel⟩
theorem kn_ratio_over {e : Wd} (bi : Bi e) (k_ratio : Kn e "ratio" 2 2 (fn2 m_ratio) []) (hF : FnD e "ratio_over" (top 28) []) : Kn e "ratio_over" 3 2 (fn2 m_ratio_over) [] := by
  obtain ⟨f, fd, F, hm⟩ := hF
  exact kn_all F (fn_ok2 F sc_ratio_over rfl fun a0 a1 W => b_ratio_over bi k_ratio W a0 a1) ar_fn2 hm (fun _ _ _ _ _ _ us hl => match us, hl with | [_, _], _ => rfl)
theorem sc_rank_of : FnScope ["rows", "columns", "column", "left", "found", "leads", "place", "row", "part", "one", "two"] ["rows", "columns"] (defScope (top 32)) := ⟨rfl, rfl, rfl, by decide +kernel, rfl, by decide +kernel, by decide +kernel⟩
theorem kn_rank_of {e : Wd} (bi : Bi e) (k_ratio : Kn e "ratio" 2 2 (fn2 m_ratio) []) (k_ratio_minus : Kn e "ratio_minus" 3 2 (fn2 m_ratio_minus) []) (k_ratio_over : Kn e "ratio_over" 3 2 (fn2 m_ratio_over) []) (k_ratio_times : Kn e "ratio_times" 3 2 (fn2 m_ratio_times) []) (h_NONE : Glo e "NONE" g_NONE) (hF : FnD e "rank_of" (top 32) []) : Kn e "rank_of" 4 2 (fn2 m_rank_of) [] := by
  obtain ⟨f, fd, F, hm⟩ := hF
  exact kn_all F (fn_ok2 F sc_rank_of rfl fun a0 a1 W => b_rank_of bi k_ratio k_ratio_minus k_ratio_over k_ratio_times h_NONE W a0 a1) ar_fn2 hm (fun _ _ _ _ _ _ us hl => match us, hl with | [_, _], _ => rfl)
theorem sc_first_above : FnScope ["rows", "column", "numbers", "row"] ["rows", "column"] (defScope (top 33)) := ⟨rfl, rfl, rfl, by decide +kernel, rfl, by decide +kernel, by decide +kernel⟩
theorem kn_first_above {e : Wd} (bi : Bi e)  (hF : FnD e "first_above" (top 33) []) : Kn e "first_above" 1 2 (fn2 m_first_above) [] := by
  obtain ⟨f, fd, F, hm⟩ := hF
  exact kn_all F (fn_ok2 F sc_first_above rfl fun a0 a1 W => b_first_above bi W a0 a1) ar_fn2 hm (fun _ _ _ _ _ _ us hl => match us, hl with | [_, _], _ => rfl)
theorem sc_are_weights : FnScope ["count", "rows", "row"] ["count", "rows"] (defScope (top 34)) := ⟨rfl, rfl, rfl, by decide +kernel, rfl, by decide +kernel, by decide +kernel⟩
theorem kn_are_weights {e : Wd} (bi : Bi e) (k_are_wholes : Kn e "are_wholes" 2 3 (fn3 m_are_wholes) []) (k_is_row_d1 : Kn e "is_row" 1 2 (fn2 m_is_row) [.none]) (h_MOST_ROWS : Glo e "MOST_ROWS" g_MOST_ROWS) (h_MOST_WEIGHT : Glo e "MOST_WEIGHT" g_MOST_WEIGHT) (hF : FnD e "are_weights" (top 34) []) : Kn e "are_weights" 3 2 (fn2 m_are_weights) [] := by
  obtain ⟨f, fd, F, hm⟩ := hF
  exact kn_all F (fn_ok2 F sc_are_weights rfl fun a0 a1 W => b_are_weights bi k_are_wholes k_is_row_d1 h_MOST_ROWS h_MOST_WEIGHT W a0 a1) ar_fn2 hm (fun _ _ _ _ _ _ us hl => match us, hl with | [_, _], _ => rfl)
theorem sc_order_fault : FnScope ["count", "value", "column"] ["count", "value"] (defScope (top 35)) := ⟨rfl, rfl, rfl, by decide +kernel, rfl, by decide +kernel, by decide +kernel⟩
theorem kn_order_fault {e : Wd} (bi : Bi e) (k_are_weights : Kn e "are_weights" 3 2 (fn2 m_are_weights) []) (k_first_above : Kn e "first_above" 1 2 (fn2 m_first_above) []) (k_is_row_d1 : Kn e "is_row" 1 2 (fn2 m_is_row) [.none]) (k_is_whole : Kn e "is_whole" 1 3 (fn3 m_is_whole) []) (k_rank_of : Kn e "rank_of" 4 2 (fn2 m_rank_of) []) (hF : FnD e "order_fault" (top 35) []) : Kn e "order_fault" 5 2 (fn2 m_order_fault) [] := by
  obtain ⟨f, fd, F, hm⟩ := hF
  exact kn_all F (fn_ok2 F sc_order_fault rfl fun a0 a1 W => b_order_fault bi k_are_weights k_first_above k_is_row_d1 k_is_whole k_rank_of W a0 a1) ar_fn2 hm (fun _ _ _ _ _ _ us hl => match us, hl with | [_, _], _ => rfl)
theorem sc_need_order : FnScope ["number", "order", "fault"] ["number", "order"] (defScope (top 36)) := ⟨rfl, rfl, rfl, by decide +kernel, rfl, by decide +kernel, by decide +kernel⟩
theorem kn_need_order {e : Wd} (bi : Bi e) (k_need_count : Kn e "need_count" 3 1 (fn1 m_need_count) []) (k_order_fault : Kn e "order_fault" 5 2 (fn2 m_order_fault) []) (x_BadOrder : Xc e "BadOrder" "place") (hF : FnD e "need_order" (top 36) []) : Kn e "need_order" 6 2 (fn2 m_need_order) [] := by
  obtain ⟨f, fd, F, hm⟩ := hF
  exact kn_all F (fn_ok2 F sc_need_order rfl fun a0 a1 W => b_need_order bi k_need_count k_order_fault x_BadOrder W a0 a1) ar_fn2 hm (fun _ _ _ _ _ _ us hl => match us, hl with | [_, _], _ => rfl)
theorem knk_need_order_order_number {e : Wd} (bi : Bi e) (k_need_count : Kn e "need_count" 3 1 (fn1 m_need_count) []) (k_order_fault : Kn e "order_fault" 5 2 (fn2 m_order_fault) []) (x_BadOrder : Xc e "BadOrder" "place") (hF : FnD e "need_order" (top 36) []) : KnK e "need_order" 6 2 (fn2 m_need_order) ["order", "number"] pi_need_order_order_number := by
  obtain ⟨f, fd, F, hm⟩ := hF
  refine knk_all F (fn_ok2 F sc_need_order rfl fun a0 a1 W => b_need_order bi k_need_count k_order_fault x_BadOrder W a0 a1) ar_fn2 hm (fun _ _ _ _ _ _ ws hl => match ws, hl with | [_, _], _ => rfl) (fun {vs us} h => ?_) (fun mA os H bs zs h hl => ?_)
  · exact (match h with | .nil => .nil | .cons x h => (match h with | .nil => (.cons x .nil) | .cons y h => (match h with | .nil => (.cons y (.cons x .nil)) | .cons t h => (.cons x (.cons y (.cons t h))))))
  · have hb : bs.length = 2 := by rw [← h.length]; exact hl
    match bs, zs, hb, hl, h with
    | [b0, b1], [z0, z1], _, _, h =>
      obtain ⟨_, _, e, q0, h⟩ := h; cases e
      obtain ⟨_, _, e, q1, h⟩ := h; cases e
      exact ⟨⟨_, _, rfl, q1, ⟨_, _, rfl, q0, rfl⟩⟩, rfl⟩
theorem sc_by_degree : FnScope ["exponents", "one"] ["exponents"] (defScope (top 37)) := ⟨rfl, rfl, rfl, by decide +kernel, rfl, by decide +kernel, by decide +kernel⟩
theorem kn_by_degree {e : Wd} (bi : Bi e)  (hF : FnD e "by_degree" (top 37) []) : Kn e "by_degree" 1 1 (fn1 m_by_degree) [] := by
  obtain ⟨f, fd, F, hm⟩ := hF
  exact kn_all F (fn_ok1 F sc_by_degree rfl fun a0 W => b_by_degree bi W a0) ar_fn1 hm (fun _ _ _ _ _ _ us hl => match us, hl with | [_], _ => rfl)
theorem sc_key_of : FnScope ["order", "monomial", "row", "weight", "one"] ["order", "monomial"] (defScope (top 38)) := ⟨rfl, rfl, rfl, by decide +kernel, rfl, by decide +kernel, by decide +kernel⟩
theorem kn_key_of {e : Wd} (bi : Bi e) (k_by_degree : Kn e "by_degree" 1 1 (fn1 m_by_degree) []) (hF : FnD e "key_of" (top 38) []) : Kn e "key_of" 2 2 (fn2 m_key_of) [] := by
  obtain ⟨f, fd, F, hm⟩ := hF
  exact kn_all F (fn_ok2 F sc_key_of rfl fun a0 a1 W => b_key_of bi k_by_degree W a0 a1) ar_fn2 hm (fun _ _ _ _ _ _ us hl => match us, hl with | [_, _], _ => rfl)
theorem sc_is_below : FnScope ["monomial", "other", "order"] ["monomial", "other", "order"] (defScope (top 39)) := ⟨rfl, rfl, rfl, by decide +kernel, rfl, by decide +kernel, by decide +kernel⟩
theorem kn_is_below {e : Wd} (bi : Bi e) (k_key_of : Kn e "key_of" 2 2 (fn2 m_key_of) []) (k_need_order : Kn e "need_order" 6 2 (fn2 m_need_order) []) (k_need_two : Kn e "need_two" 4 2 (fn2 m_need_two) []) (hF : FnD e "is_below" (top 39) []) : Kn e "is_below" 7 3 (fn3 m_is_below) [] := by
  obtain ⟨f, fd, F, hm⟩ := hF
  exact kn_all F (fn_ok3 F sc_is_below rfl fun a0 a1 a2 W => b_is_below bi k_key_of k_need_order k_need_two W a0 a1 a2) ar_fn3 hm (fun _ _ _ _ _ _ us hl => match us, hl with | [_, _, _], _ => rfl)
theorem knk_is_below_order_other_monomial {e : Wd} (bi : Bi e) (k_key_of : Kn e "key_of" 2 2 (fn2 m_key_of) []) (k_need_order : Kn e "need_order" 6 2 (fn2 m_need_order) []) (k_need_two : Kn e "need_two" 4 2 (fn2 m_need_two) []) (hF : FnD e "is_below" (top 39) []) : KnK e "is_below" 7 3 (fn3 m_is_below) ["order", "other", "monomial"] pi_is_below_order_other_monomial := by
  obtain ⟨f, fd, F, hm⟩ := hF
  refine knk_all F (fn_ok3 F sc_is_below rfl fun a0 a1 a2 W => b_is_below bi k_key_of k_need_order k_need_two W a0 a1 a2) ar_fn3 hm (fun _ _ _ _ _ _ ws hl => match ws, hl with | [_, _, _], _ => rfl) (fun {vs us} h => ?_) (fun mA os H bs zs h hl => ?_)
  · exact (match h with | .nil => .nil | .cons x h => (match h with | .nil => (.cons x .nil) | .cons y h => (match h with | .nil => (.cons x (.cons y .nil)) | .cons z h => (match h with | .nil => (.cons z (.cons y (.cons x .nil))) | .cons t h => (.cons x (.cons y (.cons z (.cons t h))))))))
  · have hb : bs.length = 3 := by rw [← h.length]; exact hl
    match bs, zs, hb, hl, h with
    | [b0, b1, b2], [z0, z1, z2], _, _, h =>
      obtain ⟨_, _, e, q0, h⟩ := h; cases e
      obtain ⟨_, _, e, q1, h⟩ := h; cases e
      obtain ⟨_, _, e, q2, h⟩ := h; cases e
      exact ⟨⟨_, _, rfl, q2, ⟨_, _, rfl, q1, ⟨_, _, rfl, q0, rfl⟩⟩⟩, rfl⟩
theorem sc__law_mixed : FnScope ["cell", "n", "blend"] ["cell", "n"] (defScope (top 41)) := ⟨rfl, rfl, rfl, by decide +kernel, rfl, by decide +kernel, by decide +kernel⟩
theorem kn__law_mixed {e : Wd} (bi : Bi e)  (hF : FnD e "_law_mixed" (top 41) []) : Kn e "_law_mixed" 1 2 (fn2 m__law_mixed) [] := by
  obtain ⟨f, fd, F, hm⟩ := hF
  exact kn_all F (fn_ok2 F sc__law_mixed rfl fun a0 a1 W => b__law_mixed bi W a0 a1) ar_fn2 hm (fun _ _ _ _ _ _ us hl => match us, hl with | [_, _], _ => rfl)
theorem sc__law_folded : FnScope ["script", "found", "n", "cell"] ["script"] (defScope (top 42)) := ⟨rfl, rfl, rfl, by decide +kernel, rfl, by decide +kernel, by decide +kernel⟩
theorem kn__law_folded {e : Wd} (bi : Bi e)  (hF : FnD e "_law_folded" (top 42) []) : Kn e "_law_folded" 1 1 (fg1 m__law_folded) [] := by
  obtain ⟨f, fd, F, hm⟩ := hF
  exact kn_all F (fn_okG F sc__law_folded rfl fun a0 W => b__law_folded bi W a0) ar_fg1 hm (fun _ _ _ _ _ _ us hl => match us, hl with | [_], _ => rfl)
theorem sc__law_draw : FnScope ["m", "limit", "n", "lot", "here", "cell"] ["m", "limit"] (defScope (top 43)) := ⟨rfl, rfl, rfl, by decide +kernel, rfl, by decide +kernel, by decide +kernel⟩
theorem kn__law_draw {e : Wd} (bi : Bi e) (k__law_mixed : Kn e "_law_mixed" 1 2 (fn2 m__law_mixed) []) (hF : FnD e "_law_draw" (top 43) []) : Kn e "_law_draw" 2 2 (fm1 m__law_draw) [] := by
  obtain ⟨f, fd, F, hm⟩ := hF
  exact kn_all F (fn_okm1 F sc__law_draw rfl fun a0 W => b__law_draw bi k__law_mixed W a0) ar_fm1 hm (fun _ _ _ _ _ _ us hl => match us, hl with | [_, _], _ => rfl)
theorem sc__law_of : FnScope ["m", "some"] ["m", "some"] (defScope (top 45)) := ⟨rfl, rfl, rfl, by decide +kernel, rfl, by decide +kernel, by decide +kernel⟩
theorem kn__law_of {e : Wd} (bi : Bi e) (k__law_draw : Kn e "_law_draw" 2 2 (fm1 m__law_draw) []) (hF : FnD e "_law_of" (top 45) []) : Kn e "_law_of" 3 2 (fm1 m__law_of) [] := by
  obtain ⟨f, fd, F, hm⟩ := hF
  exact kn_all F (fn_okm1 F sc__law_of rfl fun a0 W => b__law_of bi k__law_draw W a0) ar_fm1 hm (fun _ _ _ _ _ _ us hl => match us, hl with | [_, _], _ => rfl)
theorem sc__law_like : FnScope ["got", "due", "n"] ["got", "due"] (defScope (top 46)) := ⟨rfl, rfl, rfl, by decide +kernel, rfl, by decide +kernel, by decide +kernel⟩
theorem kr__law_like {e : Wd} (bi : Bi e)  (hF : FnD e "_law_like" (top 46) []) : ∀ n, Kn e "_law_like" (n + 1) 2 (fn2 (r__law_like n)) []
  | 0 => by
    obtain ⟨f, fd, F, hm⟩ := hF
    exact kn_all F (fn_ok2 (k := 0) F sc__law_like rfl fun a0 a1 W B S σ H os D Φ Ψ st ha => ha.elim) ar_fn2 hm (fun _ _ _ _ _ _ us hl => match us, hl with | [_, _], _ => rfl)
  | n + 1 => by
    have ih := hF
    obtain ⟨f, fd, F, hm⟩ := hF
    exact kn_all F (fn_ok2 (k := n + 1) F sc__law_like rfl fun a0 a1 W => b__law_like bi n (kr__law_like bi ih n) W a0 a1) ar_fn2 hm (fun _ _ _ _ _ _ us hl => match us, hl with | [_, _], _ => rfl)
theorem kn__law_like {e : Wd} (bi : Bi e)  (hF : FnD e "_law_like" (top 46) []) : Kn e "_law_like" 9 2 (fn2 m__law_like) [] := kr__law_like bi hF 8
theorem sc__law_order : FnScope ["m", "many", "left", "found"] ["m", "many"] (defScope (top 47)) := ⟨rfl, rfl, rfl, by decide +kernel, rfl, by decide +kernel, by decide +kernel⟩
theorem kn__law_order {e : Wd} (bi : Bi e) (k__law_draw : Kn e "_law_draw" 2 2 (fm1 m__law_draw) []) (hF : FnD e "_law_order" (top 47) []) : Kn e "_law_order" 3 2 (fm1 m__law_order) [] := by
  obtain ⟨f, fd, F, hm⟩ := hF
  exact kn_all F (fn_okm1 F sc__law_order rfl fun a0 W => b__law_order bi k__law_draw W a0) ar_fm1 hm (fun _ _ _ _ _ _ us hl => match us, hl with | [_, _], _ => rfl)
theorem sc__law_common : FnScope ["one", "other"] ["one", "other"] (defScope (top 48)) := ⟨rfl, rfl, rfl, by decide +kernel, rfl, by decide +kernel, by decide +kernel⟩
theorem kn__law_common {e : Wd} (bi : Bi e)  (hF : FnD e "_law_common" (top 48) []) : Kn e "_law_common" 1 2 (fn2 m__law_common) [] := by
  obtain ⟨f, fd, F, hm⟩ := hF
  exact kn_all F (fn_ok2 F sc__law_common rfl fun a0 a1 W => b__law_common bi W a0 a1) ar_fn2 hm (fun _ _ _ _ _ _ us hl => match us, hl with | [_, _], _ => rfl)
theorem sc__law_ratio : FnScope ["upper", "under", "common"] ["upper", "under"] (defScope (top 49)) := ⟨rfl, rfl, rfl, by decide +kernel, rfl, by decide +kernel, by decide +kernel⟩
theorem kn__law_ratio {e : Wd} (bi : Bi e) (k__law_common : Kn e "_law_common" 1 2 (fn2 m__law_common) []) (hF : FnD e "_law_ratio" (top 49) []) : Kn e "_law_ratio" 2 2 (fn2 m__law_ratio) [] := by
  obtain ⟨f, fd, F, hm⟩ := hF
  exact kn_all F (fn_ok2 F sc__law_ratio rfl fun a0 a1 W => b__law_ratio bi k__law_common W a0 a1) ar_fn2 hm (fun _ _ _ _ _ _ us hl => match us, hl with | [_, _], _ => rfl)
theorem sc__law_times : FnScope ["fractions", "found", "upper", "under"] ["fractions"] (defScope (top 50)) := ⟨rfl, rfl, rfl, by decide +kernel, rfl, by decide +kernel, by decide +kernel⟩
theorem kn__law_times {e : Wd} (bi : Bi e) (k__law_ratio : Kn e "_law_ratio" 2 2 (fn2 m__law_ratio) []) (hF : FnD e "_law_times" (top 50) []) : Kn e "_law_times" 3 1 (fn1 m__law_times) [] := by
  obtain ⟨f, fd, F, hm⟩ := hF
  exact kn_all F (fn_ok1 F sc__law_times rfl fun a0 W => b__law_times bi k__law_ratio W a0) ar_fn1 hm (fun _ _ _ _ _ _ us hl => match us, hl with | [_], _ => rfl)
theorem sc__law_over : FnScope ["one", "other"] ["one", "other"] (defScope (top 51)) := ⟨rfl, rfl, rfl, by decide +kernel, rfl, by decide +kernel, by decide +kernel⟩
theorem kn__law_over {e : Wd} (bi : Bi e) (k__law_ratio : Kn e "_law_ratio" 2 2 (fn2 m__law_ratio) []) (hF : FnD e "_law_over" (top 51) []) : Kn e "_law_over" 3 2 (fn2 m__law_over) [] := by
  obtain ⟨f, fd, F, hm⟩ := hF
  exact kn_all F (fn_ok2 F sc__law_over rfl fun a0 a1 W => b__law_over bi k__law_ratio W a0 a1) ar_fn2 hm (fun _ _ _ _ _ _ us hl => match us, hl with | [_, _], _ => rfl)
theorem sc__law_minus : FnScope ["one", "other"] ["one", "other"] (defScope (top 52)) := ⟨rfl, rfl, rfl, by decide +kernel, rfl, by decide +kernel, by decide +kernel⟩
theorem kn__law_minus {e : Wd} (bi : Bi e) (k__law_ratio : Kn e "_law_ratio" 2 2 (fn2 m__law_ratio) []) (hF : FnD e "_law_minus" (top 52) []) : Kn e "_law_minus" 3 2 (fn2 m__law_minus) [] := by
  obtain ⟨f, fd, F, hm⟩ := hF
  exact kn_all F (fn_ok2 F sc__law_minus rfl fun a0 a1 W => b__law_minus bi k__law_ratio W a0 a1) ar_fn2 hm (fun _ _ _ _ _ _ us hl => match us, hl with | [_, _], _ => rfl)
theorem sc__law_monomial : FnScope ["m", "count", "degree", "found", "turn", "place"] ["m", "count", "degree"] (defScope (top 53)) := ⟨rfl, rfl, rfl, by decide +kernel, rfl, by decide +kernel, by decide +kernel⟩
theorem kn__law_monomial {e : Wd} (bi : Bi e) (k__law_draw : Kn e "_law_draw" 2 2 (fm1 m__law_draw) []) (hF : FnD e "_law_monomial" (top 53) []) : Kn e "_law_monomial" 3 3 (fm2 m__law_monomial) [] := by
  obtain ⟨f, fd, F, hm⟩ := hF
  exact kn_all F (fn_okm2 F sc__law_monomial rfl fun a0 a1 W => b__law_monomial bi k__law_draw W a0 a1) ar_fm2 hm (fun _ _ _ _ _ _ us hl => match us, hl with | [_, _, _], _ => rfl)
theorem sc__law_key : FnScope ["order", "monomial", "spot", "found", "part", "row", "one", "a", "b"] ["order", "monomial"] (defScope (top 54)) := ⟨rfl, rfl, rfl, by decide +kernel, rfl, by decide +kernel, by decide +kernel⟩
theorem kn__law_key {e : Wd} (bi : Bi e)  (hF : FnD e "_law_key" (top 54) []) : Kn e "_law_key" 1 2 (fn2 m__law_key) [] := by
  obtain ⟨f, fd, F, hm⟩ := hF
  exact kn_all F (fn_ok2 F sc__law_key rfl fun a0 a1 W => b__law_key bi W a0 a1) ar_fn2 hm (fun _ _ _ _ _ _ us hl => match us, hl with | [_, _], _ => rfl)
theorem sc__law_divides : FnScope ["one", "other", "a", "b"] ["one", "other"] (defScope (top 55)) := ⟨rfl, rfl, rfl, by decide +kernel, rfl, by decide +kernel, by decide +kernel⟩
theorem kn__law_divides {e : Wd} (bi : Bi e)  (hF : FnD e "_law_divides" (top 55) []) : Kn e "_law_divides" 1 2 (fn2 m__law_divides) [] := by
  obtain ⟨f, fd, F, hm⟩ := hF
  exact kn_all F (fn_ok2 F sc__law_divides rfl fun a0 a1 W => b__law_divides bi W a0 a1) ar_fn2 hm (fun _ _ _ _ _ _ us hl => match us, hl with | [_, _], _ => rfl)
theorem sc__law_some_order : FnScope ["m", "count", "pick", "rows", "turned", "place", "other"] ["m", "count"] (defScope (top 56)) := ⟨rfl, rfl, rfl, by decide +kernel, rfl, by decide +kernel, by decide +kernel⟩
theorem kn__law_some_order {e : Wd} (bi : Bi e) (k__law_draw : Kn e "_law_draw" 2 2 (fm1 m__law_draw) []) (k__law_order : Kn e "_law_order" 3 2 (fm1 m__law_order) []) (hF : FnD e "_law_some_order" (top 56) []) : Kn e "_law_some_order" 4 2 (fm1 m__law_some_order) [] := by
  obtain ⟨f, fd, F, hm⟩ := hF
  exact kn_all F (fn_okm1 F sc__law_some_order rfl fun a0 W => b__law_some_order bi k__law_draw k__law_order W a0) ar_fm1 hm (fun _ _ _ _ _ _ us hl => match us, hl with | [_, _], _ => rfl)
theorem sc__law_rank : FnScope ["rows", "columns", "column", "left", "found", "leads", "n", "row", "part", "one", "two"] ["rows", "columns"] (defScope (top 57)) := ⟨rfl, rfl, rfl, by decide +kernel, rfl, by decide +kernel, by decide +kernel⟩
theorem kn__law_rank {e : Wd} (bi : Bi e) (k__law_minus : Kn e "_law_minus" 3 2 (fn2 m__law_minus) []) (k__law_over : Kn e "_law_over" 3 2 (fn2 m__law_over) []) (k__law_times : Kn e "_law_times" 3 1 (fn1 m__law_times) []) (hF : FnD e "_law_rank" (top 57) []) : Kn e "_law_rank" 4 2 (fn2 m__law_rank) [] := by
  obtain ⟨f, fd, F, hm⟩ := hF
  exact kn_all F (fn_ok2 F sc__law_rank rfl fun a0 a1 W => b__law_rank bi k__law_minus k__law_over k__law_times W a0 a1) ar_fn2 hm (fun _ _ _ _ _ _ us hl => match us, hl with | [_, _], _ => rfl)
theorem sc__law_is_within : FnScope ["value", "low", "high"] ["value", "low", "high"] (defScope (top 58)) := ⟨rfl, rfl, rfl, by decide +kernel, rfl, by decide +kernel, by decide +kernel⟩
theorem kn__law_is_within {e : Wd} (bi : Bi e)  (hF : FnD e "_law_is_within" (top 58) []) : Kn e "_law_is_within" 1 3 (fn3 m__law_is_within) [] := by
  obtain ⟨f, fd, F, hm⟩ := hF
  exact kn_all F (fn_ok3 F sc__law_is_within rfl fun a0 a1 a2 W => b__law_is_within bi W a0 a1 a2) ar_fn3 hm (fun _ _ _ _ _ _ us hl => match us, hl with | [_, _, _], _ => rfl)
theorem sc__law_due : FnScope ["count", "value", "rows", "row", "column", "numbers", "one"] ["count", "value"] (defScope (top 59)) := ⟨rfl, rfl, rfl, by decide +kernel, rfl, by decide +kernel, by decide +kernel⟩
theorem kn__law_due {e : Wd} (bi : Bi e) (k__law_is_within : Kn e "_law_is_within" 1 3 (fn3 m__law_is_within) []) (k__law_rank : Kn e "_law_rank" 4 2 (fn2 m__law_rank) []) (hF : FnD e "_law_due" (top 59) []) : Kn e "_law_due" 5 2 (fn2 m__law_due) [] := by
  obtain ⟨f, fd, F, hm⟩ := hF
  exact kn_all F (fn_ok2 F sc__law_due rfl fun a0 a1 W => b__law_due bi k__law_is_within k__law_rank W a0 a1) ar_fn2 hm (fun _ _ _ _ _ _ us hl => match us, hl with | [_, _], _ => rfl)
theorem sc__law_some_rows : FnScope ["m", "count", "rows", "turn", "place"] ["m", "count"] (defScope (top 61)) := ⟨rfl, rfl, rfl, by decide +kernel, rfl, by decide +kernel, by decide +kernel⟩
theorem kn__law_some_rows {e : Wd} (bi : Bi e) (k__law_draw : Kn e "_law_draw" 2 2 (fm1 m__law_draw) []) (k__law_of : Kn e "_law_of" 3 2 (fm1 m__law_of) []) (hF : FnD e "_law_some_rows" (top 61) []) : Kn e "_law_some_rows" 4 2 (fm1 m__law_some_rows) [] := by
  obtain ⟨f, fd, F, hm⟩ := hF
  exact kn_all F (fn_okm1 F sc__law_some_rows rfl fun a0 W => b__law_some_rows bi k__law_draw k__law_of W a0) ar_fm1 hm (fun _ _ _ _ _ _ us hl => match us, hl with | [_, _], _ => rfl)
theorem sc__law_values : FnScope ["m", "count", "odd", "some", "one", "bent"] ["m", "count"] (defScope (top 62)) := ⟨rfl, rfl, rfl, by decide +kernel, rfl, by decide +kernel, by decide +kernel⟩
theorem kn__law_values {e : Wd} (bi : Bi e) (k__law_draw : Kn e "_law_draw" 2 2 (fm1 m__law_draw) []) (k__law_of : Kn e "_law_of" 3 2 (fm1 m__law_of) []) (k__law_some_order : Kn e "_law_some_order" 4 2 (fm1 m__law_some_order) []) (k__law_some_rows : Kn e "_law_some_rows" 4 2 (fm1 m__law_some_rows) []) (hF : FnD e "_law_values" (top 62) []) : Kn e "_law_values" 5 2 (fm1 m__law_values) [] := by
  obtain ⟨f, fd, F, hm⟩ := hF
  exact kn_all F (fn_okm1 F sc__law_values rfl fun a0 W => b__law_values bi k__law_draw k__law_of k__law_some_order k__law_some_rows W a0) ar_fm1 hm (fun _ _ _ _ _ _ us hl => match us, hl with | [_, _], _ => rfl)
theorem sc__law_orders_right : FnScope ["m", "count", "value", "due", "heard"] ["m", "count"] (defScope (top 63)) := ⟨rfl, rfl, rfl, by decide +kernel, rfl, by decide +kernel, by decide +kernel⟩
theorem kn__law_orders_right {e : Wd} (bi : Bi e) (h_heard : ∃ L, HeardOk e "_law_heard" L ∧ L.map Hrd.key = hdsK) (k__law_due : Kn e "_law_due" 5 2 (fn2 m__law_due) []) (k__law_like : Kn e "_law_like" 9 2 (fn2 m__law_like) []) (k__law_values : Kn e "_law_values" 5 2 (fm1 m__law_values) []) (kk_need_order_order_number : KnK e "need_order" 6 2 (fn2 m_need_order) ["order", "number"] pi_need_order_order_number) (hF : LamD e "_law_orders_right" (top 63)) : Kn e "_law_orders_right" 10 2 (fm1 m__law_orders_right) [] := by
  obtain ⟨f, fd, ca, P, F, hm, hca, hT1, hT2, hT3⟩ := hF
  exact kn_all F (fn_okL F sc__law_orders_right ar_fm1 rfl hca fun as W h => by
    match as, h with
    | [.drw, .dat a], _ => exact b__law_orders_right bi h_heard (fun _ => ⟨_, ca, P, rfl, hT1, hT2, hT3⟩) k__law_due k__law_like k__law_values kk_need_order_order_number W a
    | [.dat _, _], _ => exact fun B S σ H os D Φ Ψ st ha => ha.elim
    | [.giv _, _], _ => exact fun B S σ H os D Φ Ψ st ha => ha.elim
    | [.drw, .drw], _ => exact fun B S σ H os D Φ Ψ st ha => ha.elim
    | [.drw, .giv _], _ => exact fun B S σ H os D Φ Ψ st ha => ha.elim) ar_fm1 hm (fun _ _ _ _ _ _ us hl => match us, hl with | [_, _], _ => rfl)
theorem sc__law_below_right : FnScope ["m", "count", "order", "some", "one", "other", "turn", "due", "by", "told", "near", "far", "top", "low", "a", "b"] ["m", "count", "order"] (defScope (top 64)) := ⟨rfl, rfl, rfl, by decide +kernel, rfl, by decide +kernel, by decide +kernel⟩
theorem kn__law_below_right {e : Wd} (bi : Bi e) (k__law_divides : Kn e "_law_divides" 1 2 (fn2 m__law_divides) []) (k__law_key : Kn e "_law_key" 1 2 (fn2 m__law_key) []) (k__law_like : Kn e "_law_like" 9 2 (fn2 m__law_like) []) (k__law_monomial : Kn e "_law_monomial" 3 3 (fm2 m__law_monomial) []) (k__law_of : Kn e "_law_of" 3 2 (fm1 m__law_of) []) (k_is_below : Kn e "is_below" 7 3 (fn3 m_is_below) []) (kk_greatest_divisor_monomial_other : KnK e "greatest_divisor" 5 2 (fn2 m_greatest_divisor) ["monomial", "other"] pi_greatest_divisor_monomial_other) (kk_is_below_order_other_monomial : KnK e "is_below" 7 3 (fn3 m_is_below) ["order", "other", "monomial"] pi_is_below_order_other_monomial) (kk_least_multiple_other_monomial : KnK e "least_multiple" 5 2 (fn2 m_least_multiple) ["other", "monomial"] pi_least_multiple_other_monomial) (kk_monomial_divides_other_monomial : KnK e "monomial_divides" 5 2 (fn2 m_monomial_divides) ["other", "monomial"] pi_monomial_divides_other_monomial) (hF : FnD e "_law_below_right" (top 64) []) : Kn e "_law_below_right" 10 3 (fm2 m__law_below_right) [] := by
  obtain ⟨f, fd, F, hm⟩ := hF
  exact kn_all F (fn_okm2 F sc__law_below_right rfl fun a0 a1 W => b__law_below_right bi k__law_divides k__law_key k__law_like k__law_monomial k__law_of k_is_below kk_greatest_divisor_monomial_other kk_is_below_order_other_monomial kk_least_multiple_other_monomial kk_monomial_divides_other_monomial W a0 a1) ar_fm2 hm (fun _ _ _ _ _ _ us hl => match us, hl with | [_, _, _], _ => rfl)
theorem sc_law : FnScope ["script", "m", "turn", "odd", "told", "due", "count", "order"] ["script"] (defScope (top 65)) := ⟨rfl, rfl, rfl, by decide +kernel, rfl, by decide +kernel, by decide +kernel⟩
theorem sc__law_begun : FnScope ["script", "m", "cell"] ["script"] (defScope (top 44)) := ⟨rfl, rfl, rfl, by decide +kernel, rfl, by decide +kernel, by decide +kernel⟩

end DL
namespace DL
open PySem PySem.Spec L2
/-- the promise of law -/
def spLaw (K : PySem.W.Frag) (T : List (Addr × Str)) : Sp := fun vs H Q _ => ∃ (sc : List Int) (a : Addr), vs = [.ref a] ∧ SqL K (frz H []) a (sc.map V.int) ∧ sc.length ≤ 63 ∧ LamX.Tabs T H ∧ ∀ H', Q (.bl true) H'
def Short63 (sc : List Int) : Prop := sc.length ≤ 63
noncomputable def first (sc : List Int) : DS := open Classical in if h : sc.length ≤ 63 then ⟨Classical.choose (begun_ok sc h), Classical.choose (Classical.choose_spec (begun_ok sc h)), 0⟩ else ⟨[], [], 0⟩
theorem first_ok (sc : List Int) (h : sc.length ≤ 63) : (∀ S, m1__law_begun sc S = .ok (.list ((first sc).cells.map .int)) S) ∧ (∀ S, m2__law_begun sc S = .ok (.list ((first sc).great.map .int)) S) ∧ (first sc).cells.length ≠ (first sc).great.length ∧ Good (first sc) ∧ (first sc).spot = 0 := by
  have q := Classical.choose_spec (Classical.choose_spec (begun_ok sc h))
  unfold first
  rw [dif_pos h]
  exact ⟨q.1, q.2.1, q.2.2.1, q.2.2.2, rfl⟩
theorem law_acc (sc : List Int) (h : sc.length ≤ 63) : (m_law .none (first sc)).acc (fun d _ => d = .bool true) (fun _ _ _ _ => False) := by
  obtain ⟨_, _, _, g, z⟩ := first_ok sc h
  obtain ⟨a, S', e, _, _, p⟩ := run_law .none (first sc) g (by rw [z]; exact (by decide : (0 : Int) + (2401 : Nat) ≤ LIM))
  rw [e]
  exact p
theorem fn__law_begun {e : Wd} (bi : Bi e) (k__law_folded : Kn e "_law_folded" 1 1 (fg1 m__law_folded) []) {f : Addr} {fd : FuncData} (F : FunD e.K "_law_begun" "_law_begun" (defArgs (top 44)) (defBody (top 44)) (defScope (top 44)) [] [] f fd) :
    FnOk e.P e.w e.K e.mg e.base (L2.CX e.P e.w) 2 f fd ["script"] (spB e.K e.T Short63 first) :=
  fn_begun F sc__law_begun rfl fun sc W H σ D hp st hq => by
    obtain ⟨h1, h2, h3, _, hz⟩ := first_ok sc hp
    have e0 : first sc = ⟨(first sc).cells, (first sc).great, 0⟩ := by rw [← hz]
    exact b__law_begun bi k__law_folded W sc h1 h2 h3 st (fun am ag ac H' a b q => hq am ag ac H' a b (by rw [e0]; exact q))
theorem fn_law {e : Wd} (bi : Bi e) (h_heard : ∃ L, HeardOk e "_law_heard" L ∧ L.map Hrd.key = hdsK) (k__law_below_right : Kn e "_law_below_right" 10 3 (fm2 m__law_below_right) []) (k__law_draw : Kn e "_law_draw" 2 2 (fm1 m__law_draw) []) (k__law_like : Kn e "_law_like" 9 2 (fn2 m__law_like) []) (k__law_of : Kn e "_law_of" 3 2 (fm1 m__law_of) []) (k__law_orders_right : Kn e "_law_orders_right" 10 2 (fm1 m__law_orders_right) []) (k__law_some_order : Kn e "_law_some_order" 4 2 (fm1 m__law_some_order) []) (k_greatest_divisor : Kn e "greatest_divisor" 5 2 (fn2 m_greatest_divisor) []) (k_is_below : Kn e "is_below" 7 3 (fn3 m_is_below) []) (k_least_multiple : Kn e "least_multiple" 5 2 (fn2 m_least_multiple) []) (k_monomial_divides : Kn e "monomial_divides" 5 2 (fn2 m_monomial_divides) []) (k_need_order : Kn e "need_order" 6 2 (fn2 m_need_order) []) {f fb ca P : Addr} {fd fdb : FuncData} (F : FunD e.K "law" "law" (defArgs (top 65)) (defBody (top 65)) (defScope (top 65)) [] [] f fd) (hca : fd.code = .ref ca)
    (hT1 : LamX.TabB e.base e.mg ca P) (hT2 : (P, ("law" ++ ".<locals>." : Str) ++ "<lambda>") ∈ e.T) (hT3 : ∀ p ∈ e.T, p.1 = P → p.2 = ("law" ++ ".<locals>." : Str) ++ "<lambda>")
    (Fb : FunD e.K "_law_begun" "_law_begun" (defArgs (top 44)) (defBody (top 44)) (defScope (top 44)) [] [] fb fdb) (hmb : e.mg "_law_begun" = some (.ref fb)) (k__law_folded : Kn e "_law_folded" 1 1 (fg1 m__law_folded) []) :
    FnOk e.P e.w e.K e.mg e.base (L2.CX e.P e.w) 11 f fd ["script"] (spLaw e.K e.T) := by
  obtain ⟨oc, od, dV, kV, doc, pm, an, cdv, ct, osl, rfl, lk, hcd, _, _⟩ := F.ex
  have hca : cdv = .ref ca := hca
  subst hca
  refine fn_of lk hcd sc_law (fun vs H Q E h => ?_) fun A outer s H vs Q E hr h => ?_
  · obtain ⟨sc, a, rfl, _⟩ := h
    rfl
  · obtain ⟨sc, a, rfl, hd, hp, ht, hq⟩ := h
    have hX : (cOfL e ["script", "m", "turn", "odd", "told", "due", "count", "order"] (defScope (top 65)) 10 E "law" ca).Has (cxOf (L2.CX e.P e.w) e.P e.w e.K e.mg e.base ["script", "m", "turn", "odd", "told", "due", "count", "order"] "law" (defScope (top 65)) f (.ref ca) A outer s H E) := ⟨rfl, rfl, rfl, rfl, rfl, rfl, sc_law.nd, rfl, hr, rfl, passes_of rfl, takes_of rfl rfl rfl rfl, (fun _ _ => rfl), fun q h => (by have h : some (("law" : Str) ++ ".<locals>.", ca) = some q := h; cases h; exact ⟨rfl, rfl⟩)⟩
    have co : Co e.T ⟨H, [], none⟩ ⟨[], [], 0⟩ H [] := ⟨fun a h => h, fun a ha hb => absurd ha hb, .refl, trivial, (fun b z => nomatch (show b ∈ ([] : List Addr) from z)), (fun b z => nomatch (show b ∈ ([] : List Addr) from z)), ht⟩
    have har : ArAll e.K none [] H [.giv sc] [.ref a] := ⟨_, [], rfl, ⟨a, rfl, hd⟩, rfl⟩
    have st : St (cOfL e ["script", "m", "turn", "odd", "told", "due", "count", "order"] (defScope (top 65)) 10 E "law" ca) ⟨H, [], none⟩ (slots [.giv sc] 8) ⟨[], [], 0⟩ (L2.start ["script", "m", "turn", "odd", "told", "due", "count", "order"] [.ref a]) H [] := by
      refine ⟨co, rfl, fun i s e => ?_, fun i j ds es a e1 => absurd e1 slots_own⟩
      unfold slots at e
      unfold L2.start
      exact start_sl (B := ⟨H, [], none⟩) (N := ["script", "m", "turn", "odd", "told", "due", "count", "order"]) _ i s har e
    have key : WSs (cOfL e ["script", "m", "turn", "odd", "told", "due", "count", "order"] (defScope (top 65)) 10 E "law" ca) (defBody (top 65)) { nx := fun _ H' => Q .non H', rt := Q } (L2.start ["script", "m", "turn", "odd", "told", "due", "count", "order"] [.ref a]) H :=
      wb_first (n := 6) (fn__law_begun bi k__law_folded Fb) hmb Fb.kp (Fb.bindsN fun _ _ _ _ _ _ us hl => match us, hl with | [_], _ => rfl) hp st (fun am ag ac H' nx st' => by
        refine b_law bi h_heard (fun _ => ⟨_, ca, P, rfl, hT1, hT2, hT3⟩) k__law_below_right k__law_draw k__law_like k__law_of k__law_orders_right k__law_some_order k_greatest_divisor k_is_below k_least_multiple k_monomial_divides k_need_order E .none ⟨H', [am, ag, ac], some (am, ag, ac)⟩ (first sc) _ H' [am, ag, ac] _ (fun d _ => d = .bool true) (fun _ _ _ _ => False) st' (law_acc sc hp) (fun d S1 v H1 hd _ hv => ?_) (fun _ _ _ _ _ _ _ _ h => h.elim) (fun Γ' m' S1 σ' H1 os' hm _ _ q => ?_)
        · subst hd
          cases hv
          exact hq H1
        · have hm : m' = pure .none := hm
          subst hm
          cases (show PyData.none = PyData.bool true from q))
        (by first | exact Nat.le_of_ble_eq_true rfl | exact Nat.le_refl _) rfl (by decide) rfl (.inl rfl) (by decide) (by decide) rfl (by first | exact .inl rfl | exact .inr rfl) (.inl rfl) (by intro _ _; rfl)
    obtain ⟨t, ht', hh⟩ := key
    exact ⟨t, ht' _ hX, hh⟩
theorem all_law {e : Wd} (bi : Bi e) (h_heard : ∃ L, HeardOk e "_law_heard" L ∧ L.map Hrd.key = hdsK) (h_MOST_EXPONENT : Glo e "MOST_EXPONENT" g_MOST_EXPONENT) (h_MOST_ROWS : Glo e "MOST_ROWS" g_MOST_ROWS) (h_MOST_VARIABLES : Glo e "MOST_VARIABLES" g_MOST_VARIABLES) (h_MOST_WEIGHT : Glo e "MOST_WEIGHT" g_MOST_WEIGHT) (h_NONE : Glo e "NONE" g_NONE) (x_BadMonomial : Xc e "BadMonomial" "value") (x_BadNumber : Xc e "BadNumber" "value") (x_BadOrder : Xc e "BadOrder" "place") (x_Unalike : Xc e "Unalike" "place")
    (hF_is_whole : FnD e "is_whole" (top 7) [.non, .non])
    (hF_is_row : FnD e "is_row" (top 8) [.non])
    (hF_are_wholes : FnD e "are_wholes" (top 9) [.non, .non])
    (hF_gcd : FnD e "gcd" (top 10) [])
    (hF_need_monomial : FnD e "need_monomial" (top 14) [])
    (hF_need_count : FnD e "need_count" (top 15) [])
    (hF_divides : FnD e "divides" (top 16) [])
    (hF_multiple_of : FnD e "multiple_of" (top 17) [])
    (hF_divisor_of : FnD e "divisor_of" (top 18) [])
    (hF_need_two : FnD e "need_two" (top 19) [])
    (hF_monomial_divides : FnD e "monomial_divides" (top 20) [])
    (hF_least_multiple : FnD e "least_multiple" (top 21) [])
    (hF_greatest_divisor : FnD e "greatest_divisor" (top 22) [])
    (hF_ratio : FnD e "ratio" (top 25) [])
    (hF_ratio_minus : FnD e "ratio_minus" (top 26) [])
    (hF_ratio_times : FnD e "ratio_times" (top 27) [])
    (hF_ratio_over : FnD e "ratio_over" (top 28) [])
    (hF_rank_of : FnD e "rank_of" (top 32) [])
    (hF_first_above : FnD e "first_above" (top 33) [])
    (hF_are_weights : FnD e "are_weights" (top 34) [])
    (hF_order_fault : FnD e "order_fault" (top 35) [])
    (hF_need_order : FnD e "need_order" (top 36) [])
    (hF_by_degree : FnD e "by_degree" (top 37) [])
    (hF_key_of : FnD e "key_of" (top 38) [])
    (hF_is_below : FnD e "is_below" (top 39) [])
    (hF__law_mixed : FnD e "_law_mixed" (top 41) [])
    (hF__law_folded : FnD e "_law_folded" (top 42) [])
    (hF__law_draw : FnD e "_law_draw" (top 43) [])
    (hF__law_of : FnD e "_law_of" (top 45) [])
    (hF__law_like : FnD e "_law_like" (top 46) [])
    (hF__law_order : FnD e "_law_order" (top 47) [])
    (hF__law_common : FnD e "_law_common" (top 48) [])
    (hF__law_ratio : FnD e "_law_ratio" (top 49) [])
    (hF__law_times : FnD e "_law_times" (top 50) [])
    (hF__law_over : FnD e "_law_over" (top 51) [])
    (hF__law_minus : FnD e "_law_minus" (top 52) [])
    (hF__law_monomial : FnD e "_law_monomial" (top 53) [])
    (hF__law_key : FnD e "_law_key" (top 54) [])
    (hF__law_divides : FnD e "_law_divides" (top 55) [])
    (hF__law_some_order : FnD e "_law_some_order" (top 56) [])
    (hF__law_rank : FnD e "_law_rank" (top 57) [])
    (hF__law_is_within : FnD e "_law_is_within" (top 58) [])
    (hF__law_due : FnD e "_law_due" (top 59) [])
    (hF__law_some_rows : FnD e "_law_some_rows" (top 61) [])
    (hF__law_values : FnD e "_law_values" (top 62) [])
    (hF__law_orders_right : LamD e "_law_orders_right" (top 63))
    (hF__law_below_right : FnD e "_law_below_right" (top 64) []) {f fb ca P : Addr} {fd fdb : FuncData} (F : FunD e.K "law" "law" (defArgs (top 65)) (defBody (top 65)) (defScope (top 65)) [] [] f fd) (hca : fd.code = .ref ca)
    (hT1 : LamX.TabB e.base e.mg ca P) (hT2 : (P, ("law" ++ ".<locals>." : Str) ++ "<lambda>") ∈ e.T) (hT3 : ∀ p ∈ e.T, p.1 = P → p.2 = ("law" ++ ".<locals>." : Str) ++ "<lambda>")
    (Fb : FunD e.K "_law_begun" "_law_begun" (defArgs (top 44)) (defBody (top 44)) (defScope (top 44)) [] [] fb fdb) (hmb : e.mg "_law_begun" = some (.ref fb)) :
    FnOk e.P e.w e.K e.mg e.base (L2.CX e.P e.w) 11 f fd ["script"] (spLaw e.K e.T) := by
  have k_is_whole := kn_is_whole bi hF_is_whole
  have k_is_row_d1 := kn_is_row_d1 bi hF_is_row
  have k_are_wholes := kn_are_wholes bi k_is_row_d1 k_is_whole hF_are_wholes
  have k_gcd := kn_gcd bi hF_gcd
  have k_need_monomial := kn_need_monomial bi k_are_wholes x_BadMonomial h_MOST_EXPONENT h_MOST_VARIABLES hF_need_monomial
  have k_need_count := kn_need_count bi k_is_whole x_BadNumber h_MOST_VARIABLES hF_need_count
  have k_divides := kn_divides bi hF_divides
  have k_multiple_of := kn_multiple_of bi hF_multiple_of
  have k_divisor_of := kn_divisor_of bi hF_divisor_of
  have k_need_two := kn_need_two bi k_need_monomial x_Unalike hF_need_two
  have k_monomial_divides := kn_monomial_divides bi k_divides k_need_two hF_monomial_divides
  have kk_monomial_divides_other_monomial := knk_monomial_divides_other_monomial bi k_divides k_need_two hF_monomial_divides
  have k_least_multiple := kn_least_multiple bi k_multiple_of k_need_two hF_least_multiple
  have kk_least_multiple_other_monomial := knk_least_multiple_other_monomial bi k_multiple_of k_need_two hF_least_multiple
  have k_greatest_divisor := kn_greatest_divisor bi k_divisor_of k_need_two hF_greatest_divisor
  have kk_greatest_divisor_monomial_other := knk_greatest_divisor_monomial_other bi k_divisor_of k_need_two hF_greatest_divisor
  have k_ratio := kn_ratio bi k_gcd hF_ratio
  have k_ratio_minus := kn_ratio_minus bi k_ratio hF_ratio_minus
  have k_ratio_times := kn_ratio_times bi k_ratio hF_ratio_times
  have k_ratio_over := kn_ratio_over bi k_ratio hF_ratio_over
  have k_rank_of := kn_rank_of bi k_ratio k_ratio_minus k_ratio_over k_ratio_times h_NONE hF_rank_of
  have k_first_above := kn_first_above bi hF_first_above
  have k_are_weights := kn_are_weights bi k_are_wholes k_is_row_d1 h_MOST_ROWS h_MOST_WEIGHT hF_are_weights
  have k_order_fault := kn_order_fault bi k_are_weights k_first_above k_is_row_d1 k_is_whole k_rank_of hF_order_fault
  have k_need_order := kn_need_order bi k_need_count k_order_fault x_BadOrder hF_need_order
  have kk_need_order_order_number := knk_need_order_order_number bi k_need_count k_order_fault x_BadOrder hF_need_order
  have k_by_degree := kn_by_degree bi hF_by_degree
  have k_key_of := kn_key_of bi k_by_degree hF_key_of
  have k_is_below := kn_is_below bi k_key_of k_need_order k_need_two hF_is_below
  have kk_is_below_order_other_monomial := knk_is_below_order_other_monomial bi k_key_of k_need_order k_need_two hF_is_below
  have k__law_mixed := kn__law_mixed bi hF__law_mixed
  have k__law_folded := kn__law_folded bi hF__law_folded
  have k__law_draw := kn__law_draw bi k__law_mixed hF__law_draw
  have k__law_of := kn__law_of bi k__law_draw hF__law_of
  have k__law_like := kn__law_like bi hF__law_like
  have k__law_order := kn__law_order bi k__law_draw hF__law_order
  have k__law_common := kn__law_common bi hF__law_common
  have k__law_ratio := kn__law_ratio bi k__law_common hF__law_ratio
  have k__law_times := kn__law_times bi k__law_ratio hF__law_times
  have k__law_over := kn__law_over bi k__law_ratio hF__law_over
  have k__law_minus := kn__law_minus bi k__law_ratio hF__law_minus
  have k__law_monomial := kn__law_monomial bi k__law_draw hF__law_monomial
  have k__law_key := kn__law_key bi hF__law_key
  have k__law_divides := kn__law_divides bi hF__law_divides
  have k__law_some_order := kn__law_some_order bi k__law_draw k__law_order hF__law_some_order
  have k__law_rank := kn__law_rank bi k__law_minus k__law_over k__law_times hF__law_rank
  have k__law_is_within := kn__law_is_within bi hF__law_is_within
  have k__law_due := kn__law_due bi k__law_is_within k__law_rank hF__law_due
  have k__law_some_rows := kn__law_some_rows bi k__law_draw k__law_of hF__law_some_rows
  have k__law_values := kn__law_values bi k__law_draw k__law_of k__law_some_order k__law_some_rows hF__law_values
  have k__law_orders_right := kn__law_orders_right bi h_heard k__law_due k__law_like k__law_values kk_need_order_order_number hF__law_orders_right
  have k__law_below_right := kn__law_below_right bi k__law_divides k__law_key k__law_like k__law_monomial k__law_of k_is_below kk_greatest_divisor_monomial_other kk_is_below_order_other_monomial kk_least_multiple_other_monomial kk_monomial_divides_other_monomial hF__law_below_right
  exact fn_law bi h_heard k__law_below_right k__law_draw k__law_like k__law_of k__law_orders_right k__law_some_order k_greatest_divisor k_is_below k_least_multiple k_monomial_divides k_need_order F hca hT1 hT2 hT3 Fb hmb k__law_folded
end DL
namespace DL
open PySem PySem.Spec PyProof.Rows L2
def clsFn : Stmt → Stmt
  | .ClassDef _ _ _ body _ _ _ _ _ _ _ => body.getD 0 (.Pass ⟨0, 0, 0, 0⟩)
  | s => s
def er_BadMonomial : ErrD := ⟨"BadMonomial", "value", clsFn (top 2)⟩
theorem et_BadMonomial : ErrTxt er_BadMonomial := ⟨⟨⟨_, rfl, rfl⟩, rfl, rfl, rfl, by decide +kernel, rfl, rfl, rfl, rfl, by decide, by decide, by intros; rfl⟩, ⟨_, _, _, _, _, _, _, _, _, _, _, _, rfl, fun env => ⟨_, rfl⟩⟩⟩
def er_BadOrder : ErrD := ⟨"BadOrder", "place", clsFn (top 3)⟩
theorem et_BadOrder : ErrTxt er_BadOrder := ⟨⟨⟨_, rfl, rfl⟩, rfl, rfl, rfl, by decide +kernel, rfl, rfl, rfl, rfl, by decide, by decide, by intros; rfl⟩, ⟨_, _, _, _, _, _, _, _, _, _, _, _, rfl, fun env => ⟨_, rfl⟩⟩⟩
def er_BadNumber : ErrD := ⟨"BadNumber", "value", clsFn (top 4)⟩
theorem et_BadNumber : ErrTxt er_BadNumber := ⟨⟨⟨_, rfl, rfl⟩, rfl, rfl, rfl, by decide +kernel, rfl, rfl, rfl, rfl, by decide, by decide, by intros; rfl⟩, ⟨_, _, _, _, _, _, _, _, _, _, _, _, rfl, fun env => ⟨_, rfl⟩⟩⟩
def er_Unalike : ErrD := ⟨"Unalike", "place", clsFn (top 5)⟩
theorem et_Unalike : ErrTxt er_Unalike := ⟨⟨⟨_, rfl, rfl⟩, rfl, rfl, rfl, by decide +kernel, rfl, rfl, rfl, rfl, by decide, by decide, by intros; rfl⟩, ⟨_, _, _, _, _, _, _, _, _, _, _, _, rfl, fun env => ⟨_, rfl⟩⟩⟩
def errsK : List ErrD := [er_BadMonomial, er_BadOrder, er_BadNumber, er_Unalike]
def lamsK : List Str := ["_law_orders_right", "law"]
def defsK0 : List He.DefD := [defAt "is_whole" (top 7) 2, defAt "is_row" (top 8) 1, defAt "are_wholes" (top 9) 2, defAt "gcd" (top 10) 0, defAt "need_monomial" (top 14) 0, defAt "need_count" (top 15) 0, defAt "divides" (top 16) 0, defAt "multiple_of" (top 17) 0, defAt "divisor_of" (top 18) 0, defAt "need_two" (top 19) 0, defAt "monomial_divides" (top 20) 0, defAt "least_multiple" (top 21) 0, defAt "greatest_divisor" (top 22) 0, defAt "ratio" (top 25) 0, defAt "ratio_minus" (top 26) 0, defAt "ratio_times" (top 27) 0, defAt "ratio_over" (top 28) 0, defAt "rank_of" (top 32) 0, defAt "first_above" (top 33) 0, defAt "are_weights" (top 34) 0]
def defsK1 : List He.DefD := [defAt "order_fault" (top 35) 0, defAt "need_order" (top 36) 0, defAt "by_degree" (top 37) 0, defAt "key_of" (top 38) 0, defAt "is_below" (top 39) 0, defAt "_law_mixed" (top 41) 0, defAt "_law_folded" (top 42) 0, defAt "_law_draw" (top 43) 0, defAt "_law_begun" (top 44) 0, defAt "_law_of" (top 45) 0, defAt "_law_like" (top 46) 0, defAt "_law_order" (top 47) 0, defAt "_law_common" (top 48) 0, defAt "_law_ratio" (top 49) 0, defAt "_law_times" (top 50) 0, defAt "_law_over" (top 51) 0, defAt "_law_minus" (top 52) 0, defAt "_law_monomial" (top 53) 0, defAt "_law_key" (top 54) 0, defAt "_law_divides" (top 55) 0]
def defsK2 : List He.DefD := [defAt "_law_some_order" (top 56) 0, defAt "_law_rank" (top 57) 0, defAt "_law_is_within" (top 58) 0, defAt "_law_due" (top 59) 0, defAt "_law_heard" (top 60) 0, defAt "_law_some_rows" (top 61) 0, defAt "_law_values" (top 62) 0, defAt "_law_orders_right" (top 63) 0, defAt "_law_below_right" (top 64) 0, defAt "law" (top 65) 0]
def defsK : List He.DefD := defsK0 ++ defsK1 ++ defsK2
def facts0 : List He.Fa := [.glo "is_whole", .glo "is_row", .glo "are_wholes", .glo "gcd", .glo "need_monomial", .glo "need_count", .glo "divides", .glo "multiple_of", .glo "divisor_of", .glo "need_two", .glo "monomial_divides", .glo "least_multiple", .glo "greatest_divisor", .glo "ratio", .glo "ratio_minus", .glo "ratio_times", .glo "ratio_over", .glo "rank_of", .glo "first_above", .glo "are_weights"]
def facts1 : List He.Fa := [.glo "order_fault", .glo "need_order", .glo "by_degree", .glo "key_of", .glo "is_below", .glo "_law_mixed", .glo "_law_folded", .glo "_law_draw", .glo "_law_begun", .glo "_law_of", .glo "_law_like", .glo "_law_order", .glo "_law_common", .glo "_law_ratio", .glo "_law_times", .glo "_law_over", .glo "_law_minus", .glo "_law_monomial", .glo "_law_key", .glo "_law_divides"]
def facts2 : List He.Fa := [.glo "_law_some_order", .glo "_law_rank", .glo "_law_is_within", .glo "_law_due", .glo "_law_heard", .glo "_law_some_rows", .glo "_law_values", .glo "_law_orders_right", .glo "_law_below_right", .glo "law", .glo "NONE", .free "isinstance", .free "int", .free "bool", .free "str", .free "tuple", .free "list", .free "len", .free "all", .free "zip"]
def facts3 : List He.Fa := [.free "abs", .free "max", .free "min", .free "range", .free "sum", .free "reversed", .free "enumerate", .free "super", .int "MOST_VARIABLES" 4, .int "MOST_EXPONENT" 60, .int "MOST_WEIGHT" 100, .int "MOST_ROWS" 8, .exm "BadMonomial" "BadMonomial" true, .exm "BadMonomial" "BadOrder" false, .exm "BadMonomial" "BadNumber" false, .exm "BadMonomial" "Unalike" false, .exm "BadOrder" "BadMonomial" false, .exm "BadOrder" "BadOrder" true, .exm "BadOrder" "BadNumber" false, .exm "BadOrder" "Unalike" false]
def facts4 : List He.Fa := [.exm "BadNumber" "BadMonomial" false, .exm "BadNumber" "BadOrder" false, .exm "BadNumber" "BadNumber" true, .exm "BadNumber" "Unalike" false, .exm "Unalike" "BadMonomial" false, .exm "Unalike" "BadOrder" false, .exm "Unalike" "BadNumber" false, .exm "Unalike" "Unalike" true]
def facts : List He.Fa := facts0 ++ facts1 ++ facts2 ++ facts3 ++ facts4
def namesK0 : List Str := ["is_whole", "is_row", "are_wholes", "gcd", "need_monomial", "need_count", "divides", "multiple_of", "divisor_of", "need_two", "monomial_divides", "least_multiple", "greatest_divisor", "ratio", "ratio_minus", "ratio_times", "ratio_over", "rank_of", "first_above", "are_weights"]
def namesK1 : List Str := ["order_fault", "need_order", "by_degree", "key_of", "is_below", "_law_mixed", "_law_folded", "_law_draw", "_law_begun", "_law_of", "_law_like", "_law_order", "_law_common", "_law_ratio", "_law_times", "_law_over", "_law_minus", "_law_monomial", "_law_key", "_law_divides"]
def namesK2 : List Str := ["_law_some_order", "_law_rank", "_law_is_within", "_law_due", "_law_heard", "_law_some_rows", "_law_values", "_law_orders_right", "_law_below_right", "BadMonomial", "BadOrder", "BadNumber", "Unalike", "MakeError", "MOST_VARIABLES", "MOST_EXPONENT", "MOST_WEIGHT", "MOST_ROWS", "NONE"]
def namesK : List Str := namesK0 ++ namesK1 ++ namesK2
def exK (K : PySem.W.Frag) : Bool := true && He.tupB K "NONE" (([0, 1] : List Int).map He.Dv.int)
abbrev R : PySem.W.OpenRow := PySem.W.OpenLaw.row PySem.Challenge.rw_powermade_k01_whole_orders_and_monomials
def fileK : Str := R.prog.main.file
abbrev hk : PySem.W.Hook := hookY 4 fileK facts defsK errsK lamsK exK
def ob (s : PySem.W.SharedT) : AlY := obsY fileK facts defsK errsK lamsK exK (HandSHeadRun.getT s) (He.frT (HandSHeadRun.getT s) (asY (HandSHeadRun.getT s) 4))
theorem ob_eq (s : PySem.W.SharedT) : ob s = hk.obs s.abs := obsY_eq (HandSHeadRun.getT_eq s)
set_option maxHeartbeats 0 in
theorem run (w : World) : HandSHeadRun.RunEq R (PySem.W.view R.prog [65]) hk ob 6000 namesK w := by
  intro os
  kernel_rfl
end DL
namespace DL
open PySem PySem.Spec PyProof.Rows L2
theorem law_at {w : World} {mg : Str → Option Value} {fa : Addr} {h : Heap} {K : PySem.W.Frag} (X : K.In h) (c : SaysY fileK facts defsK errsK lamsK exK h K) (G : h.Ns mainGlobals mg) (hfa : mg ("law" : Str) = some (.ref fa)) : LamX.LawAtS PySem.Challenge.rw_powermade_k01_whole_orders_and_monomials w K (L2.CX (PySem.Challenge.rw_powermade_k01_whole_orders_and_monomials).prog w) 11 63 "script" mg fa h := by
  have f_isinstance : mg ("isinstance" : Str) = none := He.free_ok X G (c.fa (.free "isinstance") (List.mem_of_getElem? (i := 51) rfl))
  have f_int : mg ("int" : Str) = none := He.free_ok X G (c.fa (.free "int") (List.mem_of_getElem? (i := 52) rfl))
  have f_bool : mg ("bool" : Str) = none := He.free_ok X G (c.fa (.free "bool") (List.mem_of_getElem? (i := 53) rfl))
  have f_str : mg ("str" : Str) = none := He.free_ok X G (c.fa (.free "str") (List.mem_of_getElem? (i := 54) rfl))
  have f_tuple : mg ("tuple" : Str) = none := He.free_ok X G (c.fa (.free "tuple") (List.mem_of_getElem? (i := 55) rfl))
  have f_list : mg ("list" : Str) = none := He.free_ok X G (c.fa (.free "list") (List.mem_of_getElem? (i := 56) rfl))
  have f_len : mg ("len" : Str) = none := He.free_ok X G (c.fa (.free "len") (List.mem_of_getElem? (i := 57) rfl))
  have f_all : mg ("all" : Str) = none := He.free_ok X G (c.fa (.free "all") (List.mem_of_getElem? (i := 58) rfl))
  have f_zip : mg ("zip" : Str) = none := He.free_ok X G (c.fa (.free "zip") (List.mem_of_getElem? (i := 59) rfl))
  have f_abs : mg ("abs" : Str) = none := He.free_ok X G (c.fa (.free "abs") (List.mem_of_getElem? (i := 60) rfl))
  have f_max : mg ("max" : Str) = none := He.free_ok X G (c.fa (.free "max") (List.mem_of_getElem? (i := 61) rfl))
  have f_min : mg ("min" : Str) = none := He.free_ok X G (c.fa (.free "min") (List.mem_of_getElem? (i := 62) rfl))
  have f_range : mg ("range" : Str) = none := He.free_ok X G (c.fa (.free "range") (List.mem_of_getElem? (i := 63) rfl))
  have f_sum : mg ("sum" : Str) = none := He.free_ok X G (c.fa (.free "sum") (List.mem_of_getElem? (i := 64) rfl))
  have f_reversed : mg ("reversed" : Str) = none := He.free_ok X G (c.fa (.free "reversed") (List.mem_of_getElem? (i := 65) rfl))
  have f_enumerate : mg ("enumerate" : Str) = none := He.free_ok X G (c.fa (.free "enumerate") (List.mem_of_getElem? (i := 66) rfl))
  have f_super : mg ("super" : Str) = none := He.free_ok X G (c.fa (.free "super") (List.mem_of_getElem? (i := 67) rfl))
  obtain ⟨d_is_whole, F_is_whole, m_is_whole'⟩ := c.fnd (x := "is_whole") (st := top 7) (n := 2) X G (List.mem_of_getElem? (i := 0) rfl) (List.mem_of_getElem? (i := 0) rfl)
  obtain ⟨d_is_row, F_is_row, m_is_row'⟩ := c.fnd (x := "is_row") (st := top 8) (n := 1) X G (List.mem_of_getElem? (i := 1) rfl) (List.mem_of_getElem? (i := 1) rfl)
  obtain ⟨d_are_wholes, F_are_wholes, m_are_wholes'⟩ := c.fnd (x := "are_wholes") (st := top 9) (n := 2) X G (List.mem_of_getElem? (i := 2) rfl) (List.mem_of_getElem? (i := 2) rfl)
  obtain ⟨d_gcd, F_gcd, m_gcd'⟩ := c.fnd (x := "gcd") (st := top 10) (n := 0) X G (List.mem_of_getElem? (i := 3) rfl) (List.mem_of_getElem? (i := 3) rfl)
  obtain ⟨d_need_monomial, F_need_monomial, m_need_monomial'⟩ := c.fnd (x := "need_monomial") (st := top 14) (n := 0) X G (List.mem_of_getElem? (i := 4) rfl) (List.mem_of_getElem? (i := 4) rfl)
  obtain ⟨d_need_count, F_need_count, m_need_count'⟩ := c.fnd (x := "need_count") (st := top 15) (n := 0) X G (List.mem_of_getElem? (i := 5) rfl) (List.mem_of_getElem? (i := 5) rfl)
  obtain ⟨d_divides, F_divides, m_divides'⟩ := c.fnd (x := "divides") (st := top 16) (n := 0) X G (List.mem_of_getElem? (i := 6) rfl) (List.mem_of_getElem? (i := 6) rfl)
  obtain ⟨d_multiple_of, F_multiple_of, m_multiple_of'⟩ := c.fnd (x := "multiple_of") (st := top 17) (n := 0) X G (List.mem_of_getElem? (i := 7) rfl) (List.mem_of_getElem? (i := 7) rfl)
  obtain ⟨d_divisor_of, F_divisor_of, m_divisor_of'⟩ := c.fnd (x := "divisor_of") (st := top 18) (n := 0) X G (List.mem_of_getElem? (i := 8) rfl) (List.mem_of_getElem? (i := 8) rfl)
  obtain ⟨d_need_two, F_need_two, m_need_two'⟩ := c.fnd (x := "need_two") (st := top 19) (n := 0) X G (List.mem_of_getElem? (i := 9) rfl) (List.mem_of_getElem? (i := 9) rfl)
  obtain ⟨d_monomial_divides, F_monomial_divides, m_monomial_divides'⟩ := c.fnd (x := "monomial_divides") (st := top 20) (n := 0) X G (List.mem_of_getElem? (i := 10) rfl) (List.mem_of_getElem? (i := 10) rfl)
  obtain ⟨d_least_multiple, F_least_multiple, m_least_multiple'⟩ := c.fnd (x := "least_multiple") (st := top 21) (n := 0) X G (List.mem_of_getElem? (i := 11) rfl) (List.mem_of_getElem? (i := 11) rfl)
  obtain ⟨d_greatest_divisor, F_greatest_divisor, m_greatest_divisor'⟩ := c.fnd (x := "greatest_divisor") (st := top 22) (n := 0) X G (List.mem_of_getElem? (i := 12) rfl) (List.mem_of_getElem? (i := 12) rfl)
  obtain ⟨d_ratio, F_ratio, m_ratio'⟩ := c.fnd (x := "ratio") (st := top 25) (n := 0) X G (List.mem_of_getElem? (i := 13) rfl) (List.mem_of_getElem? (i := 13) rfl)
  obtain ⟨d_ratio_minus, F_ratio_minus, m_ratio_minus'⟩ := c.fnd (x := "ratio_minus") (st := top 26) (n := 0) X G (List.mem_of_getElem? (i := 14) rfl) (List.mem_of_getElem? (i := 14) rfl)
  obtain ⟨d_ratio_times, F_ratio_times, m_ratio_times'⟩ := c.fnd (x := "ratio_times") (st := top 27) (n := 0) X G (List.mem_of_getElem? (i := 15) rfl) (List.mem_of_getElem? (i := 15) rfl)
  obtain ⟨d_ratio_over, F_ratio_over, m_ratio_over'⟩ := c.fnd (x := "ratio_over") (st := top 28) (n := 0) X G (List.mem_of_getElem? (i := 16) rfl) (List.mem_of_getElem? (i := 16) rfl)
  obtain ⟨d_rank_of, F_rank_of, m_rank_of'⟩ := c.fnd (x := "rank_of") (st := top 32) (n := 0) X G (List.mem_of_getElem? (i := 17) rfl) (List.mem_of_getElem? (i := 17) rfl)
  obtain ⟨d_first_above, F_first_above, m_first_above'⟩ := c.fnd (x := "first_above") (st := top 33) (n := 0) X G (List.mem_of_getElem? (i := 18) rfl) (List.mem_of_getElem? (i := 18) rfl)
  obtain ⟨d_are_weights, F_are_weights, m_are_weights'⟩ := c.fnd (x := "are_weights") (st := top 34) (n := 0) X G (List.mem_of_getElem? (i := 19) rfl) (List.mem_of_getElem? (i := 19) rfl)
  obtain ⟨d_order_fault, F_order_fault, m_order_fault'⟩ := c.fnd (x := "order_fault") (st := top 35) (n := 0) X G (List.mem_of_getElem? (i := 20) rfl) (List.mem_of_getElem? (i := 20) rfl)
  obtain ⟨d_need_order, F_need_order, m_need_order'⟩ := c.fnd (x := "need_order") (st := top 36) (n := 0) X G (List.mem_of_getElem? (i := 21) rfl) (List.mem_of_getElem? (i := 21) rfl)
  obtain ⟨d_by_degree, F_by_degree, m_by_degree'⟩ := c.fnd (x := "by_degree") (st := top 37) (n := 0) X G (List.mem_of_getElem? (i := 22) rfl) (List.mem_of_getElem? (i := 22) rfl)
  obtain ⟨d_key_of, F_key_of, m_key_of'⟩ := c.fnd (x := "key_of") (st := top 38) (n := 0) X G (List.mem_of_getElem? (i := 23) rfl) (List.mem_of_getElem? (i := 23) rfl)
  obtain ⟨d_is_below, F_is_below, m_is_below'⟩ := c.fnd (x := "is_below") (st := top 39) (n := 0) X G (List.mem_of_getElem? (i := 24) rfl) (List.mem_of_getElem? (i := 24) rfl)
  obtain ⟨d__law_mixed, F__law_mixed, m__law_mixed'⟩ := c.fnd (x := "_law_mixed") (st := top 41) (n := 0) X G (List.mem_of_getElem? (i := 25) rfl) (List.mem_of_getElem? (i := 25) rfl)
  obtain ⟨d__law_folded, F__law_folded, m__law_folded'⟩ := c.fnd (x := "_law_folded") (st := top 42) (n := 0) X G (List.mem_of_getElem? (i := 26) rfl) (List.mem_of_getElem? (i := 26) rfl)
  obtain ⟨d__law_draw, F__law_draw, m__law_draw'⟩ := c.fnd (x := "_law_draw") (st := top 43) (n := 0) X G (List.mem_of_getElem? (i := 27) rfl) (List.mem_of_getElem? (i := 27) rfl)
  obtain ⟨d__law_begun, F__law_begun, m__law_begun'⟩ := c.fnd (x := "_law_begun") (st := top 44) (n := 0) X G (List.mem_of_getElem? (i := 28) rfl) (List.mem_of_getElem? (i := 28) rfl)
  obtain ⟨d__law_of, F__law_of, m__law_of'⟩ := c.fnd (x := "_law_of") (st := top 45) (n := 0) X G (List.mem_of_getElem? (i := 29) rfl) (List.mem_of_getElem? (i := 29) rfl)
  obtain ⟨d__law_like, F__law_like, m__law_like'⟩ := c.fnd (x := "_law_like") (st := top 46) (n := 0) X G (List.mem_of_getElem? (i := 30) rfl) (List.mem_of_getElem? (i := 30) rfl)
  obtain ⟨d__law_order, F__law_order, m__law_order'⟩ := c.fnd (x := "_law_order") (st := top 47) (n := 0) X G (List.mem_of_getElem? (i := 31) rfl) (List.mem_of_getElem? (i := 31) rfl)
  obtain ⟨d__law_common, F__law_common, m__law_common'⟩ := c.fnd (x := "_law_common") (st := top 48) (n := 0) X G (List.mem_of_getElem? (i := 32) rfl) (List.mem_of_getElem? (i := 32) rfl)
  obtain ⟨d__law_ratio, F__law_ratio, m__law_ratio'⟩ := c.fnd (x := "_law_ratio") (st := top 49) (n := 0) X G (List.mem_of_getElem? (i := 33) rfl) (List.mem_of_getElem? (i := 33) rfl)
  obtain ⟨d__law_times, F__law_times, m__law_times'⟩ := c.fnd (x := "_law_times") (st := top 50) (n := 0) X G (List.mem_of_getElem? (i := 34) rfl) (List.mem_of_getElem? (i := 34) rfl)
  obtain ⟨d__law_over, F__law_over, m__law_over'⟩ := c.fnd (x := "_law_over") (st := top 51) (n := 0) X G (List.mem_of_getElem? (i := 35) rfl) (List.mem_of_getElem? (i := 35) rfl)
  obtain ⟨d__law_minus, F__law_minus, m__law_minus'⟩ := c.fnd (x := "_law_minus") (st := top 52) (n := 0) X G (List.mem_of_getElem? (i := 36) rfl) (List.mem_of_getElem? (i := 36) rfl)
  obtain ⟨d__law_monomial, F__law_monomial, m__law_monomial'⟩ := c.fnd (x := "_law_monomial") (st := top 53) (n := 0) X G (List.mem_of_getElem? (i := 37) rfl) (List.mem_of_getElem? (i := 37) rfl)
  obtain ⟨d__law_key, F__law_key, m__law_key'⟩ := c.fnd (x := "_law_key") (st := top 54) (n := 0) X G (List.mem_of_getElem? (i := 38) rfl) (List.mem_of_getElem? (i := 38) rfl)
  obtain ⟨d__law_divides, F__law_divides, m__law_divides'⟩ := c.fnd (x := "_law_divides") (st := top 55) (n := 0) X G (List.mem_of_getElem? (i := 39) rfl) (List.mem_of_getElem? (i := 39) rfl)
  obtain ⟨d__law_some_order, F__law_some_order, m__law_some_order'⟩ := c.fnd (x := "_law_some_order") (st := top 56) (n := 0) X G (List.mem_of_getElem? (i := 40) rfl) (List.mem_of_getElem? (i := 40) rfl)
  obtain ⟨d__law_rank, F__law_rank, m__law_rank'⟩ := c.fnd (x := "_law_rank") (st := top 57) (n := 0) X G (List.mem_of_getElem? (i := 41) rfl) (List.mem_of_getElem? (i := 41) rfl)
  obtain ⟨d__law_is_within, F__law_is_within, m__law_is_within'⟩ := c.fnd (x := "_law_is_within") (st := top 58) (n := 0) X G (List.mem_of_getElem? (i := 42) rfl) (List.mem_of_getElem? (i := 42) rfl)
  obtain ⟨d__law_due, F__law_due, m__law_due'⟩ := c.fnd (x := "_law_due") (st := top 59) (n := 0) X G (List.mem_of_getElem? (i := 43) rfl) (List.mem_of_getElem? (i := 43) rfl)
  obtain ⟨d__law_heard, F__law_heard, m__law_heard'⟩ := c.fnd (x := "_law_heard") (st := top 60) (n := 0) X G (List.mem_of_getElem? (i := 44) rfl) (List.mem_of_getElem? (i := 44) rfl)
  obtain ⟨d__law_some_rows, F__law_some_rows, m__law_some_rows'⟩ := c.fnd (x := "_law_some_rows") (st := top 61) (n := 0) X G (List.mem_of_getElem? (i := 45) rfl) (List.mem_of_getElem? (i := 45) rfl)
  obtain ⟨d__law_values, F__law_values, m__law_values'⟩ := c.fnd (x := "_law_values") (st := top 62) (n := 0) X G (List.mem_of_getElem? (i := 46) rfl) (List.mem_of_getElem? (i := 46) rfl)
  obtain ⟨d__law_orders_right, F__law_orders_right, m__law_orders_right'⟩ := c.fnd (x := "_law_orders_right") (st := top 63) (n := 0) X G (List.mem_of_getElem? (i := 47) rfl) (List.mem_of_getElem? (i := 47) rfl)
  obtain ⟨d__law_below_right, F__law_below_right, m__law_below_right'⟩ := c.fnd (x := "_law_below_right") (st := top 64) (n := 0) X G (List.mem_of_getElem? (i := 48) rfl) (List.mem_of_getElem? (i := 48) rfl)
  obtain ⟨d_law, F_law, m_law'⟩ := c.fnd (x := "law") (st := top 65) (n := 0) X G (List.mem_of_getElem? (i := 49) rfl) (List.mem_of_getElem? (i := 49) rfl)
  have efa : fa = He.ga K "law" := by
    have z := hfa.symm.trans m_law'
    cases z
    rfl
  subst efa
  have o_BadMonomial : PySem.OwnE.OwnTxt (PySem.Challenge.rw_powermade_k01_whole_orders_and_monomials).prog K mg "BadMonomial" "value" (He.ga K "BadMonomial") (errF K "BadMonomial") := err_own (d := er_BadMonomial) X G (c.es er_BadMonomial (by simp [errsK])).2 (c.es er_BadMonomial (by simp [errsK])).1 f_super (by kernel_rfl) et_BadMonomial
  have o_BadOrder : PySem.OwnE.OwnTxt (PySem.Challenge.rw_powermade_k01_whole_orders_and_monomials).prog K mg "BadOrder" "place" (He.ga K "BadOrder") (errF K "BadOrder") := err_own (d := er_BadOrder) X G (c.es er_BadOrder (by simp [errsK])).2 (c.es er_BadOrder (by simp [errsK])).1 f_super (by kernel_rfl) et_BadOrder
  have o_BadNumber : PySem.OwnE.OwnTxt (PySem.Challenge.rw_powermade_k01_whole_orders_and_monomials).prog K mg "BadNumber" "value" (He.ga K "BadNumber") (errF K "BadNumber") := err_own (d := er_BadNumber) X G (c.es er_BadNumber (by simp [errsK])).2 (c.es er_BadNumber (by simp [errsK])).1 f_super (by kernel_rfl) et_BadNumber
  have o_Unalike : PySem.OwnE.OwnTxt (PySem.Challenge.rw_powermade_k01_whole_orders_and_monomials).prog K mg "Unalike" "place" (He.ga K "Unalike") (errF K "Unalike") := err_own (d := er_Unalike) X G (c.es er_Unalike (by simp [errsK])).2 (c.es er_Unalike (by simp [errsK])).1 f_super (by kernel_rfl) et_Unalike
  have x_BadMonomial_BadMonomial := He.exm_ok (c.fa (.exm "BadMonomial" "BadMonomial" true) (List.mem_of_getElem? (i := 72) rfl))
  have x_BadMonomial_BadOrder := He.exm_ok (c.fa (.exm "BadMonomial" "BadOrder" false) (List.mem_of_getElem? (i := 73) rfl))
  have x_BadMonomial_BadNumber := He.exm_ok (c.fa (.exm "BadMonomial" "BadNumber" false) (List.mem_of_getElem? (i := 74) rfl))
  have x_BadMonomial_Unalike := He.exm_ok (c.fa (.exm "BadMonomial" "Unalike" false) (List.mem_of_getElem? (i := 75) rfl))
  have x_BadOrder_BadMonomial := He.exm_ok (c.fa (.exm "BadOrder" "BadMonomial" false) (List.mem_of_getElem? (i := 76) rfl))
  have x_BadOrder_BadOrder := He.exm_ok (c.fa (.exm "BadOrder" "BadOrder" true) (List.mem_of_getElem? (i := 77) rfl))
  have x_BadOrder_BadNumber := He.exm_ok (c.fa (.exm "BadOrder" "BadNumber" false) (List.mem_of_getElem? (i := 78) rfl))
  have x_BadOrder_Unalike := He.exm_ok (c.fa (.exm "BadOrder" "Unalike" false) (List.mem_of_getElem? (i := 79) rfl))
  have x_BadNumber_BadMonomial := He.exm_ok (c.fa (.exm "BadNumber" "BadMonomial" false) (List.mem_of_getElem? (i := 80) rfl))
  have x_BadNumber_BadOrder := He.exm_ok (c.fa (.exm "BadNumber" "BadOrder" false) (List.mem_of_getElem? (i := 81) rfl))
  have x_BadNumber_BadNumber := He.exm_ok (c.fa (.exm "BadNumber" "BadNumber" true) (List.mem_of_getElem? (i := 82) rfl))
  have x_BadNumber_Unalike := He.exm_ok (c.fa (.exm "BadNumber" "Unalike" false) (List.mem_of_getElem? (i := 83) rfl))
  have x_Unalike_BadMonomial := He.exm_ok (c.fa (.exm "Unalike" "BadMonomial" false) (List.mem_of_getElem? (i := 84) rfl))
  have x_Unalike_BadOrder := He.exm_ok (c.fa (.exm "Unalike" "BadOrder" false) (List.mem_of_getElem? (i := 85) rfl))
  have x_Unalike_BadNumber := He.exm_ok (c.fa (.exm "Unalike" "BadNumber" false) (List.mem_of_getElem? (i := 86) rfl))
  have x_Unalike_Unalike := He.exm_ok (c.fa (.exm "Unalike" "Unalike" true) (List.mem_of_getElem? (i := 87) rfl))
  refine ⟨d_law, lamsK.map fun x => He.cT K (x, none), spLaw K (tabsOf K lamsK), fun p hp => ?_, fun p hp => ?_, fun p hp => ?_, ?_, fun H a ns hl hb hT hS => ?_, fun base KB GB TB => ?_⟩
  · obtain ⟨x, hx, rfl⟩ := List.mem_map.mp hp
    exact c.empty x hx
  · obtain ⟨x, hx, rfl⟩ := List.mem_map.mp hp
    exact c.out x hx
  · obtain ⟨x, hx, rfl⟩ := List.mem_map.mp hp
    exact PySem.W.codeHd_of_K X (c.hd x hx)
  · have b := FunD.bindsA (ps := ["script"]) F_law fun _ _ _ _ _ _ us hl => match us, hl with | [_], _ => rfl
    exact fun s v => b s [v] rfl
  · exact ⟨ns, a, rfl, sqL_frz hS, hl, tabs_nil hT, fun _ => rfl⟩
  · have bi : Bi (⟨(PySem.Challenge.rw_powermade_k01_whole_orders_and_monomials).prog, w, K, mg, base, tabsOf K lamsK⟩ : Wd) := ⟨f_isinstance, f_int, f_bool, f_str, f_tuple, f_list, f_len, f_all, f_zip, f_abs, f_max, f_min, f_range, f_sum, f_reversed, f_enumerate⟩
    have tb : ∀ x ∈ lamsK, LamX.TabB base mg (He.cT K (x, none)).1 (He.cT K (x, none)).2 := fun x hx => TB _ (List.mem_map.mpr ⟨x, hx, rfl⟩)
    have hh : ∃ L, HeardOk (⟨(PySem.Challenge.rw_powermade_k01_whole_orders_and_monomials).prog, w, K, mg, base, tabsOf K lamsK⟩ : Wd) "_law_heard" L ∧ L.map Hrd.key = hdsK := by
      refine ⟨[⟨"BadOrder", "place", "order", He.ga K "BadOrder"⟩, ⟨"BadMonomial", "value", "monomial", He.ga K "BadMonomial"⟩, ⟨"BadNumber", "value", "number", He.ga K "BadNumber"⟩, ⟨"Unalike", "place", "unalike", He.ga K "Unalike"⟩], ?_, rfl⟩
      refine heardOk_of (told := "told") (a := "call") (er := "e") (by exact F__law_heard) m__law_heard' ⟨rfl, rfl, rfl, by decide +kernel, rfl, by decide +kernel, by decide +kernel⟩ (F__law_heard.bindsN fun _ _ _ _ _ _ us hl => match us, hl with | [_], _ => rfl) (.inl rfl) rfl rfl rfl (by decide) (by decide) (by decide) (by decide) (by decide) (by decide) (fun _ _ _ => rfl) ?_ ?_ ?_ ?_ ?_
      · exact .cons (q := ⟨"BadOrder", "place", "order", He.ga K "BadOrder"⟩) (.cons (q := ⟨"BadMonomial", "value", "monomial", He.ga K "BadMonomial"⟩) (.cons (q := ⟨"BadNumber", "value", "number", He.ga K "BadNumber"⟩) (.cons (q := ⟨"Unalike", "place", "unalike", He.ga K "Unalike"⟩) .nil)))
      · intro q hq
        simp only [List.mem_cons, List.not_mem_nil, or_false] at hq
        rcases hq with rfl | rfl | rfl | rfl
        · exact ⟨⟨_, o_BadOrder⟩, rfl, (show (("BadOrder" : Str) == "__debug__") = false by decide)⟩
        · exact ⟨⟨_, o_BadMonomial⟩, rfl, (show (("BadMonomial" : Str) == "__debug__") = false by decide)⟩
        · exact ⟨⟨_, o_BadNumber⟩, rfl, (show (("BadNumber" : Str) == "__debug__") = false by decide)⟩
        · exact ⟨⟨_, o_Unalike⟩, rfl, (show (("Unalike" : Str) == "__debug__") = false by decide)⟩
      · intro q1 h1 q2 h2
        simp only [List.mem_cons, List.not_mem_nil, or_false] at h1 h2
        have ne : ∀ {a b : Addr}, PySem.W.exmOne K (.ref a) (.ref b) = some false → PySem.W.exmOne K (.ref a) (.ref a) = some true → PySem.W.exmOne K (.ref a) (.ref b) = some (decide (a = b)) := fun {a b} e1 e2 => by
          by_cases z : a = b
          · subst z; rw [e1] at e2; cases e2
          · rw [e1, decide_eq_false z]
        have eq_ : ∀ {a : Addr}, PySem.W.exmOne K (.ref a) (.ref a) = some true → PySem.W.exmOne K (.ref a) (.ref a) = some (decide (a = a)) := fun {a} e => by rw [e, decide_eq_true rfl]
        rcases h1 with rfl | rfl | rfl | rfl <;> rcases h2 with rfl | rfl | rfl | rfl
        · exact eq_ x_BadOrder_BadOrder
        · exact ne x_BadOrder_BadMonomial x_BadOrder_BadOrder
        · exact ne x_BadOrder_BadNumber x_BadOrder_BadOrder
        · exact ne x_BadOrder_Unalike x_BadOrder_BadOrder
        · exact ne x_BadMonomial_BadOrder x_BadMonomial_BadMonomial
        · exact eq_ x_BadMonomial_BadMonomial
        · exact ne x_BadMonomial_BadNumber x_BadMonomial_BadMonomial
        · exact ne x_BadMonomial_Unalike x_BadMonomial_BadMonomial
        · exact ne x_BadNumber_BadOrder x_BadNumber_BadNumber
        · exact ne x_BadNumber_BadMonomial x_BadNumber_BadNumber
        · exact eq_ x_BadNumber_BadNumber
        · exact ne x_BadNumber_Unalike x_BadNumber_BadNumber
        · exact ne x_Unalike_BadOrder x_Unalike_Unalike
        · exact ne x_Unalike_BadMonomial x_Unalike_Unalike
        · exact ne x_Unalike_BadNumber x_Unalike_Unalike
        · exact eq_ x_Unalike_Unalike
      · intro q1 h1 q2 h2 e
        simp only [List.mem_cons, List.not_mem_nil, or_false] at h1 h2
        rcases h1 with rfl | rfl | rfl | rfl <;> rcases h2 with rfl | rfl | rfl | rfl
        · rfl
        · exact absurd (x_BadOrder_BadMonomial.symm.trans ((congrArg (fun z => PySem.W.exmOne K (.ref (He.ga K "BadOrder")) (.ref z)) (show He.ga K "BadOrder" = He.ga K "BadMonomial" from e).symm).trans x_BadOrder_BadOrder)) (by decide)
        · exact absurd (x_BadOrder_BadNumber.symm.trans ((congrArg (fun z => PySem.W.exmOne K (.ref (He.ga K "BadOrder")) (.ref z)) (show He.ga K "BadOrder" = He.ga K "BadNumber" from e).symm).trans x_BadOrder_BadOrder)) (by decide)
        · exact absurd (x_BadOrder_Unalike.symm.trans ((congrArg (fun z => PySem.W.exmOne K (.ref (He.ga K "BadOrder")) (.ref z)) (show He.ga K "BadOrder" = He.ga K "Unalike" from e).symm).trans x_BadOrder_BadOrder)) (by decide)
        · exact absurd (x_BadMonomial_BadOrder.symm.trans ((congrArg (fun z => PySem.W.exmOne K (.ref (He.ga K "BadMonomial")) (.ref z)) (show He.ga K "BadMonomial" = He.ga K "BadOrder" from e).symm).trans x_BadMonomial_BadMonomial)) (by decide)
        · rfl
        · exact absurd (x_BadMonomial_BadNumber.symm.trans ((congrArg (fun z => PySem.W.exmOne K (.ref (He.ga K "BadMonomial")) (.ref z)) (show He.ga K "BadMonomial" = He.ga K "BadNumber" from e).symm).trans x_BadMonomial_BadMonomial)) (by decide)
        · exact absurd (x_BadMonomial_Unalike.symm.trans ((congrArg (fun z => PySem.W.exmOne K (.ref (He.ga K "BadMonomial")) (.ref z)) (show He.ga K "BadMonomial" = He.ga K "Unalike" from e).symm).trans x_BadMonomial_BadMonomial)) (by decide)
        · exact absurd (x_BadNumber_BadOrder.symm.trans ((congrArg (fun z => PySem.W.exmOne K (.ref (He.ga K "BadNumber")) (.ref z)) (show He.ga K "BadNumber" = He.ga K "BadOrder" from e).symm).trans x_BadNumber_BadNumber)) (by decide)
        · exact absurd (x_BadNumber_BadMonomial.symm.trans ((congrArg (fun z => PySem.W.exmOne K (.ref (He.ga K "BadNumber")) (.ref z)) (show He.ga K "BadNumber" = He.ga K "BadMonomial" from e).symm).trans x_BadNumber_BadNumber)) (by decide)
        · rfl
        · exact absurd (x_BadNumber_Unalike.symm.trans ((congrArg (fun z => PySem.W.exmOne K (.ref (He.ga K "BadNumber")) (.ref z)) (show He.ga K "BadNumber" = He.ga K "Unalike" from e).symm).trans x_BadNumber_BadNumber)) (by decide)
        · exact absurd (x_Unalike_BadOrder.symm.trans ((congrArg (fun z => PySem.W.exmOne K (.ref (He.ga K "Unalike")) (.ref z)) (show He.ga K "Unalike" = He.ga K "BadOrder" from e).symm).trans x_Unalike_Unalike)) (by decide)
        · exact absurd (x_Unalike_BadMonomial.symm.trans ((congrArg (fun z => PySem.W.exmOne K (.ref (He.ga K "Unalike")) (.ref z)) (show He.ga K "Unalike" = He.ga K "BadMonomial" from e).symm).trans x_Unalike_Unalike)) (by decide)
        · exact absurd (x_Unalike_BadNumber.symm.trans ((congrArg (fun z => PySem.W.exmOne K (.ref (He.ga K "Unalike")) (.ref z)) (show He.ga K "Unalike" = He.ga K "BadNumber" from e).symm).trans x_Unalike_Unalike)) (by decide)
        · rfl
      · intro q hq
        simp only [List.mem_cons, List.not_mem_nil, or_false] at hq
        rcases hq with rfl | rfl | rfl | rfl
        · exact o_BadOrder.gC
        · exact o_BadMonomial.gC
        · exact o_BadNumber.gC
        · exact o_Unalike.gC
    obtain ⟨lt1, lt2⟩ := c.tab (x := "law") (by simp [lamsK])
    obtain ⟨or1, or2⟩ := c.tab (x := "_law_orders_right") (by simp [lamsK])
    exact all_law (e := ⟨(PySem.Challenge.rw_powermade_k01_whole_orders_and_monomials).prog, w, K, mg, base, tabsOf K lamsK⟩) bi hh (glo_int (h := h) X G (c.fa (.int "MOST_EXPONENT" 60) (List.mem_of_getElem? (i := 69) rfl))) (glo_int (h := h) X G (c.fa (.int "MOST_ROWS" 8) (List.mem_of_getElem? (i := 71) rfl))) (glo_int (h := h) X G (c.fa (.int "MOST_VARIABLES" 4) (List.mem_of_getElem? (i := 68) rfl))) (glo_int (h := h) X G (c.fa (.int "MOST_WEIGHT" 100) (List.mem_of_getElem? (i := 70) rfl))) (glo_tupI (h := h) (ns := [0, 1]) X G (c.fa (.glo "NONE") (List.mem_of_getElem? (i := 50) rfl)) (by have z := c.ex; simpa [exK] using z)) ⟨_, _, o_BadMonomial⟩ ⟨_, _, o_BadNumber⟩ ⟨_, _, o_BadOrder⟩ ⟨_, _, o_Unalike⟩
      ⟨_, _, F_is_whole, m_is_whole'⟩
      ⟨_, _, F_is_row, m_is_row'⟩
      ⟨_, _, F_are_wholes, m_are_wholes'⟩
      ⟨_, _, F_gcd, m_gcd'⟩
      ⟨_, _, F_need_monomial, m_need_monomial'⟩
      ⟨_, _, F_need_count, m_need_count'⟩
      ⟨_, _, F_divides, m_divides'⟩
      ⟨_, _, F_multiple_of, m_multiple_of'⟩
      ⟨_, _, F_divisor_of, m_divisor_of'⟩
      ⟨_, _, F_need_two, m_need_two'⟩
      ⟨_, _, F_monomial_divides, m_monomial_divides'⟩
      ⟨_, _, F_least_multiple, m_least_multiple'⟩
      ⟨_, _, F_greatest_divisor, m_greatest_divisor'⟩
      ⟨_, _, F_ratio, m_ratio'⟩
      ⟨_, _, F_ratio_minus, m_ratio_minus'⟩
      ⟨_, _, F_ratio_times, m_ratio_times'⟩
      ⟨_, _, F_ratio_over, m_ratio_over'⟩
      ⟨_, _, F_rank_of, m_rank_of'⟩
      ⟨_, _, F_first_above, m_first_above'⟩
      ⟨_, _, F_are_weights, m_are_weights'⟩
      ⟨_, _, F_order_fault, m_order_fault'⟩
      ⟨_, _, F_need_order, m_need_order'⟩
      ⟨_, _, F_by_degree, m_by_degree'⟩
      ⟨_, _, F_key_of, m_key_of'⟩
      ⟨_, _, F_is_below, m_is_below'⟩
      ⟨_, _, F__law_mixed, m__law_mixed'⟩
      ⟨_, _, F__law_folded, m__law_folded'⟩
      ⟨_, _, F__law_draw, m__law_draw'⟩
      ⟨_, _, F__law_of, m__law_of'⟩
      ⟨_, _, F__law_like, m__law_like'⟩
      ⟨_, _, F__law_order, m__law_order'⟩
      ⟨_, _, F__law_common, m__law_common'⟩
      ⟨_, _, F__law_ratio, m__law_ratio'⟩
      ⟨_, _, F__law_times, m__law_times'⟩
      ⟨_, _, F__law_over, m__law_over'⟩
      ⟨_, _, F__law_minus, m__law_minus'⟩
      ⟨_, _, F__law_monomial, m__law_monomial'⟩
      ⟨_, _, F__law_key, m__law_key'⟩
      ⟨_, _, F__law_divides, m__law_divides'⟩
      ⟨_, _, F__law_some_order, m__law_some_order'⟩
      ⟨_, _, F__law_rank, m__law_rank'⟩
      ⟨_, _, F__law_is_within, m__law_is_within'⟩
      ⟨_, _, F__law_due, m__law_due'⟩
      ⟨_, _, F__law_some_rows, m__law_some_rows'⟩
      ⟨_, _, F__law_values, m__law_values'⟩
      ⟨_, _, _, _, F__law_orders_right, m__law_orders_right', fd_code F__law_orders_right, tb _ (by simp [lamsK]), or1, or2⟩
      ⟨_, _, F__law_below_right, m__law_below_right'⟩
      F_law (fd_code F_law) (tb _ (by simp [lamsK])) lt1 lt2 F__law_begun m__law_begun'
end DL
open PySem PySem.W PySem.Calls PyProof.Rows
theorem PySem.Challenge.cw_powermade_k01_whole_orders_and_monomials_holds : PySem.Challenge.rw_powermade_k01_whole_orders_and_monomials.Holds := by
  w_on; o_law
  refine HandSHeadRun.head_any (r := OpenLaw.row PySem.Challenge.rw_powermade_k01_whole_orders_and_monomials) (q := view (OpenLaw.row PySem.Challenge.rw_powermade_k01_whole_orders_and_monomials).prog [65]) (H := DL.hk) (ob := DL.ob) (M := 6000) (loose := DL.namesK) (d := HandSHeadRun.topDef (OpenLaw.row PySem.Challenge.rw_powermade_k01_whole_orders_and_monomials).prog 65) (kwd := []) DL.ob_eq
    (by kernel_rfl) (fun s => by kernel_rfl) DL.run (by kernel_rfl) (by kernel_rfl) (by kernel_rfl) (by rfl) (by first | assumption | decide +kernel) (by decide +kernel) ⟨rfl, rfl, rfl, rfl, rfl, by decide +kernel⟩ ?hw ?hc
  case hw => w_witness2
  case hc =>
    refine LamX.walk_ofTsE (l := PySem.Challenge.rw_powermade_k01_whole_orders_and_monomials) (n := 63) (k := 11) (x := "script") (CX := fun w => L2.CX (PySem.Challenge.rw_powermade_k01_whole_orders_and_monomials).prog w) rfl (by decide) (by kernel_rfl) ⟨rfl, by decide, by decide⟩ ?F (fun w H s e s' z => ?hx)
    case hx =>
      obtain ⟨_, _, _, _, _, _, _, _, _, _, _, _, z⟩ := z
      exact z
    intro w mg fa h Y G hmg0
    obtain ⟨K, KX, c⟩ := Y
    have hmg : mg ("law" : PySem.Str) = some (.ref fa) := by
      have e : (HandSHeadRun.topDef (OpenLaw.row PySem.Challenge.rw_powermade_k01_whole_orders_and_monomials).prog 65).name = ("law" : PySem.Str) := by kernel_rfl
      rw [← e]
      exact hmg0
    exact ⟨K, KX, DL.law_at KX c G hmg⟩
