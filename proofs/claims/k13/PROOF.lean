import PyProof.Rows.All
import Wide.All
import OpenK.AllK
import Wide.FinOn
import HandS.ForMost
import HandS.Exc
import HandS.TryOnly
import HandS.ExcOwn
import HandS.WordsExc
import HandS.Walk
import HandS.Zip
import HandS.TupAny
import HandS.IsInst
import HandS.Style
import HandS.Deep
import HandS.SetFor
import KE.KDictPairs
import HandS.TupMul
import HandS.SortInts
import HandS.More
import HandS.Strs
import HandS.Conv
import PySem.Challenge.RW_sortwell_k13_whole_settled_in_turn
set_option Elab.async false
set_option linter.all false
set_option maxRecDepth 100000
set_option maxHeartbeats 1000000
namespace G9
open PySem PySem.Spec PyProof.Rows L2

/-! ### data -/
/-- pure data -/
inductive D where
  | non | bl (b : Bool) | int (i : Int) | str (s : Str)
  | tup (xs : List D) | lst (xs : List D) | dict (ks : List Key) (vs : List D) | scr (ns : List Int) | ptp (xs : List D)
/-- a plain tuple is a tuple -/
def nrm : D → D
  | .ptp xs => .tup xs
  | d => d
/-- a value of a name: data, or a cell of the mirror heap -/
inductive Wv where
  | val (d : D) | loc (n : Nat)
/-- a cell -/
inductive Cell where
  | lst (ds : List D) | dict (ks : List Key) (ds : List D) | frz (d : D)
abbrev En := List (Option Wv)
inductive Out (α : Type) where
  | ok (a : α) (m : List Cell) | exc (c : Str) (m : List Cell) | no
abbrev R (α : Type) := List Cell → Out α
def ret {α : Type} (a : α) : R α := fun m => .ok a m
def bnd {α β : Type} (x : R α) (f : α → R β) : R β := fun m => match x m with
  | .ok a m' => f a m'
  | .exc c m' => .exc c m'
  | .no => .no
def stuck {α : Type} : R α := fun _ => .no
def opt {α : Type} : Option α → R α
  | some a => ret a
  | none => stuck
/-- what a pure call comes to -/
inductive PO where
  | ok (d : D) | exc (c : Str) | no
structure Calls where
  pc : Str → List D → PO
  lk : Bool
  gl : Str → Option D
  has : Str → Bool
  ic : Str → List Wv → R Wv
  hasI : Str → Bool
def Calls.locked (C : Calls) : Calls := { C with pc := fun _ _ => .no, lk := true, has := fun _ => false, ic := fun _ _ _ => .no, hasI := fun _ => false }
def ofPO (o : PO) : R Wv := fun m => match o with
  | .ok d => .ok (.val d) m
  | .exc c => .exc c m
  | .no => .no
def Cell.toD : Cell → D
  | .lst ds => .lst ds
  | .dict ks ds => .dict ks ds
  | .frz d => d
/-- read -/
def rd (w : Wv) : R D := fun m => match w with
  | .val d => .ok (nrm d) m
  | .loc n => match m[n]? with
    | some c => .ok c.toD m
    | none => .no
/-- taken as a value: a cell is frozen -/
def vl (w : Wv) : R D := fun m => match w with
  | .val d => .ok (nrm d) m
  | .loc n => match m[n]? with
    | some c => .ok c.toD (m.set n (.frz c.toD))
    | none => .no

/-- handed on -/
def vp (w : Wv) : R D := fun m => match w with
  | .val d => .ok d m
  | .loc n => match m[n]? with
    | some c => .ok c.toD (m.set n (.frz c.toD))
    | none => .no

/-! ### equality -/
mutual
def deq : D → D → Bool
  | .non, .non => true
  | .bl a, .bl b => a == b
  | .bl a, .int j => (if a then 1 else 0) == j
  | .int i, .bl b => i == (if b then 1 else 0)
  | .int i, .int j => i == j
  | .str x, .str y => x == y
  | .lst xs, .lst ys => deqs xs ys
  | .tup xs, .tup ys => deqs xs ys
  | _, _ => false
def deqs : List D → List D → Bool
  | [], [] => true
  | x :: xs, y :: ys => deq x y && deqs xs ys
  | _, _ => false
end
mutual
def py : D → PyData
  | .non => .none
  | .bl b => .bool b
  | .int i => .int i
  | .str s => .str s
  | .tup xs => .tuple (pys xs)
  | .lst xs => .list (pys xs)
  | .dict _ _ => .dict []
  | .scr _ => .dict []
  | .ptp _ => .dict []
def pys : List D → List PyData
  | [] => []
  | x :: xs => py x :: pys xs
end
mutual
def dep : D → Nat
  | .tup xs => deps xs + 1
  | .lst xs => deps xs + 1
  | _ => 0
def deps : List D → Nat
  | [] => 0
  | x :: xs => max (dep x) (deps xs)
end
mutual
def lay : D → Bool
  | .non => true
  | .bl _ => true
  | .int _ => true
  | .str s => PyData.strOk s
  | .tup xs => lays xs
  | .lst xs => lays xs
  | .dict _ _ => false
  | .scr _ => false
  | .ptp _ => false
def lays : List D → Bool
  | [] => true
  | x :: xs => lay x && lays xs
end
mutual
theorem deq_py : ∀ d e : D, lay d = true → lay e = true → PyData.eqv (py d) (py e) = deq d e
  | .non, e, _, h => by cases e <;> simp_all [py, PyData.eqv, deq, lay]
  | .bl a, e, _, h => by cases e <;> simp_all [py, PyData.eqv, deq, lay]
  | .int a, e, _, h => by cases e <;> simp_all [py, PyData.eqv, deq, lay]
  | .str a, e, _, h => by cases e <;> simp_all [py, PyData.eqv, deq, lay]
  | .tup xs, e, h1, h2 => by
    cases e with
    | tup ys =>
      simp only [py, PyData.eqv, deq]
      exact deqs_py xs ys (by simpa [lay] using h1) (by simpa [lay] using h2)
    | _ => simp_all [py, PyData.eqv, deq, lay]
  | .lst xs, e, h1, h2 => by
    cases e with
    | lst ys =>
      simp only [py, PyData.eqv, deq]
      exact deqs_py xs ys (by simpa [lay] using h1) (by simpa [lay] using h2)
    | _ => simp_all [py, PyData.eqv, deq, lay]
  | .dict _ _, e, h, _ => by simp [lay] at h
  | .scr _, e, h, _ => by simp [lay] at h
  | .ptp _, e, h, _ => by simp [lay] at h
theorem deqs_py : ∀ xs ys : List D, lays xs = true → lays ys = true → PyData.eqvAll (pys xs) (pys ys) = deqs xs ys
  | [], [], _, _ => by simp [pys, PyData.eqvAll, deqs]
  | [], y :: ys, _, _ => by simp [pys, PyData.eqvAll, deqs]
  | x :: xs, [], _, _ => by simp [pys, PyData.eqvAll, deqs]
  | x :: xs, y :: ys, h1, h2 => by
    have a1 : lay x = true ∧ lays xs = true := by simpa [lays] using h1
    have a2 : lay y = true ∧ lays ys = true := by simpa [lays] using h2
    simp only [pys, PyData.eqvAll, deqs]
    rw [deq_py x y a1.1 a2.1, deqs_py xs ys a1.2 a2.2]
end
mutual
theorem dep_py : ∀ d : D, lay d = true → (py d).depth = dep d
  | .non, _ => by simp [py, dep, PyData.depth]
  | .bl _, _ => by simp [py, dep, PyData.depth]
  | .int _, _ => by simp [py, dep, PyData.depth]
  | .str _, _ => by simp [py, dep, PyData.depth]
  | .tup xs, h => by
    have := deps_py xs (by simpa [lay] using h)
    simp only [py, dep, PyData.depth]; omega
  | .lst xs, h => by
    have := deps_py xs (by simpa [lay] using h)
    simp only [py, dep, PyData.depth]; omega
  | .dict _ _, h => by simp [lay] at h
  | .scr _, h => by simp [lay] at h
  | .ptp _, h => by simp [lay] at h
theorem deps_py : ∀ xs : List D, lays xs = true → PyData.depthAll (pys xs) = deps xs
  | [], _ => by simp [pys, deps, PyData.depthAll]
  | x :: xs, h => by
    have a1 : lay x = true ∧ lays xs = true := by simpa [lays] using h
    simp only [pys, deps, PyData.depthAll]
    rw [dep_py x a1.1, deps_py xs a1.2]
end
mutual
theorem lay_py : ∀ d : D, lay d = true → (py d).canLay0 = true
  | .non, _ => by simp [py, PyData.canLay0]
  | .bl _, _ => by simp [py, PyData.canLay0]
  | .int _, _ => by simp [py, PyData.canLay0]
  | .str _, h => by simpa [py, PyData.canLay0, lay] using h
  | .tup xs, h => by
    have := lays_py xs (by simpa [lay] using h)
    simpa only [py, PyData.canLay0]
  | .lst xs, h => by
    have := lays_py xs (by simpa [lay] using h)
    simpa only [py, PyData.canLay0]
  | .dict _ _, h => by simp [lay] at h
  | .scr _, h => by simp [lay] at h
  | .ptp _, h => by simp [lay] at h
theorem lays_py : ∀ xs : List D, lays xs = true → PyData.canLayAll0 (pys xs) = true
  | [], _ => by simp [pys, PyData.canLayAll0]
  | x :: xs, h => by
    have a1 : lay x = true ∧ lays xs = true := by simpa [lays] using h
    simp only [pys, PyData.canLayAll0]
    rw [lay_py x a1.1, lays_py xs a1.2]
    rfl
end
def eqOk (d : D) : Bool := lay d && decide (dep d ≤ 180)
def flatD : D → Bool
  | .non => true
  | .bl _ => true
  | .int _ => true
  | .str _ => true
  | _ => false
def eqD (d e : D) : Option Bool := match d, e with
  | .str a, .str b => some (decide (a = b))
  | .int a, .int b => some (decide (a = b))
  | .bl a, .bl b => some (decide (a = b))
  | d, e => if eqOk d && eqOk e then some (deq d e) else none
def inD (x : D) (zs : List D) : Option Bool := if (flatD x && zs.all flatD) || (eqOk x && eqOk (.tup zs)) then some (zs.any fun z => deq z x) else none

/-! ### what stands for what -/
/-- a tuple whose object is known -/
def PlT (G : Hp) (a : Addr) (vs : List V) : Prop := ∃ o : Obj, o.dict = none ∧ G a = some (.frz o (.tup vs))
mutual
/-- v stands for d, over the part G of the heap that no longer changes -/
def Rep (K : PySem.W.Frag) (G : Hp) : D → V → Prop
  | .non, v => v = .non
  | .bl b, v => v = .bl b
  | .int i, v => v = .int i
  | .str s, v => v = .str s
  | .tup ds, v => ∃ a vs, v = .ref a ∧ SqT K G a vs ∧ RepL K G ds vs
  | .lst ds, v => ∃ a vs, v = .ref a ∧ G a = some (.lst vs) ∧ RepL K G ds vs
  | .dict ks ds, v => ∃ a kvs, v = .ref a ∧ G a = some (.dK kvs) ∧ kvs.map (·.1) = ks ∧ RepL K G ds (kvs.map (·.2))
  | .scr ns, v => ∃ a, v = .ref a ∧ SqL K G a (ns.map V.int)
  | .ptp ds, v => ∃ a vs, v = .ref a ∧ PlT G a vs ∧ RepL K G ds vs
def RepL (K : PySem.W.Frag) (G : Hp) : List D → List V → Prop
  | [], vs => vs = []
  | d :: ds, vs => ∃ v r, vs = v :: r ∧ Rep K G d v ∧ RepL K G ds r
end
def RepW (K : PySem.W.Frag) (G : Hp) (ρ : List Addr) : Wv → V → Prop
  | .val d, v => Rep K G d v
  | .loc n, v => ∃ a, ρ[n]? = some a ∧ v = .ref a
abbrev Sub0 (G G' : Hp) : Prop := ∀ a u, G a = some u → G' a = some u
theorem rd_sub {G G' : Hp} (s : Sub0 G G') {a : Addr} {u : HO} (h : Rd G a u) : Rd G' a u := by
  rcases h with h | ⟨o, h⟩
  · exact .inl (s _ _ h)
  · exact .inr ⟨o, s _ _ h⟩
theorem sqt_sub {K : PySem.W.Frag} {G G' : Hp} (s : Sub0 G G') {a : Addr} {vs : List V} (h : SqT K G a vs) : SqT K G' a vs := by
  rcases h with h | h
  · exact .inl (rd_sub s h)
  · exact .inr h
theorem sql_sub {K : PySem.W.Frag} {G G' : Hp} (s : Sub0 G G') {a : Addr} {vs : List V} (h : SqL K G a vs) : SqL K G' a vs := by
  rcases h with h | h
  · exact .inl (rd_sub s h)
  · exact .inr h
section
variable {K : PySem.W.Frag} {G G' : Hp}
mutual
theorem Rep.sub (s : Sub0 G G') : ∀ {d : D} {v : V}, Rep K G d v → Rep K G' d v
  | .non, _, h => h
  | .bl _, _, h => h
  | .int _, _, h => h
  | .str _, _, h => h
  | .tup _, _, h => by obtain ⟨a, vs, e, h1, h2⟩ := h; exact ⟨a, vs, e, sqt_sub s h1, RepL.sub s h2⟩
  | .lst _, _, h => by obtain ⟨a, vs, e, h1, h2⟩ := h; exact ⟨a, vs, e, s _ _ h1, RepL.sub s h2⟩
  | .dict _ _, _, h => by obtain ⟨a, vs, e, h1, h2, h3⟩ := h; exact ⟨a, vs, e, s _ _ h1, h2, RepL.sub s h3⟩
  | .scr _, _, h => by obtain ⟨a, e, h1⟩ := h; exact ⟨a, e, sql_sub s h1⟩
  | .ptp _, _, h => by obtain ⟨a, vs, e, ⟨o, h0, h1⟩, h2⟩ := h; exact ⟨a, vs, e, ⟨o, h0, s _ _ h1⟩, RepL.sub s h2⟩
theorem RepL.sub (s : Sub0 G G') : ∀ {ds : List D} {vs : List V}, RepL K G ds vs → RepL K G' ds vs
  | [], _, h => h
  | _ :: _, _, h => by obtain ⟨v, r, e, h1, h2⟩ := h; exact ⟨v, r, e, Rep.sub s h1, RepL.sub s h2⟩
end
theorem Rep.nrm : ∀ {d : D} {v : V}, Rep K G d v → Rep K G (nrm d) v
  | .ptp ds, _, h => by obtain ⟨a, vs, e, ⟨o, h0, h1⟩, h2⟩ := h; exact ⟨a, vs, e, .inl (.inr ⟨o, h1⟩), h2⟩
  | .non, _, h => h
  | .bl _, _, h => h
  | .int _, _, h => h
  | .str _, _, h => h
  | .tup _, _, h => h
  | .lst _, _, h => h
  | .dict _ _, _, h => h
  | .scr _, _, h => h
theorem RepL.length : ∀ {ds : List D} {vs : List V}, RepL K G ds vs → ds.length = vs.length
  | [], _, h => by cases h; rfl
  | _ :: _, _, h => by obtain ⟨v, r, rfl, _, h2⟩ := h; simp [RepL.length h2]
theorem RepL.get : ∀ {ds : List D} {vs : List V} {i : Nat} {v : V}, RepL K G ds vs → vs[i]? = some v → ∃ d, ds[i]? = some d ∧ Rep K G d v
  | [], _, _, _, h, e => by cases h; simp at e
  | _ :: _, _, 0, _, h, e => by obtain ⟨v, r, rfl, h1, h2⟩ := h; simp at e; subst e; exact ⟨_, rfl, h1⟩
  | _ :: _, _, i + 1, _, h, e => by obtain ⟨v, r, rfl, h1, h2⟩ := h; exact RepL.get (i := i) h2 (by simpa using e)
theorem RepL.get' : ∀ {ds : List D} {vs : List V} {i : Nat} {d : D}, RepL K G ds vs → ds[i]? = some d → ∃ v, vs[i]? = some v ∧ Rep K G d v
  | [], _, _, _, h, e => by simp at e
  | _ :: _, _, 0, _, h, e => by obtain ⟨v, r, rfl, h1, h2⟩ := h; simp at e; subst e; exact ⟨_, rfl, h1⟩
  | _ :: _, _, i + 1, _, h, e => by obtain ⟨v, r, rfl, h1, h2⟩ := h; exact RepL.get' (i := i) h2 (by simpa using e)
theorem RepL.append : ∀ {ds es : List D} {vs ws : List V}, RepL K G ds vs → RepL K G es ws → RepL K G (ds ++ es) (vs ++ ws)
  | [], _, _, _, h, q => by cases h; exact q
  | _ :: _, _, _, _, h, q => by obtain ⟨v, r, rfl, h1, h2⟩ := h; exact ⟨v, _, rfl, h1, RepL.append h2 q⟩
theorem RepL.take : ∀ {ds : List D} {vs : List V} (n : Nat), RepL K G ds vs → RepL K G (ds.take n) (vs.take n)
  | _, _, 0, _ => by rw [List.take_zero, List.take_zero]; exact rfl
  | [], _, _ + 1, h => by cases h; exact rfl
  | _ :: _, _, n + 1, h => by obtain ⟨v, r, rfl, h1, h2⟩ := h; exact ⟨v, _, rfl, h1, RepL.take n h2⟩
theorem RepL.drop : ∀ {ds : List D} {vs : List V} (n : Nat), RepL K G ds vs → RepL K G (ds.drop n) (vs.drop n)
  | _, _, 0, h => h
  | [], _, _ + 1, h => by cases h; exact rfl
  | _ :: _, _, n + 1, h => by obtain ⟨v, r, rfl, h1, h2⟩ := h; exact RepL.drop n h2
theorem RepL.reverse : ∀ {ds : List D} {vs : List V}, RepL K G ds vs → RepL K G ds.reverse vs.reverse
  | [], _, h => by cases h; exact rfl
  | d :: _, _, h => by
    obtain ⟨v, r, rfl, h1, h2⟩ := h
    rw [List.reverse_cons, List.reverse_cons]
    exact RepL.append (RepL.reverse h2) ⟨v, [], rfl, h1, rfl⟩
theorem RepL.set : ∀ {ds : List D} {vs : List V} {d : D} {v : V} (i : Nat), RepL K G ds vs → Rep K G d v → RepL K G (ds.set i d) (vs.set i v)
  | [], _, _, _, _, h, _ => by cases h; exact rfl
  | _ :: _, _, _, _, 0, h, q => by obtain ⟨v, r, rfl, h1, h2⟩ := h; exact ⟨_, _, rfl, q, h2⟩
  | _ :: _, _, _, _, i + 1, h, q => by obtain ⟨v, r, rfl, h1, h2⟩ := h; exact ⟨_, _, rfl, h1, RepL.set i h2 q⟩
theorem RepL.ints : ∀ {ns : List Int} {vs : List V}, RepL K G (ns.map D.int) vs → vs = ns.map V.int
  | [], _, h => h
  | n :: ns, _, h => by
    obtain ⟨v, r, rfl, h1, h2⟩ := h
    have e : v = .int n := h1
    rw [e, RepL.ints h2]
    rfl
theorem RepL.of_ints : ∀ (ns : List Int), RepL K G (ns.map D.int) (ns.map V.int)
  | [] => rfl
  | n :: ns => ⟨_, _, rfl, rfl, RepL.of_ints ns⟩
theorem RepL.strs : ∀ {xs : List Str} {vs : List V}, RepL K G (xs.map D.str) vs → vs = xs.map V.str
  | [], _, h => h
  | n :: ns, _, h => by
    obtain ⟨v, r, rfl, h1, h2⟩ := h
    have e : v = .str n := h1
    rw [e, RepL.strs h2]
    rfl
theorem RepL.of_strs : ∀ (xs : List Str), RepL K G (xs.map D.str) (xs.map V.str)
  | [] => rfl
  | n :: ns => ⟨_, _, rfl, rfl, RepL.of_strs ns⟩
theorem RepL.bls : ∀ {bs : List Bool} {vs : List V}, RepL K G (bs.map D.bl) vs → vs = bs.map V.bl
  | [], _, h => h
  | n :: ns, _, h => by
    obtain ⟨v, r, rfl, h1, h2⟩ := h
    have e : v = .bl n := h1
    rw [e, RepL.bls h2]
    rfl
end

/-! ### the state -/
def CellOk (K : PySem.W.Frag) (G H : Hp) (a : Addr) : Cell → Prop
  | .lst ds => G a = none ∧ ∃ vs, H a = some (.lst vs) ∧ RepL K G ds vs
  | .dict ks ds => G a = none ∧ ∃ kvs, H a = some (.dK kvs) ∧ kvs.map (·.1) = ks ∧ RepL K G ds (kvs.map (·.2))
  | .frz d => Rep K G d (.ref a) ∧ ∃ u, G a = some u
/-- G: what no longer changes; lk: a dict may be locked -/
structure SI (K : PySem.W.Frag) (lk : Option Addr) (G H : Hp) (ρ : List Addr) (M : List Cell) : Prop where
  sub : ∀ a u, G a = some u → H a = some u ∨ (lk = some a ∧ ∃ o kvs, u = .dK kvs ∧ H a = some (.frz o u))
  nd : ρ.Nodup
  len : ρ.length = M.length
  cell : ∀ (n : Nat) a c, ρ[n]? = some a → M[n]? = some c → CellOk K G H a c
structure Step (G H : Hp) (ρ : List Addr) (G' H' : Hp) (ρ' : List Addr) : Prop where
  g : Sub0 G G'
  pre : ∃ more, ρ' = ρ ++ more
  h : ∀ a o, H a = some o → (a ∉ ρ ∨ ∃ u, G a = some u) → H' a = some o
  gn : ∀ a u, G' a = some u → (∃ o, G a = some o) ∨ H a = none ∨ a ∈ ρ
  rn : ∀ a, a ∈ ρ' → a ∈ ρ ∨ H a = none
  keep : ∀ a, H' a = none → H a = none
theorem Step.refl (G H : Hp) (ρ : List Addr) : Step G H ρ G H ρ :=
  ⟨fun _ _ h => h, ⟨[], by simp⟩, fun _ _ h _ => h, fun _ u h => .inl ⟨u, h⟩, fun _ h => .inl h, fun _ h => h⟩
theorem Step.trans {G H G1 H1 G2 H2 : Hp} {ρ ρ1 ρ2 : List Addr} (a : Step G H ρ G1 H1 ρ1) (b : Step G1 H1 ρ1 G2 H2 ρ2) : Step G H ρ G2 H2 ρ2 := by
  refine ⟨fun x u h => b.g x u (a.g x u h), ?_, fun x o h n => ?_, fun x u h => ?_, fun x h => ?_, fun x h => a.keep x (b.keep x h)⟩
  · obtain ⟨m1, e1⟩ := a.pre
    obtain ⟨m2, e2⟩ := b.pre
    exact ⟨m1 ++ m2, by rw [e2, e1, List.append_assoc]⟩
  · refine b.h x o (a.h x o h n) ?_
    rcases n with n | ⟨u, n⟩
    · refine .inl fun q => ?_
      rcases a.rn x q with q | q
      · exact n q
      · rw [h] at q; cases q
    · exact .inr ⟨u, a.g x u n⟩
  · rcases b.gn x u h with ⟨o, q⟩ | q | q
    · exact a.gn x o q
    · exact .inr (.inl (a.keep x q))
    · rcases a.rn x q with q | q
      · exact .inr (.inr q)
      · exact .inr (.inl q)
  · rcases b.rn x h with q | q
    · exact a.rn x q
    · exact .inr (a.keep x q)
section
variable {K : PySem.W.Frag} {lk : Option Addr} {G H G' H' : Hp} {ρ ρ' : List Addr} {M M' : List Cell}
theorem RepW.step (s : Step G H ρ G' H' ρ') {w : Wv} {v : V} (h : RepW K G ρ w v) : RepW K G' ρ' w v := by
  cases w with
  | val d => exact Rep.sub s.g h
  | loc n =>
    obtain ⟨a, e, q⟩ := h
    obtain ⟨m, e2⟩ := s.pre
    refine ⟨a, ?_, q⟩
    rw [e2, List.getElem?_append_left (List.getElem?_eq_some_iff.mp e).1]
    exact e
theorem SI.there (I : SI K lk G H ρ M) {a : Addr} {u : HO} (h : G a = some u) : H a ≠ none := by
  intro q
  rcases I.sub a u h with z | ⟨_, _, _, _, z⟩ <;> rw [q] at z <;> cases z
theorem SI.gnone (I : SI K lk G H ρ M) {a : Addr} (h : H a = none) : G a = none := by
  cases q : G a with
  | none => rfl
  | some u => exact absurd h (I.there q)
theorem SI.cellThere (I : SI K lk G H ρ M) {a : Addr} (h : a ∈ ρ) : H a ≠ none := by
  obtain ⟨n, hn, e⟩ := List.getElem_of_mem h
  have hm : n < M.length := by rw [← I.len]; exact hn
  have c := I.cell n a M[n] (by rw [List.getElem?_eq_getElem hn, e]) (List.getElem?_eq_getElem hm)
  intro q
  cases hc : M[n] with
  | lst ds => rw [hc] at c; obtain ⟨_, vs, z, _⟩ := c; rw [q] at z; cases z
  | dict ks ds => rw [hc] at c; obtain ⟨_, vs, z, _⟩ := c; rw [q] at z; cases z
  | frz d => rw [hc] at c; obtain ⟨_, u, z⟩ := c; exact I.there z q
theorem SI.fresh (I : SI K lk G H ρ M) {a : Addr} (h : H a = none) : a ∉ ρ := fun q => I.cellThere q h
/-- a new object that will not change -/
theorem SI.new (I : SI K lk G H ρ M) {p : Addr} {u : HO} (h : H p = none) : SI K lk (upd G p u) (upd H p u) ρ M ∧ Step G H ρ (upd G p u) (upd H p u) ρ := by
  have hg := I.gnone h
  have s0 : Sub0 G (upd G p u) := fun a o q => by rw [upd_ne (ne_of_none q hg)]; exact q
  refine ⟨⟨fun a o q => ?_, I.nd, I.len, fun n a c e1 e2 => ?_⟩, ⟨s0, ⟨[], by simp⟩, fun a o q _ => by rw [upd_ne (ne_of_none q h)]; exact q, fun a o q => ?_, fun a q => .inl q, fun a q => ?_⟩⟩
  · by_cases e : a = p
    · subst e; rw [upd_same] at q; cases q; exact .inl upd_same
    · rw [upd_ne e] at q; rw [upd_ne e]; exact I.sub a o q
  · have c0 := I.cell n a c e1 e2
    have ne : a ≠ p := fun z => I.fresh h (z ▸ List.mem_of_getElem? e1)
    cases c with
    | lst ds => obtain ⟨z1, vs, z2, z3⟩ := c0; exact ⟨by rw [upd_ne ne]; exact z1, vs, by rw [upd_ne ne]; exact z2, RepL.sub s0 z3⟩
    | dict ks ds => obtain ⟨z1, vs, z2, z3, z4⟩ := c0; exact ⟨by rw [upd_ne ne]; exact z1, vs, by rw [upd_ne ne]; exact z2, z3, RepL.sub s0 z4⟩
    | frz d => obtain ⟨z1, o, z2⟩ := c0; exact ⟨Rep.sub s0 z1, o, s0 _ _ z2⟩
  · by_cases e : a = p
    · subst e; exact .inr (.inl h)
    · rw [upd_ne e] at q; exact .inl ⟨o, q⟩
  · by_cases e : a = p
    · subst e; exact h
    · rw [upd_ne e] at q; exact q
/-- a new object that is not shared yet -/
theorem SI.newH (I : SI K lk G H ρ M) {p : Addr} {u : HO} (h : H p = none) : SI K lk G (upd H p u) ρ M ∧ Step G H ρ G (upd H p u) ρ := by
  refine ⟨⟨fun a o q => ?_, I.nd, I.len, fun n a c e1 e2 => ?_⟩, ⟨fun _ _ q => q, ⟨[], by simp⟩, fun a o q _ => by rw [upd_ne (ne_of_none q h)]; exact q, fun a o q => .inl ⟨o, q⟩, fun a q => .inl q, fun a q => ?_⟩⟩
  · have e : a ≠ p := fun z => I.there q (z ▸ h)
    rw [upd_ne e]; exact I.sub a o q
  · have c0 := I.cell n a c e1 e2
    have ne : a ≠ p := fun z => I.fresh h (z ▸ List.mem_of_getElem? e1)
    cases c with
    | lst ds => obtain ⟨z1, vs, z2, z3⟩ := c0; exact ⟨z1, vs, by rw [upd_ne ne]; exact z2, z3⟩
    | dict ks ds => obtain ⟨z1, vs, z2, z3, z4⟩ := c0; exact ⟨z1, vs, by rw [upd_ne ne]; exact z2, z3, z4⟩
    | frz d => exact c0
  · by_cases e : a = p
    · subst e; exact h
    · rw [upd_ne e] at q; exact q
end
end G9

set_option Elab.async false
set_option linter.all false
set_option maxRecDepth 100000
set_option maxHeartbeats 1000000
namespace G9
open PySem PySem.Spec PyProof.Rows L2

/-! ### the text -/
inductive Blt where
  | len | any | all | dict | list | tuple | sorted | int | str | sum
  deriving DecidableEq
def Blt.name : Blt → Str
  | .len => "len" | .any => "any" | .all => "all" | .dict => "dict" | .list => "list" | .tuple => "tuple" | .sorted => "sorted" | .int => "int" | .str => "str" | .sum => "sum"
inductive Mt where
  | get | find | index | join | split | upper | count | append | extend | pop
  deriving DecidableEq
def Mt.name : Mt → Str
  | .get => "get" | .find => "find" | .index => "index" | .join => "join" | .split => "split" | .upper => "upper" | .count => "count" | .append => "append" | .extend => "extend" | .pop => "pop"
inductive Ty where
  | int | bool | str | tuple | list
  deriving DecidableEq
def Ty.name : Ty → Str
  | .int => "int" | .bool => "bool" | .str => "str" | .tuple => "tuple" | .list => "list"
def Ty.id : Ty → String
  | .int => "int" | .bool => "bool" | .str => "str" | .tuple => "tuple" | .list => "list"
inductive Tgt where
  | one (i : Nat) (x : Str) (p : Pos)
  | two (i : Nat) (x : Str) (p : Pos) (j : Nat) (y : Str) (q : Pos) (k : Nat) (tp : Pos)
mutual
inductive E where
  | var (i : Nat) (x : Str) (p : Pos)
  | con (c : Const) (k : Nat) (p : Pos)
  | glb (x : Str) (p : Pos)
  | bin (a : E) (op : Operator) (b : E) (p : Pos)
  | neg (a : E) (p : Pos)
  | nt (a : E) (p : Pos)
  | bop (op : BoolOp) (es : List E) (p : Pos)
  | cmp (a : E) (op : CmpOp) (b : E) (p : Pos)
  | chn (a : E) (op : CmpOp) (b : E) (op2 : CmpOp) (c : E) (p : Pos)
  | tup (es : List E) (k : Nat) (p : Pos)
  | lst (es : List E) (p : Pos)
  | dic (kvs : List E) (p : Pos)
  | idx (a b : E) (p : Pos)
  | slc (a : E) (lo hi : Option E) (p2 p : Pos)
  | rvs (a : E) (p4 p3 p2 p : Pos) (k : Nat)
  | blt (f : Blt) (pf : Pos) (es : List E) (p : Pos)
  | sset (a : E) (p1 p2 p3 p4 : Pos)
  | trg (a : E) (p1 p2 p3 p4 : Pos)
  | isi (a : E) (t : Ty) (pf pt p : Pos)
  | mth (o : E) (m : Mt) (pa : Pos) (es : List E) (p : Pos)
  | cal (f : Str) (pf : Pos) (es : List E) (p : Pos)
  | cali (f : Str) (pf : Pos) (es : List E) (p : Pos)
  | lc (elt : E) (tg : Tgt) (it : I) (cond : Option E) (sc : Scope) (p : Pos)
inductive I where
  | seq (e : E)
  | rng (es : List E) (pf p : Pos)
  | zip (a b : E) (pf p : Pos)
  | enu (a : E) (pf p : Pos)
end
inductive S where
  | asg (i : Nat) (x : Str) (px : Pos) (e : E) (p : Pos) (cell : Bool)
  | tasg (ts : List (Nat × Str × Pos)) (k : Nat) (tp : Pos) (e : E) (p : Pos)
  | par (i : Nat) (x : Str) (px : Pos) (j : Nat) (y : Str) (py : Pos) (k : Nat) (tp : Pos) (a b : E) (k2 : Nat) (p2 p : Pos)
  | setI (o i e : E) (pt p : Pos)
  | setL (o i e : E) (pt p : Pos)
  | ex (e : E) (p : Pos)
  | iff (c : E) (a b : List S) (p : Pos)
  | fr (tg : Tgt) (it : I) (body : List S) (p : Pos)
  | whl (c : E) (body : List S) (p : Pos)
  | rt (e : E) (p : Pos)
  | pas (p : Pos) | brk (p : Pos) | cont (p : Pos)
def Tgt.toExpr : Tgt → Expr
  | .one _ x p => .Name x p
  | .two _ x p _ y q k tp => .Tuple [.Name x p, .Name y q] k tp
def Tgt.own : Tgt → List (Str × Nat)
  | .one i x _ => [(x, i)]
  | .two i x _ j y _ _ _ => [(x, i), (y, j)]
mutual
def E.toExpr : E → Expr
  | .var _ x p => .Name x p
  | .con c k p => .Constant c k p
  | .glb x p => .Name x p
  | .bin a op b p => .BinOp a.toExpr op b.toExpr p
  | .neg a p => .UnaryOp .USub a.toExpr p
  | .nt a p => .UnaryOp .Not a.toExpr p
  | .bop op es p => .BoolOp op (E.toL es) p
  | .cmp a op b p => .Compare a.toExpr [op] [b.toExpr] p
  | .chn a op b op2 c p => .Compare a.toExpr [op, op2] [b.toExpr, c.toExpr] p
  | .tup es k p => .Tuple (E.toL es) k p
  | .lst es p => .List (E.toL es) p
  | .dic kvs p => .Dict (E.toKs kvs) (E.toVs kvs) p
  | .idx a b p => .Subscript a.toExpr b.toExpr p
  | .slc a lo hi p2 p => .Subscript a.toExpr (.Slice (E.toO lo) (E.toO hi) none p2) p
  | .rvs a p4 p3 p2 p k => .Subscript a.toExpr (.Slice none none (some (.UnaryOp .USub (.Constant (.int 1) k p4) p3)) p2) p
  | .blt f pf es p => .Call (.Name f.name pf) (E.toL es) [] p
  | .trg a p1 p2 p3 p4 => .Call (.Name "tuple" p1) [.Call (.Name "range" p2) [a.toExpr] [] p3] [] p4
  | .sset a p1 p2 p3 p4 => .Call (.Name "sorted" p1) [.Call (.Name "set" p2) [a.toExpr] [] p3] [] p4
  | .isi a t pf pt p => .Call (.Name "isinstance" pf) [a.toExpr, .Name t.name pt] [] p
  | .mth o m pa es p => .Call (.Attribute o.toExpr m.name pa) (E.toL es) [] p
  | .cal f pf es p => .Call (.Name f pf) (E.toL es) [] p
  | .cali f pf es p => .Call (.Name f pf) (E.toL es) [] p
  | .lc elt tg it cond sc p => .ListComp elt.toExpr [⟨tg.toExpr, it.toExpr, E.toC cond, 0⟩] sc p
def E.toL : List E → List Expr
  | [] => []
  | e :: es => e.toExpr :: E.toL es
def E.toKs : List E → List (Option Expr)
  | k :: v :: r => some k.toExpr :: E.toKs r
  | _ => []
def E.toVs : List E → List Expr
  | k :: v :: r => v.toExpr :: E.toVs r
  | _ => []
def E.toO : Option E → Option Expr
  | none => none
  | some e => some e.toExpr
def E.toC : Option E → List Expr
  | none => []
  | some e => [e.toExpr]
def I.toExpr : I → Expr
  | .seq e => e.toExpr
  | .rng es pf p => .Call (.Name "range" pf) (E.toL es) [] p
  | .zip a b pf p => .Call (.Name "zip" pf) [a.toExpr, b.toExpr] [] p
  | .enu a pf p => .Call (.Name "enumerate" pf) [a.toExpr] [] p
end
def tNames : List (Nat × Str × Pos) → List Expr
  | [] => []
  | (_, x, p) :: r => .Name x p :: tNames r
mutual
def S.toStmt : S → Stmt
  | .asg _ x px e p _ => .Assign [.Name x px] e.toExpr p
  | .tasg ts k tp e p => .Assign [.Tuple (tNames ts) k tp] e.toExpr p
  | .par _ x px _ y py k tp a b k2 p2 p => .Assign [.Tuple [.Name x px, .Name y py] k tp] (.Tuple [a.toExpr, b.toExpr] k2 p2) p
  | .setI o i e pt p => .Assign [.Subscript o.toExpr i.toExpr pt] e.toExpr p
  | .setL o i e pt p => .Assign [.Subscript o.toExpr i.toExpr pt] e.toExpr p
  | .ex e p => .Expr e.toExpr p
  | .iff c a b p => .If c.toExpr (S.toL a) (S.toL b) p
  | .fr tg it body p => .For tg.toExpr it.toExpr (S.toL body) [] p
  | .whl c body p => .While c.toExpr (S.toL body) [] p
  | .rt e p => .Return (some e.toExpr) p
  | .pas p => .Pass p
  | .brk p => .Break p
  | .cont p => .Continue p
def S.toL : List S → List Stmt
  | [] => []
  | s :: ss => s.toStmt :: S.toL ss
end

/-! ### operators on data -/
def opBin (op : Operator) (d e : D) : Option D := match op, d, e with
  | .Add, .int i, .int j => some (.int (i + j))
  | .Add, .str x, .str y => if x.length + y.length ≤ sizeLine then some (.str (x ++ y)) else none
  | .Add, .lst x, .lst y => if x.length + y.length ≤ sizeLine then some (.lst (x ++ y)) else none
  | .Add, .tup x, .tup y => if x.length + y.length ≤ sizeLine then some (.tup (x ++ y)) else none
  | .Sub, .int i, .int j => some (.int (i - j))
  | .Mult, .int i, .int j => if (-(2 ^ 64) < i ∧ i < 2 ^ 64) ∨ (-(2 ^ 64) < j ∧ j < 2 ^ 64) then some (.int (i * j)) else none
  | .Mult, .str x, .int j => if x.length * j.toNat ≤ 1000 ∧ -1000 ≤ j ∧ j ≤ 1000 then some (.str ⟨(List.replicate j.toNat x.cps.toList).flatten.toArray⟩) else none
  | .Mult, .lst x, .int j => if x.length * j.toNat ≤ sizeLine ∧ -(2 ^ 63) ≤ j ∧ j < 2 ^ 63 then some (.lst (List.replicate j.toNat x).flatten) else none
  | .Mult, .tup x, .int j => if x ≠ [] ∧ 2 ≤ j ∧ j ≤ 1000 ∧ x.length ≤ 1000 then some (.tup (List.replicate j.toNat x).flatten) else none
  | .FloorDiv, .int i, .int j => if 0 < j ∧ j < 1073741824 then some (.int (i / j)) else none
  | .Mod, .int i, .int j => if 0 < j then some (.int (i % j)) else none
  | .Pow, .int i, .int j => if 0 ≤ j ∧ j ≤ 1000000 ∧ i.natAbs < 2 ^ 64 then some (.int (i ^ j.toNat)) else none
  | _, _, _ => none
def opNeg (d : D) : Option D := match d with
  | .int i => some (.int (-i))
  | _ => none
def keyD : D → Option Key
  | .int i => some (.inl i)
  | .str x => some (.inr x)
  | _ => none
def Dk : Key → D
  | .inl i => .int i
  | .inr x => .str x
def getK (k : Key) : List Key → List D → Option D
  | k' :: ks, d :: ds => if k' = k then some d else getK k ks ds
  | _, _ => none
def isNon : D → Bool
  | .non => true
  | _ => false
def opCmp (op : CmpOp) (d e : D) : Option Bool := match op with
  | .Eq => eqD d e
  | .NotEq => (eqD d e).map (!·)
  | .Lt => match d, e with
    | .int i, .int j => some (decide (i < j))
    | .str x, .str y => some (decide (x.cps.toList < y.cps.toList))
    | _, _ => none
  | .LtE => match d, e with
    | .int i, .int j => some (decide (i ≤ j))
    | _, _ => none
  | .Gt => match d, e with
    | .int i, .int j => some (decide (j < i))
    | _, _ => none
  | .GtE => match d, e with
    | .int i, .int j => some (decide (j ≤ i))
    | _, _ => none
  | .Is => match e with
    | .non => some (isNon d)
    | _ => none
  | .IsNot => match e with
    | .non => some (!isNon d)
    | _ => none
  | .In => match e with
    | .tup zs => inD d zs
    | .lst zs => inD d zs
    | .dict ks ds => (keyD d).map fun k => (getK k ks ds).isSome
    | .str y => match d with
      | .str x => some (!(Builtin.Str.occurrences y x 0 y.length 1).isEmpty)
      | _ => none
    | _ => none
  | .NotIn => match e with
    | .tup zs => (inD d zs).map (!·)
    | .lst zs => (inD d zs).map (!·)
    | .dict ks ds => (keyD d).map fun k => !(getK k ks ds).isSome
    | .str y => match d with
      | .str x => some (!(!(Builtin.Str.occurrences y x 0 y.length 1).isEmpty))
      | _ => none
    | _ => none
def opIdx (d e : D) : Option D := match d, e with
  | .tup xs, .int i => atI xs i
  | .lst xs, .int i => atI xs i
  | .scr xs, .int i => (atI xs i).map .int
  | .str x, .int i => if x.length ≤ sizeLine then (atI x.cps.toList i).map fun c => .str ⟨#[c]⟩ else none
  | .dict ks ds, k => (keyD k).bind fun k => getK k ks ds
  | _, _ => none
def cutD {α : Type} (xs : List α) (lo hi : Option Int) : List α := (xs.drop (HT.sIx xs.length 0 lo)).take (HT.sIx xs.length xs.length hi - HT.sIx xs.length 0 lo)
def opSlc (d : D) (lo hi : Option Int) : Option D := match d with
  | .tup xs => some (.tup (cutD xs lo hi))
  | .lst xs => some (.lst (cutD xs lo hi))
  | .str x => if x.length ≤ sizeLine then some (.str ⟨(cutD x.cps.toList lo hi).toArray⟩) else none
  | _ => none
def opRvs (d : D) : Option D := match d with
  | .lst xs => some (.lst xs.reverse)
  | _ => none
def boolsD : List D → Option (List Bool)
  | [] => some []
  | .bl b :: r => (boolsD r).map (b :: ·)
  | _ => none
def intsD : List D → Option (List Int)
  | [] => some []
  | .int b :: r => (intsD r).map (b :: ·)
  | _ => none
def strsD : List D → Option (List Str)
  | [] => some []
  | .str b :: r => (strsD r).map (b :: ·)
  | _ => none
/-- pairs (key, value) -/
def pairsD : List D → Option (List (Key × D))
  | [] => some []
  | .tup [k, v] :: r => (keyD k).bind fun k => (pairsD r).map ((k, v) :: ·)
  | _ => none
def putD (kvs : List (Key × D)) (k : Key) (v : D) : List (Key × D) :=
  if (kvs.any fun kv => decide (kv.1 = k)) = true then kvs.map (fun kv => if kv.1 = k then (kv.1, v) else kv) else kvs ++ [(k, v)]
def mergeD (kvs more : List (Key × D)) : List (Key × D) := more.foldl (fun acc kv => putD acc kv.1 kv.2) kvs
def dictD (kvs : List (Key × D)) : D := .dict (kvs.map (·.1)) (kvs.map (·.2))
def insI (x : Int) : List Int → List Int
  | [] => [x]
  | y :: r => if x ≤ y then x :: y :: r else y :: insI x r
def srtI : List Int → List Int
  | [] => []
  | x :: r => insI x (srtI r)
def leS (x y : Str) : Bool := !decide (y.cps.toList < x.cps.toList)
def insS (x : Str) : List Str → List Str
  | [] => [x]
  | y :: r => if leS x y then x :: y :: r else y :: insS x r
def srtS : List Str → List Str
  | [] => []
  | x :: r => insS x (srtS r)
def srtD (xs : List D) : Option (List D) :=
  if xs.length < 64 then match intsD xs with
    | some ns => some ((srtI ns).map .int)
    | none => (strsD xs).map fun xs => (srtS xs).map .str
  else none
def opBlt (f : Blt) (ds : List D) : Option D := match f, ds with
  | .len, [.tup xs] => some (.int xs.length)
  | .len, [.lst xs] => some (.int xs.length)
  | .len, [.scr xs] => some (.int xs.length)
  | .len, [.str x] => if x.length ≤ sizeLine then some (.int x.length) else none
  | .len, [.dict ks _] => some (.int ks.length)
  | .any, [.lst xs] => (boolsD xs).map fun bs => .bl (bs.any id)
  | .all, [.lst xs] => (boolsD xs).map fun bs => .bl (bs.all id)
  | .dict, [.dict ks ds] => some (.dict ks ds)
  | .list, [.lst xs] => some (.lst xs)
  | .list, [.tup xs] => some (.lst xs)
  | .list, [.dict ks _] => some (.lst (ks.map Dk))
  | .tuple, [.lst xs] => some (.ptp xs)
  | .tuple, [.tup xs] => some (.tup xs)
  | .sorted, [.lst xs] => (srtD xs).map .lst
  | .sorted, [.dict ks _] => (srtD (ks.map Dk)).map .lst
  | .int, [.int i] => some (.int i)
  | .int, [.bl b] => some (.int (if b then 1 else 0))
  | .sum, [.lst xs] => (intsD xs).map fun ns => .int ns.sum
  | _, _ => none
def dupI : List Int → List Int
  | [] => []
  | x :: r => if (r.any fun y => y == x) then dupI r else x :: dupI r
def setD (xs : List D) : Option D := (intsD xs).bind fun ns => if ns.length < 64 then some (.lst ((srtI (dupI ns)).map .int)) else none
def opSet (d : D) : Option D := match d with
  | .lst xs => setD xs
  | .tup xs => setD xs
  | _ => none
def isT : Ty → D → Bool
  | .int, .int _ => true
  | .int, .bl _ => true
  | .bool, .bl _ => true
  | .str, .str _ => true
  | .tuple, .tup _ => true
  | .tuple, .ptp _ => true
  | .list, .lst _ => true
  | .list, .scr _ => true
  | _, _ => false
def joinOk (x : Str) (ys : List Str) : Bool := decide ((ys.map (·.length)).sum + ys.length * x.length ≤ 16777216)
def opMth (m : Mt) (d : D) (ds : List D) : Option D := match m, d, ds with
  | .get, .dict ks vs, [k] => (keyD k).map fun k => (getK k ks vs).getD .non
  | .get, .dict ks vs, [k, e] => (keyD k).map fun k => (getK k ks vs).getD e
  | .find, .str x, [.str y] => some (.int (Txt.find x y))
  | .join, .str x, [.lst ys] => (strsD ys).bind fun ys => if joinOk x ys = true then some (.str (Txt.join x ys)) else none
  | .split, .str x, [.str y] => if (y.length == 0) = false ∧ x.length + 2 ≤ sizeLine then some (.lst ((Txt.split x y).map .str)) else none
  | .upper, .str x, [] => if x.length ≤ 5592405 then some (.str (Txt.upper x)) else none
  | .index, .lst xs, [y] => if (flatD y && xs.all flatD) then (xs.findIdx? fun z => deq z y).map (fun (i : Nat) => D.int (i : Int)) else none
  | _, _, _ => none

def tupV : List D → D
  | [] => .ptp []
  | d :: ds => .tup (d :: ds)
def plArg : Blt → List Wv → Option (List D)
  | .dict, [.val (.ptp ps)] => some ps
  | _, _ => none

/-! ### the evaluator -/
def get1 (s : En) (i : Nat) : Option Wv := (s[i]?).join
def conD : Const → Option D
  | .none => some .non
  | .bool b => some (.bl b)
  | .int i => some (.int i)
  | .str x => some (.str x)
  | _ => none
def val? (o : Option D) : R Wv := opt (o.map .val)
def bool? (o : Option Bool) : R Wv := opt (o.map fun b => .val (.bl b))
def tst (w : Wv) : R Bool := match w with
  | .val (.bl b) => ret b
  | _ => stuck
def itemsD : D → Option (List D)
  | .lst xs => some xs
  | .tup xs => some xs
  | .str x => some (x.cps.toList.map fun c => .str ⟨#[c]⟩)
  | _ => none
def dictKs : D → Option (List Key)
  | .dict ks _ => some ks
  | _ => none
def isVar : E → Bool
  | .var .. => true
  | _ => false
/-- no exception may leave a comprehension -/
def nox {α : Type} (x : R α) : R α := fun m => match x m with
  | .ok a m' => .ok a m'
  | _ => .no
def Tgt.bind : Tgt → D → En → Option En
  | .one i _ _, d, s => some (s.set i (some (.val d)))
  | .two i _ _ j _ _ _ _, .tup [a, b], s => some ((s.set i (some (.val a))).set j (some (.val b)))
  | .two .., _, _ => none
def wipeE (s : En) : List Nat → En
  | [] => s
  | v :: vs => (wipeE s vs).set v none
def consO {α : Type} (o : Option α) (r : List α) : List α := match o with | some x => x :: r | none => r
def lcLoop (f : D → R (Option D)) : List D → R (List D)
  | [] => ret []
  | d :: ds => bnd (f d) fun o => bnd (lcLoop f ds) fun r => ret (consO o r)
def zipD : List D → List D → List D
  | x :: xs, y :: ys => .tup [x, y] :: zipD xs ys
  | _, _ => []
def enuD : Nat → List D → List D
  | _, [] => []
  | k, x :: xs => .tup [.int k, x] :: enuD (k + 1) xs
def rngD (i j : Int) : List D := (List.range (j - i).toNat).map fun (k : Nat) => .int (i + k)
def opTrg : D → Option D
  | .int n => if 0 ≤ n ∧ n ≤ 1000 then some (.tup (rngD 0 n)) else none
  | _ => none
def rngOf : List D → Option (List D)
  | [.int j] => if -(2 ^ 62) ≤ j ∧ j < 2 ^ 62 then some (rngD 0 j) else none
  | [.int i, .int j] => if -(2 ^ 62) ≤ i ∧ i < 2 ^ 62 ∧ -(2 ^ 62) ≤ j ∧ j < 2 ^ 62 then some (rngD i j) else none
  | _ => none
def seqD : D → Option (List D)
  | .lst xs => some xs
  | .tup xs => some xs
  | _ => none
def lstD : D → Option (List D)
  | .lst xs => some xs
  | _ => none
def zipOf (d e : D) : Option (List D) := match d, e with
  | .lst xs, .lst ys => some (zipD xs ys)
  | .tup xs, .tup ys => some (zipD xs ys)
  | _, _ => none
def intO (d : D) : Option Int := match d with
  | .int i => some i
  | _ => none
/-- what an argument becomes for a method that changes its object -/
def mutM (m : Mt) (n : Nat) (ds : List D) : R Wv := fun M => match M[n]?, m, ds with
  | some (.lst xs), .append, [d] => if xs.length < sizeLine then .ok (.val .non) (M.set n (.lst (xs ++ [d]))) else .no
  | some (.lst xs), .extend, [.lst ys] => if xs.length + ys.length ≤ sizeLine then .ok (.val .non) (M.set n (.lst (xs ++ ys))) else .no
  | some (.lst xs), .pop, [] => match xs.getLast? with
    | some y => .ok (.val y) (M.set n (.lst xs.dropLast))
    | none => .no
  | _, _, _ => .no
def mutW (m : Mt) (x : Wv) (ds : List D) : R Wv := match x with
  | .loc n => mutM m n ds
  | .val _ => stuck
def kindM : Mt → D → Bool
  | .get, .dict _ _ => true
  | .find, .str _ => true
  | .join, .str _ => true
  | .split, .str _ => true
  | .upper, .str _ => true
  | .count, .str _ => true
  | .index, .lst _ => true
  | .append, .lst _ => true
  | .extend, .lst _ => true
  | .pop, .lst _ => true
  | _, _ => false
def Mt.mut : Mt → Bool
  | .append => true | .extend => true | .pop => true | _ => false
mutual
def ev (C : Calls) : E → En → R Wv
  | .var i _ _, s => opt (get1 s i)
  | .con c _ _, _ => val? (conD c)
  | .glb x _, _ => val? (C.gl x)
  | .bin a op b _, s => bnd (ev C a s) fun x => bnd (ev C b s) fun y => bnd (rd x) fun d => bnd (rd y) fun e => val? (opBin op d e)
  | .neg a _, s => bnd (ev C a s) fun x => bnd (rd x) fun d => val? (opNeg d)
  | .nt a _, s => bnd (ev C a s) fun x => bnd (tst x) fun b => ret (.val (.bl (!b)))
  | .bop op es _, s => evB C op es s
  | .cmp a op b _, s => bnd (ev C a s) fun x => bnd (ev C b s) fun y => bnd (rd x) fun d => bnd (rd y) fun e => bool? (opCmp op d e)
  | .chn a op b op2 c _, s => bnd (ev C a s) fun x => bnd (ev C b s) fun y => bnd (rd x) fun d => bnd (rd y) fun e =>
    bnd (opt (opCmp op d e)) fun t => if t = true then bnd (ev C c s) fun z => bnd (rd y) fun e => bnd (rd z) fun f => bool? (opCmp op2 e f) else ret (.val (.bl false))
  | .tup es _ _, s => bnd (evL C es s) fun ds => ret (.val (tupV ds))
  | .lst es _, s => bnd (evL C es s) fun ds => ret (.val (.lst ds))
  | .dic es _, s => bnd (evK C es s) fun kvs => ret (.val (dictD (mergeD [] kvs)))
  | .idx a b _, s => bnd (ev C a s) fun x => bnd (ev C b s) fun y => bnd (rd x) fun d => bnd (rd y) fun e => val? (opIdx d e)
  | .slc a lo hi _ _, s => bnd (ev C a s) fun x => bnd (evO C lo s) fun l => bnd (evO C hi s) fun h => bnd (rd x) fun d => val? (opSlc d l h)
  | .rvs a _ _ _ _ _, s => bnd (ev C a s) fun x => bnd (rd x) fun d => val? (opRvs d)
  | .blt f _ es _, s => bnd (evW C es s) fun ws => match plArg f ws with
    | some ps => val? ((pairsD ps).map fun kvs => dictD (mergeD [] kvs))
    | none => bnd (rdL ws) fun ds => val? (opBlt f ds)
  | .trg a _ _ _ _, s => bnd (ev C a s) fun x => bnd (rd x) fun d => val? (opTrg d)
  | .sset a _ _ _ _, s => bnd (ev C a s) fun x => bnd (rd x) fun d => val? (opSet d)
  | .isi a t _ _ _, s => bnd (ev C a s) fun x => match x with
    | .val d => ret (.val (.bl (isT t d)))
    | .loc _ => stuck
  | .mth o m _ es _, s => bnd (ev C o s) fun x => bnd (rd x) fun d0 => if kindM m d0 = true then bnd (evL C es s) fun ds => if m.mut = true then mutW m x ds else bnd (rd x) fun d => val? (opMth m d ds) else stuck
  | .cal f _ es _, s => if C.has f = true then bnd (evP C es s) fun ds => ofPO (C.pc f ds) else stuck
  | .cali f _ es _, s => if C.hasI f = true then bnd (evW C es s) fun ws => C.ic f ws else stuck
  | .lc elt tg it cond _ _, s => bnd (evI C it s) fun r => if r.2.length ≤ sizeLine then bnd (lcLoop (fun d => nox (bnd (opt (tg.bind d (wipeE s (tg.own.map (·.2))))) fun s' =>
      bnd (evC (if r.1 = true then C.locked else C) cond s') fun b => if b = true then bnd (ev (if r.1 = true then C.locked else C) elt s') fun w => bnd (vl w) fun d => ret (some d) else ret none)) r.2) fun ds => ret (.val (.lst ds)) else stuck
def evB (C : Calls) (op : BoolOp) : List E → En → R Wv
  | [], _ => stuck
  | [e], s => ev C e s
  | e :: e' :: es, s => bnd (ev C e s) fun x => bnd (tst x) fun b => match op, b with
    | .And, true => evB C op (e' :: es) s
    | .And, false => ret (.val (.bl false))
    | .Or, true => ret (.val (.bl true))
    | .Or, false => evB C op (e' :: es) s
def evL (C : Calls) : List E → En → R (List D)
  | [], _ => ret []
  | e :: es, s => bnd (ev C e s) fun w => bnd (vl w) fun d => bnd (evL C es s) fun ds => ret (d :: ds)
def evP (C : Calls) : List E → En → R (List D)
  | [], _ => ret []
  | e :: es, s => bnd (ev C e s) fun w => bnd (vp w) fun d => bnd (evP C es s) fun ds => ret (d :: ds)
def evW (C : Calls) : List E → En → R (List Wv)
  | [], _ => ret []
  | e :: es, s => bnd (ev C e s) fun w => bnd (evW C es s) fun ws => ret (w :: ws)
def evK (C : Calls) : List E → En → R (List (Key × D))
  | k :: v :: r, s => bnd (ev C k s) fun w => bnd (rd w) fun d => bnd (opt (keyD d)) fun k' => bnd (ev C v s) fun x => bnd (vl x) fun e => bnd (evK C r s) fun r => ret ((k', e) :: r)
  | [], _ => ret []
  | [_], _ => stuck
def evO (C : Calls) : Option E → En → R (Option Int)
  | none, _ => ret none
  | some e, s => bnd (ev C e s) fun w => bnd (rd w) fun d => bnd (opt (intO d)) fun i => ret (some i)
def evC (C : Calls) : Option E → En → R Bool
  | none, _ => ret true
  | some e, s => bnd (ev C e s) fun w => tst w
def evI (C : Calls) : I → En → R (Bool × List D)
  | .seq e, s => bnd (ev C e s) fun w => bnd (vl w) fun d => match dictKs d with
    | some ks => if isVar e = true ∧ C.lk = false then ret (true, ks.map Dk) else stuck
    | none => bnd (opt (itemsD d)) fun ds => ret (false, ds)
  | .rng es _ _, s => bnd (evL C es s) fun ds => bnd (opt (rngOf ds)) fun xs => ret (false, xs)
  | .zip a b _ _, s => bnd (ev C a s) fun w => bnd (vl w) fun d => bnd (ev C b s) fun w' => bnd (vl w') fun e => bnd (opt (zipOf d e)) fun xs => ret (false, xs)
  | .enu a _ _, s => bnd (ev C a s) fun w => bnd (vl w) fun d => bnd (opt (lstD d)) fun xs => ret (false, enuD 0 xs)
def rdL : List Wv → R (List D)
  | [] => ret []
  | w :: ws => bnd (rd w) fun d => bnd (rdL ws) fun ds => ret (d :: ds)
end

/-! ### statements -/
def evIn (C : Calls) (it : I) (s : En) : R (List D) := bnd (evI C it s) fun r => if r.1 = true then stuck else ret r.2
inductive Fl where
  | nx (s : En) | rt (w : Wv) | bk (s : En) | ct (s : En)
def forLoop (f : D → En → R Fl) : List D → En → R Fl
  | [], s => ret (.nx s)
  | d :: ds, s => bnd (f d s) fun r => match r with
    | .nx s' => forLoop f ds s'
    | .ct s' => forLoop f ds s'
    | .bk s' => ret (.nx s')
    | .rt w => ret (.rt w)
def wLoop (c : En → R Bool) (f : En → R Fl) : Nat → En → R Fl
  | 0, _ => stuck
  | n + 1, s => bnd (c s) fun b => if b = true then bnd (f s) fun r => match r with
      | .nx s' => wLoop c f n s'
      | .ct s' => wLoop c f n s'
      | .bk s' => ret (.nx s')
      | .rt w => ret (.rt w)
    else ret (.nx s)
def freshE : E → Bool
  | .lst .. => true
  | .dic .. => true
  | .blt .list .. => true
  | .blt .dict .. => true
  | .bin _ .Add _ _ => true
  | _ => false
def cellOf : Wv → Option Cell
  | .val (.lst ds) => some (.lst ds)
  | .val (.dict ks ds) => some (.dict ks ds)
  | _ => none
def newCell (c : Cell) : R Nat := fun m => .ok m.length (m ++ [c])
def bindAll : List (Nat × Str × Pos) → List D → En → Option En
  | [], [], s => some s
  | (i, _, _) :: r, d :: ds, s => bindAll r ds (s.set i (some (.val d)))
  | _, _, _ => none
def setC (n : Nat) (k : Key) (d : D) : R Unit := fun M => match M[n]? with
  | some (.dict ks ds) => if ks.length < sizeLine then .ok () (M.set n (.dict ((putD (ks.zip ds) k d).map (·.1)) ((putD (ks.zip ds) k d).map (·.2)))) else .no
  | _ => .no
def setX (n : Nat) (i : Int) (d : D) : R Unit := fun M => match M[n]? with
  | some (.lst xs) => match ixN xs.length i with
      | some j => .ok () (M.set n (.lst (xs.set j d)))
      | none => .no
  | _ => .no
def locW (w : Wv) : Option Nat := match w with
  | .loc n => some n
  | .val _ => none
def tupD : D → Option (List D)
  | .tup xs => some xs
  | _ => none
def fuelW : Nat := 100000
mutual
def exec (C : Calls) : S → En → R Fl
  | .asg i _ _ e _ false, s => bnd (ev C e s) fun w => ret (.nx (s.set i (some w)))
  | .asg i _ _ e _ true, s => if freshE e = true then bnd (ev C e s) fun w => bnd (opt (cellOf w)) fun c => bnd (newCell c) fun n => ret (.nx (s.set i (some (.loc n)))) else stuck
  | .tasg ts _ _ e _, s => bnd (ev C e s) fun w => bnd (vl w) fun d => bnd (opt (tupD d)) fun ds => bnd (opt (bindAll ts ds s)) fun s' => ret (.nx s')
  | .par i _ _ j _ _ _ _ a b _ _ _, s => bnd (ev C a s) fun x => bnd (ev C b s) fun y => ret (.nx ((s.set i (some x)).set j (some y)))
  | .setI o i e _ _, s => bnd (ev C e s) fun w => bnd (vl w) fun d => bnd (ev C o s) fun x => bnd (ev C i s) fun y => bnd (rd y) fun k => bnd (opt (keyD k)) fun k => bnd (opt (locW x)) fun n => bnd (setC n k d) fun _ => ret (.nx s)
  | .setL o i e _ _, s => bnd (ev C e s) fun w => bnd (vl w) fun d => bnd (ev C o s) fun x => bnd (ev C i s) fun y => bnd (rd y) fun k => bnd (opt (intO k)) fun k => bnd (opt (locW x)) fun n => bnd (setX n k d) fun _ => ret (.nx s)
  | .ex e _, s => bnd (ev C e s) fun _ => ret (.nx s)
  | .iff c a b _, s => bnd (ev C c s) fun w => bnd (tst w) fun t => if t = true then execs C a s else execs C b s
  | .fr tg it body _, s => bnd (evIn C it s) fun items => forLoop (fun d s' => bnd (opt (tg.bind d s')) fun s'' => execs C body s'') items s
  | .whl c body _, s => wLoop (fun s' => bnd (ev C c s') fun w => tst w) (fun s' => execs C body s') fuelW s
  | .rt e _, s => bnd (ev C e s) fun w => ret (.rt w)
  | .pas _, s => ret (.nx s)
  | .brk _, s => ret (.bk s)
  | .cont _, s => ret (.ct s)
def execs (C : Calls) : List S → En → R Fl
  | [], s => ret (.nx s)
  | st :: r, s => bnd (exec C st s) fun f => match f with
    | .nx s' => execs C r s'
    | f => ret f
end
/-- a def -/
structure Def where
  ps : List Str
  N : List Str
  sc : Scope
  body : List S
def Def.env (d : Def) (ds : List D) : En := ds.map (fun d => some (.val d)) ++ List.replicate (d.N.length - ds.length) none
def flPO : Out Fl → PO
  | .ok (.rt w) m => match vp w m with
    | .ok d _ => .ok d
    | _ => .no
  | .ok (.nx _) _ => .ok .non
  | .exc c _ => .exc c
  | _ => .no
def runB (C : Calls) (d : Def) (ds : List D) : PO := if ds.length = d.ps.length then flPO (execs C d.body (d.env ds) []) else .no
def Def.envW (d : Def) (ws : List Wv) : En := ws.map some ++ List.replicate (d.N.length - ws.length) none
def flW : Out Fl → Out Wv
  | .ok (.rt w) m => .ok w m
  | .ok (.nx _) m => .ok (.val .non) m
  | .exc c m => .exc c m
  | _ => .no
def runI (C : Calls) (d : Def) (ws : List Wv) : R Wv := fun M => if ws.length = d.ps.length then flW (G9.execs C d.body (d.envW ws) M) else .no
def callB (T TI : Str → Option Def) (gl : Str → Option D) : Nat → (Str → List D → PO) × (Str → List Wv → R Wv)
  | 0 => (fun _ _ => .no, fun _ _ _ => .no)
  | n + 1 => (fun f ds => match T f with
    | some d => runB ⟨(callB T TI gl n).1, false, gl, fun f => (T f).isSome, (callB T TI gl n).2, fun f => (TI f).isSome⟩ d ds
    | none => .no, fun f ws => match TI f with
    | some d => runI ⟨(callB T TI gl n).1, false, gl, fun f => (T f).isSome, (callB T TI gl n).2, fun f => (TI f).isSome⟩ d ws
    | none => fun _ => .no)
def callP (T TI : Str → Option Def) (gl : Str → Option D) (n : Nat) : Str → List D → PO := (callB T TI gl n).1
def callI (T TI : Str → Option Def) (gl : Str → Option D) (n : Nat) : Str → List Wv → R Wv := (callB T TI gl n).2
theorem callP_S {T TI : Str → Option Def} {gl : Str → Option D} {n : Nat} {f : Str} {d : Def} (h : T f = some d) (ds : List D) : callP T TI gl (n + 1) f ds = runB ⟨callP T TI gl n, false, gl, fun f => (T f).isSome, callI T TI gl n, fun f => (TI f).isSome⟩ d ds := by
  simp only [callP, callB, h]
  rfl
theorem callI_S {T TI : Str → Option Def} {gl : Str → Option D} {n : Nat} {f : Str} {d : Def} (h : TI f = some d) (ws : List Wv) : callI T TI gl (n + 1) f ws = runI ⟨callP T TI gl n, false, gl, fun f => (T f).isSome, callI T TI gl n, fun f => (TI f).isSome⟩ d ws := by
  simp only [callI, callB, h]
  rfl

/-! ### what a text must keep -/
def mthB (m : Mt) (es : List E) : Bool := match m with | .get => es.length == 1 || es.length == 2 | .pop => es.length == 0 | .upper => false | .count => false | _ => !es.isEmpty
def visB (sc : Scope) (x : Str) : Bool := (match sc.names.lookup x with | some .local => true | some .cell => true | some .free => true | _ => false) && !(x == ("__debug__" : Str)) && !(x == ("__classdict__" : Str))
def locB (sc : Scope) (x : Str) : Bool := match sc.names.lookup x with | some .local => true | some .cell => true | _ => false
def lclB (sc : Scope) (x : Str) : Bool := match sc.names.lookup x with | some .local => true | _ => false
def glbB (sc : Scope) (x : Str) : Bool := (match sc.names.lookup x with | some .globalImplicit => true | _ => false) && !(x == ("__debug__" : Str))
def bltB (bl : List Str) (sc : Scope) (x : Str) : Bool := glbB sc x && bl.contains x && !(x == ("__name__" : Str))
def baseB : E → Bool
  | .cal _ _ [] _ => false
  | .cali _ _ [] _ => false
  | _ => true
def Tgt.okB (N : List Str) (loc : Str → Bool) (tg : Tgt) : Bool := tg.own.all fun p => decide (N[p.2]? = some p.1) && loc p.1
def Tgt.isTwo : Tgt → Bool
  | .one .. => false
  | .two i _ _ j _ _ _ _ => i != j
mutual
def wfE (bl N : List Str) : Scope → E → Bool
  | sc, .var i x _ => decide (N[i]? = some x) && visB sc x
  | _, .con .. => true
  | sc, .glb x _ => glbB sc x
  | sc, .bin a _ b _ => wfE bl N sc a && wfE bl N sc b
  | sc, .neg a _ => wfE bl N sc a
  | sc, .nt a _ => wfE bl N sc a
  | sc, .bop _ es _ => wfL bl N sc es && !es.isEmpty
  | sc, .cmp a _ b _ => wfE bl N sc a && wfE bl N sc b
  | sc, .chn a _ b _ c _ => wfE bl N sc a && wfE bl N sc b && wfE bl N sc c
  | sc, .tup es _ _ => wfL bl N sc es && decide (es.length ≤ 1000)
  | sc, .lst es _ => wfL bl N sc es && decide (es.length ≤ 1000)
  | sc, .dic es _ => wfL bl N sc es && decide (es.length % 2 = 0) && decide (es.length ≤ 30)
  | sc, .idx a b _ => wfE bl N sc a && wfE bl N sc b
  | sc, .slc a lo hi _ _ => wfE bl N sc a && wfO bl N sc lo && wfO bl N sc hi
  | sc, .rvs a _ _ _ _ _ => wfE bl N sc a
  | sc, .blt f _ es _ => wfL bl N sc es && bltB bl sc f.name && !es.isEmpty
  | sc, .trg a _ _ _ _ => wfE bl N sc a && bltB bl sc "tuple" && bltB bl sc "range"
  | sc, .sset a _ _ _ _ => wfE bl N sc a && bltB bl sc "sorted" && bltB bl sc "set"
  | sc, .isi a t _ _ _ => wfE bl N sc a && bltB bl sc "isinstance" && bltB bl sc t.name
  | sc, .mth o m pa es p => wfE bl N sc o && wfL bl N sc es && baseB o && (pa.endLine == p.line) && decide (es.length < 20) && mthB m es
  | sc, .cal f _ es _ => wfL bl N sc es && glbB sc f && !es.isEmpty
  | sc, .cali f _ es _ => wfL bl N sc es && glbB sc f && !es.isEmpty
  | sc, .lc elt tg it cond scope _ => wfI bl N sc tg.isTwo it && blkC N sc scope tg.own && tg.okB N (lclB scope) && wfO bl N (relS scope sc) cond && wfE bl N (relS scope sc) elt
def wfL (bl N : List Str) : Scope → List E → Bool
  | _, [] => true
  | sc, e :: es => wfE bl N sc e && wfL bl N sc es
def wfO (bl N : List Str) : Scope → Option E → Bool
  | _, none => true
  | sc, some e => wfE bl N sc e
def wfI (bl N : List Str) : Scope → Bool → I → Bool
  | sc, _, .seq e => wfE bl N sc e
  | sc, _, .rng es _ _ => wfL bl N sc es && bltB bl sc "range" && (es.length == 1 || es.length == 2)
  | sc, two, .zip a b _ _ => wfE bl N sc a && wfE bl N sc b && bltB bl sc "zip" && two
  | sc, two, .enu a _ _ => wfE bl N sc a && bltB bl sc "enumerate" && two
end
end G9

set_option Elab.async false
set_option linter.all false
set_option maxRecDepth 100000
set_option maxHeartbeats 1000000
namespace G9
open PySem PySem.Spec PyProof.Rows L2

theorem PE.weak {X : Cx} {e : Expr} {t t' : TE} (h : PE X e t) (w : ∀ σ H Q, t' σ H Q → t σ H Q) : PE X e t' := ⟨fun pins s σ H Q I q => h.run pins s σ H Q I (w σ H Q q)⟩
theorem PT.weak {X : Cx} {e : Expr} {t t' : TT} (h : PT X e t) (w : ∀ σ H Q, t' σ H Q → t σ H Q) : PT X e t' := ⟨fun pins s σ H Q I q => h.run pins s σ H Q I (w σ H Q q)⟩
theorem PW.weak {X : Cx} {e : Expr} {t t' : TT} (h : PW X e t) (w : ∀ σ H Q, t' σ H Q → t σ H Q) : PW X e t' := ⟨fun wh pins s σ H Q I q => h.run wh pins s σ H Q I (w σ H Q q)⟩
theorem PA.weak {X : Cx} {e : List Expr} {t t' : TA} (h : PA X e t) (w : ∀ σ H Q, t' σ H Q → t σ H Q) : PA X e t' := ⟨fun p pins s σ H Q I q => h.run p pins s σ H Q I (w σ H Q q)⟩
theorem PS.weak {X : Cx} {e : Stmt} {t t' : TS} (h : PS X e t) (w : ∀ D σ H, t' D σ H → t D σ H) : PS X e t' := ⟨fun pins s σ H D I q => h.run pins s σ H D I (w D σ H q)⟩
theorem PSs.weak {X : Cx} {e : List Stmt} {t t' : TS} (h : PSs X e t) (w : ∀ D σ H, t' D σ H → t D σ H) : PSs X e t' := ⟨fun pins s σ H D I q => h.run pins s σ H D I (w D σ H q)⟩
theorem PO.weak {X : Cx} {e : Option Expr} {t t' : TO} (h : L2.PO X e t) (w : ∀ σ H Q, t' σ H Q → t σ H Q) : L2.PO X e t' := ⟨fun pins s σ H Q I q => h.run pins s σ H Q I (w σ H Q q)⟩
theorem PI.weak {X : Cx} {tg e : Expr} {t t' : TI} (h : PI X tg e t) (w : ∀ σ H Q, t' σ H Q → t σ H Q) : PI X tg e t' := ⟨fun pins s σ H Q I q => h.run pins s σ H Q I (w σ H Q q)⟩
theorem PI.or {X : Cx} {tg e : Expr} {t t' : TI} (h : PI X tg e t) (h' : PI X tg e t') : PI X tg e (fun σ H Q => t σ H Q ∨ t' σ H Q) := ⟨fun pins s σ H Q I q => q.elim (h.run pins s σ H Q I) (h'.run pins s σ H Q I)⟩
theorem PE.or {X : Cx} {e : Expr} {t t' : TE} (h : PE X e t) (h' : PE X e t') : PE X e (fun σ H Q => t σ H Q ∨ t' σ H Q) := ⟨fun pins s σ H Q I q => q.elim (h.run pins s σ H Q I) (h'.run pins s σ H Q I)⟩

/-! ### outcomes -/
section
variable (K : PySem.W.Frag) (lk : Option Addr) (EX : Str → Hp → Prop)
def Good {α β : Type} (G H : Hp) (ρ : List Addr) (o : Out α) (Rl : Hp → Hp → List Addr → α → β → Prop) (Q : β → Hp → Prop) : Prop := match o with
  | .ok a M' => ∀ b G' H' ρ', Step G H ρ G' H' ρ' → SI K lk G' H' ρ' M' → Rl G' H' ρ' a b → Q b H'
  | .exc c M' => ∀ G' H' ρ', Step G H ρ G' H' ρ' → SI K lk G' H' ρ' M' → EX c H'
  | .no => False
end
section
variable {K : PySem.W.Frag} {lk : Option Addr} {EX : Str → Hp → Prop} {G H G1 H1 : Hp} {ρ ρ1 : List Addr} {M : List Cell}
theorem Good.step {α β : Type} {o : Out α} {Rl : Hp → Hp → List Addr → α → β → Prop} {Q : β → Hp → Prop} (s : Step G H ρ G1 H1 ρ1) (h : Good K lk EX G H ρ o Rl Q) : Good K lk EX G1 H1 ρ1 o Rl Q := by
  cases o with
  | ok a M' => exact fun b G' H' ρ' s' I r => h b G' H' ρ' (s.trans s') I r
  | exc c M' => exact fun G' H' ρ' s' I => h G' H' ρ' (s.trans s') I
  | no => exact h
/-- a part, then the rest -/
theorem good_bnd {α α' β β' : Type} {x : R α} {f : α → R α'} {Rl : Hp → Hp → List Addr → α' → β' → Prop} {Q : β' → Hp → Prop} (Rl1 : Hp → Hp → List Addr → α → β → Prop) (h : Good K lk EX G H ρ (bnd x f M) Rl Q) :
    Good K lk EX G H ρ (x M) Rl1 (fun b H1 => ∃ G1 ρ1 M1 a, Step G H ρ G1 H1 ρ1 ∧ SI K lk G1 H1 ρ1 M1 ∧ Rl1 G1 H1 ρ1 a b ∧ Good K lk EX G1 H1 ρ1 (f a M1) Rl Q) := by
  unfold bnd at h
  cases e : x M with
  | ok a M1 =>
    rw [e] at h
    exact fun b G' H' ρ' s I r => ⟨G', ρ', M1, a, s, I, r, Good.step s h⟩
  | exc c M1 =>
    rw [e] at h
    exact fun G' H' ρ' s I => h G' H' ρ' s I
  | no => rw [e] at h; exact h
theorem good_opt {α α' β' : Type} {o : Option α} {f : α → R α'} {Rl : Hp → Hp → List Addr → α' → β' → Prop} {Q : β' → Hp → Prop} (h : Good K lk EX G H ρ (bnd (opt o) f M) Rl Q) :
    ∃ a, o = some a ∧ Good K lk EX G H ρ (f a M) Rl Q := by
  cases o with
  | none => exact (show False from h).elim
  | some a => exact ⟨a, rfl, h⟩
theorem good_opt' {α β : Type} {o : Option α} {Rl : Hp → Hp → List Addr → α → β → Prop} {Q : β → Hp → Prop} (h : Good K lk EX G H ρ (opt o M) Rl Q) : ∃ a, o = some a ∧ Good K lk EX G H ρ (ret a M) Rl Q := by
  cases o with
  | none => exact (show False from h).elim
  | some a => exact ⟨a, rfl, h⟩
theorem good_val? {β : Type} {o : Option D} {Rl : Hp → Hp → List Addr → Wv → β → Prop} {Q : β → Hp → Prop} (h : Good K lk EX G H ρ (val? o M) Rl Q) : ∃ d, o = some d ∧ Good K lk EX G H ρ (ret (.val d) M) Rl Q := by
  cases o with
  | none => exact (show False from h).elim
  | some a => exact ⟨a, rfl, h⟩
theorem good_bool? {β : Type} {o : Option Bool} {Rl : Hp → Hp → List Addr → Wv → β → Prop} {Q : β → Hp → Prop} (h : Good K lk EX G H ρ (bool? o M) Rl Q) : ∃ d, o = some d ∧ Good K lk EX G H ρ (ret (.val (.bl d)) M) Rl Q := by
  cases o with
  | none => exact (show False from h).elim
  | some a => exact ⟨a, rfl, h⟩
theorem good_ret {α β : Type} {a : α} {Rl : Hp → Hp → List Addr → α → β → Prop} {Q : β → Hp → Prop} (h : Good K lk EX G H ρ (ret a M) Rl Q) {b : β} {G' H' : Hp} {ρ' : List Addr} (s : Step G H ρ G' H' ρ') (I : SI K lk G' H' ρ' M) (r : Rl G' H' ρ' a b) : Q b H' :=
  h b G' H' ρ' s I r
theorem good_tst {α' β' : Type} {w : Wv} {f : Bool → R α'} {Rl : Hp → Hp → List Addr → α' → β' → Prop} {Q : β' → Hp → Prop} (h : Good K lk EX G H ρ (bnd (tst w) f M) Rl Q) : ∃ b, w = .val (.bl b) ∧ Good K lk EX G H ρ (f b M) Rl Q := by
  cases w with
  | loc n => exact (show False from h).elim
  | val d => cases d with
    | bl b => exact ⟨b, rfl, h⟩
    | _ => exact (show False from h).elim

/-! ### a value read -/
def ShR (K : PySem.W.Frag) (G H : Hp) : D → V → Prop
  | .non, v => v = .non
  | .bl b, v => v = .bl b
  | .int i, v => v = .int i
  | .str s, v => v = .str s
  | .tup ds, v => ∃ a vs, v = .ref a ∧ SqT K G a vs ∧ RepL K G ds vs
  | .lst ds, v => ∃ a vs, v = .ref a ∧ H a = some (.lst vs) ∧ RepL K G ds vs
  | .dict ks ds, v => ∃ a kvs, v = .ref a ∧ Rd H a (.dK kvs) ∧ kvs.map (·.1) = ks ∧ RepL K G ds (kvs.map (·.2))
  | .scr ns, v => ∃ a, v = .ref a ∧ SqL K H a (ns.map V.int)
  | .ptp ds, v => ∃ a vs, v = .ref a ∧ PlT G a vs ∧ RepL K G ds vs
theorem SI.rd (I : SI K lk G H ρ M) {a : Addr} {u : HO} (h : G a = some u) : Rd H a u := by
  rcases I.sub a u h with q | ⟨_, o, kvs, e, q⟩
  · exact .inl q
  · exact .inr ⟨o, q⟩
theorem SI.rdL (I : SI K lk G H ρ M) {a : Addr} {vs : List V} (h : G a = some (.lst vs)) : H a = some (.lst vs) := by
  rcases I.sub a _ h with q | ⟨_, o, kvs, e, q⟩
  · exact q
  · cases e
theorem SI.sqt (I : SI K lk G H ρ M) {a : Addr} {vs : List V} (h : SqT K G a vs) : SqT K H a vs := by
  rcases h with (h | ⟨o, h⟩) | h
  · exact .inl (I.rd h)
  · rcases I.sub a _ h with q | ⟨_, o, kvs, e, q⟩
    · exact .inl (.inr ⟨_, q⟩)
    · cases e
  · exact .inr h
theorem SI.sql (I : SI K lk G H ρ M) {a : Addr} {vs : List V} (h : SqL K G a vs) : SqL K H a vs := by
  rcases h with (h | ⟨o, h⟩) | h
  · exact .inl (I.rd h)
  · rcases I.sub a _ h with q | ⟨_, o, kvs, e, q⟩
    · exact .inl (.inr ⟨_, q⟩)
    · cases e
  · exact .inr h
theorem SI.shr (I : SI K lk G H ρ M) {d : D} {v : V} (h : Rep K G d v) : ShR K G H d v := by
  cases d with
  | lst ds => obtain ⟨a, vs, e, h1, h2⟩ := h; exact ⟨a, vs, e, I.rdL h1, h2⟩
  | dict ks ds => obtain ⟨a, vs, e, h1, h2⟩ := h; exact ⟨a, vs, e, I.rd h1, h2⟩
  | scr ns => obtain ⟨a, e, h1⟩ := h; exact ⟨a, e, I.sql h1⟩
  | _ => exact h
theorem SI.cellR (I : SI K lk G H ρ M) {n : Nat} {a : Addr} {c : Cell} (h1 : ρ[n]? = some a) (h2 : M[n]? = some c) : ShR K G H c.toD (.ref a) := by
  have z := I.cell n a c h1 h2
  cases c with
  | lst ds => obtain ⟨_, vs, z1, z2⟩ := z; exact ⟨a, vs, rfl, z1, z2⟩
  | dict ks ds => obtain ⟨_, vs, z1, z2⟩ := z; exact ⟨a, vs, rfl, .inl z1, z2⟩
  | frz d => exact I.shr z.1
theorem good_rd {α' β' : Type} {w : Wv} {v : V} {f : D → R α'} {Rl : Hp → Hp → List Addr → α' → β' → Prop} {Q : β' → Hp → Prop} (I : SI K lk G H ρ M) (r : RepW K G ρ w v) (h : Good K lk EX G H ρ (bnd (rd w) f M) Rl Q) :
    ∃ d, ShR K G H d v ∧ Good K lk EX G H ρ (f d M) Rl Q := by
  cases w with
  | val d => exact ⟨nrm d, I.shr r.nrm, h⟩
  | loc n =>
    obtain ⟨a, e1, e2⟩ := r
    subst e2
    cases e : M[n]? with
    | none =>
      have e' : rd (.loc n) M = .no := by simp [rd, e]
      unfold bnd at h
      rw [e'] at h
      exact h.elim
    | some c =>
      have e' : rd (.loc n) M = .ok c.toD M := by simp [rd, e]
      unfold bnd at h
      rw [e'] at h
      exact ⟨c.toD, I.cellR e1 e, h⟩
/-- a cell is frozen -/
theorem SI.freeze (I : SI K lk G H ρ M) {n : Nat} {a : Addr} {c : Cell} (h1 : ρ[n]? = some a) (h2 : M[n]? = some c) :
    ∃ G1, SI K lk G1 H ρ (M.set n (.frz c.toD)) ∧ Step G H ρ G1 H ρ ∧ Rep K G1 c.toD (.ref a) := by
  have hn : n < M.length := (List.getElem?_eq_some_iff.mp h2).1
  have mem : a ∈ ρ := List.mem_of_getElem? h1
  have z := I.cell n a c h1 h2
  have key : ∀ u, G a = none → H a = some u → (Rep K (upd G a u) c.toD (.ref a)) → ∃ G1, SI K lk G1 H ρ (M.set n (.frz c.toD)) ∧ Step G H ρ G1 H ρ ∧ Rep K G1 c.toD (.ref a) := by
    intro u hg hh hr
    have s0 : Sub0 G (upd G a u) := fun b o q => by rw [upd_ne (ne_of_none q hg)]; exact q
    refine ⟨upd G a u, ⟨fun b o q => ?_, I.nd, by rw [List.length_set]; exact I.len, fun m b c' e1 e2 => ?_⟩, ⟨s0, ⟨[], by simp⟩, fun _ _ q _ => q, fun b o q => ?_, fun _ q => .inl q, fun _ q => q⟩, hr⟩
    · by_cases e : b = a
      · subst e; rw [upd_same] at q; cases q; exact .inl hh
      · rw [upd_ne e] at q; exact I.sub b o q
    · by_cases e : m = n
      · subst e
        rw [List.getElem?_set_self hn] at e2
        cases e2
        rw [h1] at e1; cases e1
        exact ⟨hr, u, upd_same⟩
      · rw [List.getElem?_set_ne (Ne.symm e)] at e2
        have ne : b ≠ a := fun z => e (L2.nd_ix I.nd e1 (z ▸ h1))
        have c0 := I.cell m b c' e1 e2
        cases c' with
        | lst ds => obtain ⟨z1, vs, z2, z3⟩ := c0; exact ⟨by rw [upd_ne ne]; exact z1, vs, z2, RepL.sub s0 z3⟩
        | dict ks ds => obtain ⟨z1, vs, z2, z3, z4⟩ := c0; exact ⟨by rw [upd_ne ne]; exact z1, vs, z2, z3, RepL.sub s0 z4⟩
        | frz d => obtain ⟨z1, o, z2⟩ := c0; exact ⟨Rep.sub s0 z1, o, s0 _ _ z2⟩
    · by_cases e : b = a
      · subst e; exact .inr (.inr mem)
      · rw [upd_ne e] at q; exact .inl ⟨o, q⟩
  cases c with
  | lst ds =>
    obtain ⟨z1, vs, z2, z3⟩ := z
    exact key _ z1 z2 ⟨a, vs, rfl, upd_same, RepL.sub (fun b o q => by rw [upd_ne (ne_of_none q z1)]; exact q) z3⟩
  | dict ks ds =>
    obtain ⟨z1, vs, z2, z3, z4⟩ := z
    exact key _ z1 z2 ⟨a, vs, rfl, upd_same, z3, RepL.sub (fun b o q => by rw [upd_ne (ne_of_none q z1)]; exact q) z4⟩
  | frz d =>
    refine ⟨G, ⟨I.sub, I.nd, by rw [List.length_set]; exact I.len, fun m b c' e1 e2 => ?_⟩, Step.refl _ _ _, z.1⟩
    by_cases e : m = n
    · subst e
      rw [List.getElem?_set_self hn] at e2
      cases e2
      rw [h1] at e1; cases e1
      exact z
    · rw [List.getElem?_set_ne (Ne.symm e)] at e2
      exact I.cell m b c' e1 e2
theorem good_vl {α' β' : Type} {w : Wv} {v : V} {f : D → R α'} {Rl : Hp → Hp → List Addr → α' → β' → Prop} {Q : β' → Hp → Prop} (I : SI K lk G H ρ M) (r : RepW K G ρ w v) (h : Good K lk EX G H ρ (bnd (vl w) f M) Rl Q) :
    ∃ d G1 M1, Step G H ρ G1 H ρ ∧ SI K lk G1 H ρ M1 ∧ Rep K G1 d v ∧ Good K lk EX G1 H ρ (f d M1) Rl Q := by
  cases w with
  | val d => exact ⟨nrm d, G, M, Step.refl _ _ _, I, r.nrm, h⟩
  | loc n =>
    obtain ⟨a, e1, e2⟩ := r
    subst e2
    cases e : M[n]? with
    | none =>
      have e' : vl (.loc n) M = .no := by simp [vl, e]
      unfold bnd at h
      rw [e'] at h
      exact h.elim
    | some c =>
      have e' : vl (.loc n) M = .ok c.toD (M.set n (.frz c.toD)) := by simp [vl, e]
      unfold bnd at h
      rw [e'] at h
      obtain ⟨G1, I1, s1, r1⟩ := I.freeze e1 e
      exact ⟨c.toD, G1, _, s1, I1, r1, Good.step s1 h⟩
theorem good_vp {α' β' : Type} {w : Wv} {v : V} {f : D → R α'} {Rl : Hp → Hp → List Addr → α' → β' → Prop} {Q : β' → Hp → Prop} (I : SI K lk G H ρ M) (r : RepW K G ρ w v) (h : Good K lk EX G H ρ (bnd (vp w) f M) Rl Q) :
    ∃ d G1 M1, Step G H ρ G1 H ρ ∧ SI K lk G1 H ρ M1 ∧ Rep K G1 d v ∧ Good K lk EX G1 H ρ (f d M1) Rl Q := by
  cases w with
  | val d => exact ⟨d, G, M, Step.refl _ _ _, I, r, h⟩
  | loc n =>
    obtain ⟨a, e1, e2⟩ := r
    subst e2
    cases e : M[n]? with
    | none =>
      have e' : vp (.loc n) M = .no := by simp [vp, e]
      unfold bnd at h
      rw [e'] at h
      exact h.elim
    | some c =>
      have e' : vp (.loc n) M = .ok c.toD (M.set n (.frz c.toD)) := by simp [vp, e]
      unfold bnd at h
      rw [e'] at h
      obtain ⟨G1, I1, s1, r1⟩ := I.freeze e1 e
      exact ⟨c.toD, G1, _, s1, I1, r1, Good.step s1 h⟩
/-- names -/
structure EnvR (K : PySem.W.Frag) (G : Hp) (ρ : List Addr) (σ : L2.St) (s : En) : Prop where
  len : s.length = σ.length
  get : ∀ i w, get1 s i = some w → ∃ v, σ[i]? = some (some v) ∧ RepW K G ρ w v
theorem EnvR.step {σ : L2.St} {s : En} (h : EnvR K G ρ σ s) (st : Step G H ρ G1 H1 ρ1) : EnvR K G1 ρ1 σ s :=
  ⟨h.len, fun i w e => by obtain ⟨v, e1, r⟩ := h.get i w e; exact ⟨v, e1, RepW.step st r⟩⟩
theorem EnvR.set {σ : L2.St} {s : En} (h : EnvR K G ρ σ s) (i : Nat) {w : Wv} {v : V} (r : RepW K G ρ w v) : EnvR K G ρ (σ.set i (some v)) (s.set i (some w)) := by
  refine ⟨by rw [List.length_set, List.length_set]; exact h.len, fun j u e => ?_⟩
  unfold get1 at e
  by_cases hj : j = i
  · subst hj
    by_cases hl : j < s.length
    · rw [List.getElem?_set_self hl] at e
      have e' : w = u := by simpa using e
      subst e'
      exact ⟨v, List.getElem?_set_self (by rw [← h.len]; exact hl), r⟩
    · rw [List.getElem?_eq_none (by rw [List.length_set]; omega)] at e
      simp at e
  · rw [List.getElem?_set_ne (Ne.symm hj)] at e ⊢
    exact h.get j u e
theorem EnvR.unset {σ : L2.St} {s : En} (h : EnvR K G ρ σ s) (i : Nat) : EnvR K G ρ (σ.set i none) (s.set i none) := by
  refine ⟨by rw [List.length_set, List.length_set]; exact h.len, fun j u e => ?_⟩
  unfold get1 at e
  by_cases hj : j = i
  · subst hj
    by_cases hl : j < s.length
    · rw [List.getElem?_set_self hl] at e
      simp at e
    · rw [List.getElem?_eq_none (by rw [List.length_set]; omega)] at e
      simp at e
  · rw [List.getElem?_set_ne (Ne.symm hj)] at e ⊢
    exact h.get j u e
theorem EnvR.wipe {σ : L2.St} {s : En} (h : EnvR K G ρ σ s) : ∀ vs : List Nat, EnvR K G ρ (L2.wipe σ vs) (wipeE s vs)
  | [] => h
  | v :: vs => EnvR.unset (EnvR.wipe h vs) v
end
end G9

set_option Elab.async false
set_option linter.all false
set_option maxRecDepth 100000
set_option maxHeartbeats 1000000
namespace G9
open PySem PySem.Spec PyProof.Rows L2

/-! ### operators -/
abbrev rNo : R2 := fun _ _ _ _ => False
abbrev rOr (r r' : R2) : R2 := fun x y H Q => r x y H Q ∨ r' x y H Q
theorem opNo {X : Cx} {f : Value → Value → Sem Value} : OpR X f rNo := fun _ _ _ _ _ _ _ _ _ _ _ _ h => h.elim
abbrev rAddS : R2 := fun x y H Q => ∃ i j, x = .str i ∧ y = .str j ∧ i.length + j.length ≤ sizeLine ∧ Q (.str (i ++ j)) H
def rRepS : R2 := fun x y H Q => ∃ z j, x = .str z ∧ y = .int j ∧ (z.length * j.toNat ≤ 1000 ∧ -1000 ≤ j ∧ j ≤ 1000) ∧ Q (.str ⟨(List.replicate j.toNat z.cps.toList).flatten.toArray⟩) H
theorem foldl_flat (xs : Array Nat) : ∀ (n : Nat) (acc : Array Nat), (List.replicate n xs).foldl (· ++ ·) acc = acc ++ (List.replicate n xs.toList).flatten.toArray
  | 0, acc => by simp
  | n + 1, acc => by
    rw [List.replicate_succ, List.foldl_cons, foldl_flat xs n, List.replicate_succ, List.flatten_cons]
    apply Array.ext'
    simp
theorem mul_flat (z : Str) (j : Int) : Txt.mul z j = ⟨(List.replicate j.toNat z.cps.toList).flatten.toArray⟩ := by
  unfold Txt.mul
  split
  · rename_i h
    have : j.toNat = 0 := by omega
    rw [this]
    rfl
  · split
    · rename_i h1 h2
      rcases (Bool.or_eq_true _ _).mp h2 with h | h
      · have : j.toNat = 1 := by have := eq_of_beq h; omega
        rw [this]
        simp
      · have e : z.cps.size = 0 := eq_of_beq h
        have e2 : z.cps = #[] := Array.eq_empty_of_size_eq_zero e
        have : ∀ n : Nat, (List.replicate n ([] : List Nat)).flatten = [] := fun n => by induction n with
          | zero => rfl
          | succ n ih => rw [List.replicate_succ, List.flatten_cons, ih]; rfl
        cases z
        simp at e2
        subst e2
        simp [this]
    · rw [foldl_flat]; simp
theorem op_repS {X : Cx} : OpR X (binaryOp .Mult) rRepS := by
  intro pins s σ H x y v u Q I rx ry h
  obtain ⟨z, j, rfl, rfl, ⟨h1, h2, h3⟩, q⟩ := h
  obtain ⟨t, rfl⟩ := rx
  obtain ⟨t', rfl⟩ := ry
  refine SB.mul ⟨?_, fun a b c => ?_, fun a b => ?_⟩ fun t' k => ⟨.str (Txt.mul z j), H, I.tok k, ⟨t', rfl⟩, by rw [mul_flat]; exact q⟩
  · rw [decide_eq_false (by omega), decide_eq_false (by omega)]; rfl
  · have h0 : (z.length : Int) ≤ 1000 := by
      by_cases hz : z.length = 0
      · omega
      · have : z.length * 1 ≤ z.length * j.toNat := Nat.mul_le_mul_left _ (by omega)
        omega
    have : (2 ^ 63 - 1) / j ≥ 1000 := by
      apply (Int.le_ediv_iff_mul_le (by omega)).mpr
      omega
    omega
  · unfold Builtin.Str.tooLong
    have := sizeLine_eq
    simp
    omega
def rBin (K : PySem.W.Frag) : Operator → R2
  | .Add => rOr (rI0 fun i j => .int (i + j)) (rOr rAddS (rOr rCat (rCatA K)))
  | .Sub => rI0 fun i j => .int (i - j)
  | .Mult => rOr (rI CMul fun i j => .int (i * j)) (rOr rRep (rOr (rRepT K) rRepS))
  | .FloorDiv => rI CDiv fun i j => .int (i / j)
  | .Mod => rI (fun _ j => 0 < j) fun i j => .int (i % j)
  | .Pow => rI CPow fun i j => .int (i ^ j.toNat)
  | _ => rNo
theorem op_bin {X : Cx} : ∀ op : Operator, OpR X (binaryOp op) (rBin X.K op)
  | .Add => OpR.or op_add (OpR.or op_add_str (OpR.or op_cat op_catA))
  | .Sub => op_sub
  | .Mult => OpR.or op_mul (OpR.or op_rep (OpR.or op_repT op_repS))
  | .FloorDiv => op_fdiv
  | .Mod => op_mod
  | .Pow => op_pow
  | .MatMult => opNo | .Div => opNo | .LShift => opNo | .RShift => opNo | .BitOr => opNo | .BitXor => opNo | .BitAnd => opNo
section
variable {K : PySem.W.Frag} {lk : Option Addr} {G H : Hp} {ρ : List Addr} {M : List Cell} {Q : VK}
theorem RepL.rep {ds : List D} {vs : List V} (h : RepL K G ds vs) : ∀ k : Nat, RepL K G (List.replicate k ds).flatten (List.replicate k vs).flatten
  | 0 => rfl
  | k + 1 => by
    rw [List.replicate_succ, List.replicate_succ, List.flatten_cons, List.flatten_cons]
    exact RepL.append h (RepL.rep h k)
theorem RepL.nil_iff {ds : List D} {vs : List V} (h : RepL K G ds vs) : ds = [] ↔ vs = [] := by
  have e := h.length
  constructor
  · intro q; subst q; exact List.length_eq_zero_iff.mp e.symm
  · intro q; subst q; exact List.length_eq_zero_iff.mp e
/-- a new list, a new tuple that will not change -/
theorem new_lst (I : SI K lk G H ρ M) {ds : List D} {vs : List V} (r : RepL K G ds vs) (q : ∀ z G' H', Step G H ρ G' H' ρ → SI K lk G' H' ρ M → Rep K G' (.lst ds) z → Q z H') :
    ∀ p, H p = none → Q (.ref p) (upd H p (.lst vs)) := fun p hp => by
  obtain ⟨I1, s1⟩ := I.new (u := .lst vs) hp
  exact q _ _ _ s1 I1 ⟨p, vs, rfl, upd_same, RepL.sub s1.g r⟩
theorem new_tup (I : SI K lk G H ρ M) {ds : List D} {vs : List V} (r : RepL K G ds vs) (q : ∀ z G' H', Step G H ρ G' H' ρ → SI K lk G' H' ρ M → Rep K G' (.tup ds) z → Q z H') :
    ∀ p, H p = none → Q (.ref p) (upd H p (.tup vs)) := fun p hp => by
  obtain ⟨I1, s1⟩ := I.new (u := .tup vs) hp
  exact q _ _ _ s1 I1 ⟨p, vs, rfl, .inl (.inl upd_same), RepL.sub s1.g r⟩
theorem new_ptp (I : SI K lk G H ρ M) {ds : List D} {vs : List V} (r : RepL K G ds vs) (q : ∀ z G' H', Step G H ρ G' H' ρ → SI K lk G' H' ρ M → Rep K G' (.ptp ds) z → Q z H') :
    ∀ p (o : Obj), H p = none → o.dict = none → Q (.ref p) (upd H p (.frz o (.tup vs))) := fun p o hp ho => by
  obtain ⟨I1, s1⟩ := I.new (u := .frz o (.tup vs)) hp
  exact q _ _ _ s1 I1 ⟨p, vs, rfl, ⟨o, ho, upd_same⟩, RepL.sub s1.g r⟩
theorem new_dict (I : SI K lk G H ρ M) {ks : List Key} {ds : List D} {kvs : List (Key × V)} (e : kvs.map (·.1) = ks) (r : RepL K G ds (kvs.map (·.2))) (q : ∀ z G' H', Step G H ρ G' H' ρ → SI K lk G' H' ρ M → Rep K G' (.dict ks ds) z → Q z H') :
    ∀ p, H p = none → Q (.ref p) (upd H p (.dK kvs)) := fun p hp => by
  obtain ⟨I1, s1⟩ := I.new (u := .dK kvs) hp
  exact q _ _ _ s1 I1 ⟨p, kvs, rfl, upd_same, e, RepL.sub s1.g r⟩
theorem bin_ok (I : SI K lk G H ρ M) {op : Operator} {d e r : D} {v u : V} (hd : ShR K G H d v) (he : ShR K G H e u) (h : opBin op d e = some r)
    (q : ∀ z G' H', Step G H ρ G' H' ρ → SI K lk G' H' ρ M → Rep K G' r z → Q z H') : rBin K op v u H Q := by
  have q0 : ∀ z, Rep K G r z → Q z H := fun z hz => q z G H (Step.refl _ _ _) I hz
  unfold opBin at h
  split at h
  · cases h; cases hd; cases he
    exact .inl ⟨_, _, rfl, rfl, q0 _ rfl⟩
  · split at h
    · rename_i hl
      cases h; cases hd; cases he
      exact .inr (.inl ⟨_, _, rfl, rfl, hl, q0 _ rfl⟩)
    · cases h
  · split at h
    · rename_i hl
      cases h
      obtain ⟨a, vs, rfl, h1, r1⟩ := hd
      obtain ⟨b, ws, rfl, h2, r2⟩ := he
      exact .inr (.inr (.inl ⟨a, b, vs, ws, rfl, rfl, h1, h2, by rw [← r1.length, ← r2.length]; exact hl, new_lst I (r1.append r2) q⟩))
    · cases h
  · split at h
    · rename_i x y hl
      cases h
      obtain ⟨a, vs, rfl, h1, r1⟩ := hd
      obtain ⟨b, ws, rfl, h2, r2⟩ := he
      refine .inr (.inr (.inr ⟨a, b, vs, ws, rfl, rfl, I.sqt h1, I.sqt h2, by rw [← r1.length, ← r2.length]; exact hl, fun e => ?_, fun _ e => ?_, fun _ _ => new_tup I (r1.append r2) q⟩))
      · have e1 := r1.nil_iff.mpr e
        refine q0 _ ⟨b, ws, rfl, h2, ?_⟩
        rw [e1, List.nil_append]
        exact r2
      · have e1 := r2.nil_iff.mpr e
        refine q0 _ ⟨a, vs, rfl, h1, ?_⟩
        rw [e1, List.append_nil]
        exact r1
    · cases h
  · cases h; cases hd; cases he
    exact ⟨_, _, rfl, rfl, q0 _ rfl⟩
  · split at h
    · rename_i hl
      cases h; cases hd; cases he
      exact .inl ⟨_, _, rfl, rfl, hl, q0 _ rfl⟩
    · cases h
  · split at h
    · rename_i hl
      cases h; cases hd; cases he
      exact .inr (.inr (.inr ⟨_, _, rfl, rfl, hl, q0 _ rfl⟩))
    · cases h
  · split at h
    · rename_i hl
      cases h
      obtain ⟨a, vs, rfl, h1, r1⟩ := hd
      cases he
      exact .inr (.inl ⟨a, _, vs, rfl, rfl, h1, hl.2.1, hl.2.2, by rw [← r1.length]; exact hl.1, new_lst I (r1.rep _) q⟩)
    · cases h
  · split at h
    · rename_i hl
      cases h
      obtain ⟨a, vs, rfl, h1, r1⟩ := hd
      cases he
      exact .inr (.inr (.inl ⟨a, _, vs, rfl, rfl, I.sqt h1, fun e => hl.1 (r1.nil_iff.mpr e), hl.2.1, hl.2.2.1, by rw [← r1.length]; exact hl.2.2.2, new_tup I (r1.rep _) q⟩))
    · cases h
  · split at h
    · rename_i hl
      cases h; cases hd; cases he
      exact ⟨_, _, rfl, rfl, hl, q0 _ rfl⟩
    · cases h
  · split at h
    · rename_i hl
      cases h; cases hd; cases he
      exact ⟨_, _, rfl, rfl, hl, q0 _ rfl⟩
    · cases h
  · split at h
    · rename_i hl
      cases h; cases hd; cases he
      exact ⟨_, _, rfl, rfl, hl, q0 _ rfl⟩
    · cases h
  · cases h
end

/-! ### comparisons -/
theorem room_of {A : Around} {n : Nat} (hr : Room n A) : A.units + 190 < cLine := by
  have := hr.un
  omega
abbrev rStr2 (f : Str → Str → Bool) : R2 := fun x y H Q => ∃ i j, x = .str i ∧ y = .str j ∧ Q (.bl (f i j)) H
/-- == of data of some depth -/
def rEqY (K : PySem.W.Frag) (neg : Bool) : R2 := fun x y H Q => ∃ d e, Dp K H x d ∧ Dp K H y e ∧ d.canLay0 = true ∧ e.canLay0 = true ∧ d.depth ≤ 180 ∧ Q (.bl (if neg then !PyData.eqv d e else PyData.eqv d e)) H
theorem op_eqY {X : Cx} (hu : X.A.units + 190 < cLine) : OpR X (compareOp .Eq) (rEqY X.K false) := by
  intro pins s σ H x y v u Q I rx ry h
  obtain ⟨d, e, hd, he, ld, le, dd, q⟩ := h
  obtain ⟨as, r1⟩ := Dp.reads I d x v hd rx
  obtain ⟨bs, r2⟩ := Dp.reads I e y u he ry
  refine SeqAt.compareEq_reads r1 r2 ld le ?_ ⟨.bl _, H, I, rfl, q⟩
  have := Nat.min_le_left d.depth e.depth
  omega
theorem op_neY {X : Cx} (hu : X.A.units + 190 < cLine) : OpR X (compareOp .NotEq) (rEqY X.K true) := by
  intro pins s σ H x y v u Q I rx ry h
  obtain ⟨d, e, hd, he, ld, le, dd, q⟩ := h
  obtain ⟨as, r1⟩ := Dp.reads I d x v hd rx
  obtain ⟨bs, r2⟩ := Dp.reads I e y u he ry
  refine SeqAt.compareNe_reads r1 r2 ld le ?_ ⟨.bl _, H, I, rfl, q⟩
  have := Nat.min_le_left d.depth e.depth
  omega
/-- x in l of data -/
def rInY (K : PySem.W.Frag) (neg : Bool) : R2 := fun x y H Q => ∃ d ds, Dp K H x d ∧ (Dp K H y (.list ds) ∨ Dp K H y (.tuple ds)) ∧ d.canLay0 = true ∧ PyData.canLayAll0 ds = true ∧ d.depth ≤ 180 ∧
  Q (.bl (if neg then !(ds.any fun z => PyData.eqv z d) else ds.any fun z => PyData.eqv z d)) H
theorem op_inY {X : Cx} (hu : X.A.units + 190 < cLine) : OpR X (compareOp .In) (rInY X.K false) := by
  intro pins s σ H x y v u Q I rx ry h
  obtain ⟨d, ds, hd, he, ld, le, dd, q⟩ := h
  obtain ⟨as, r1⟩ := Dp.reads I d x v hd rx
  have rm : X.A.units + 1 + min (PyData.depthAll ds) d.depth < cLine := by
    have := Nat.min_le_right (PyData.depthAll ds) d.depth
    omega
  rcases he with he | he
  · obtain ⟨bs, r2⟩ := Dp.reads I (.list ds) y u he ry
    exact SeqAt.in_list_reads r2 r1 (by simpa only [PyData.canLay0] using le) ld rm ⟨.bl _, H, I, rfl, q⟩
  · obtain ⟨bs, r2⟩ := Dp.reads I (.tuple ds) y u he ry
    exact SeqAt.in_tuple_reads r2 r1 (by simpa only [PyData.canLay0] using le) ld rm ⟨.bl _, H, I, rfl, q⟩
theorem op_notInY {X : Cx} (hu : X.A.units + 190 < cLine) : OpR X (compareOp .NotIn) (rInY X.K true) := by
  intro pins s σ H x y v u Q I rx ry h
  obtain ⟨d, ds, hd, he, ld, le, dd, q⟩ := h
  obtain ⟨as, r1⟩ := Dp.reads I d x v hd rx
  have rm : X.A.units + 1 + min (PyData.depthAll ds) d.depth < cLine := by
    have := Nat.min_le_right (PyData.depthAll ds) d.depth
    omega
  rcases he with he | he
  · obtain ⟨bs, r2⟩ := Dp.reads I (.list ds) y u he ry
    exact SeqAt.notIn_list_reads r2 r1 (by simpa only [PyData.canLay0] using le) ld rm ⟨.bl _, H, I, rfl, q⟩
  · obtain ⟨bs, r2⟩ := Dp.reads I (.tuple ds) y u he ry
    exact SeqAt.notIn_tuple_reads r2 r1 (by simpa only [PyData.canLay0] using le) ld rm ⟨.bl _, H, I, rfl, q⟩
abbrev rDIn (neg : Bool) : R2 := fun x y H Q => ∃ a kvs k, y = .ref a ∧ Rd H a (.dK kvs) ∧ x = kV k ∧ Q (.bl (if neg then !(valV kvs k).isSome else (valV kvs k).isSome)) H
theorem op_dIn {X : Cx} (hu : X.A.units + 190 < cLine) : OpR X (compareOp .In) (rDIn false) := by
  intro pins s σ H x y v u Q I rx ry h
  obtain ⟨a, kvs, k, rfl, hd, rfl, q⟩ := h
  cases ry
  exact d_in (by omega) I (.inl ⟨kvs, k, hd, rfl, rfl⟩) rx fun s' I' => ⟨.bl _, H, I', rfl, q⟩
theorem op_dNotIn {X : Cx} (hu : X.A.units + 190 < cLine) : OpR X (compareOp .NotIn) (rDIn true) := by
  intro pins s σ H x y v u Q I rx ry h
  obtain ⟨a, kvs, k, rfl, hd, rfl, q⟩ := h
  cases ry
  exact d_notIn (by omega) I (.inl ⟨kvs, k, hd, rfl, rfl⟩) rx fun s' I' => ⟨.bl _, H, I', rfl, q⟩
def rCmp (K : PySem.W.Frag) : CmpOp → R2
  | .Eq => rOr rEq (rEqY K false)
  | .NotEq => rOr rNe (rEqY K true)
  | .Lt => rOr (rI0 fun i j => .bl (decide (i < j))) (rStr2 fun i j => decide (i.cps.toList < j.cps.toList))
  | .LtE => rI0 fun i j => .bl (decide (i ≤ j))
  | .Gt => rI0 fun i j => .bl (decide (j < i))
  | .GtE => rI0 fun i j => .bl (decide (j ≤ i))
  | .Is => fun x y H Q => y = .non ∧ Q (.bl (decide (x = .non))) H
  | .IsNot => fun x y H Q => y = .non ∧ Q (.bl (!decide (x = .non))) H
  | .In => rOr (rIn K false) (rOr (rInY K false) (rOr (rDIn false) (rStr2 fun i j => !(Builtin.Str.occurrences j i 0 j.length 1).isEmpty)))
  | .NotIn => rOr (rIn K true) (rOr (rInY K true) (rOr (rDIn true) (rStr2 fun i j => !(!(Builtin.Str.occurrences j i 0 j.length 1).isEmpty))))
theorem op_cmp {X : Cx} (hu : X.A.units + 190 < cLine) : ∀ op : CmpOp, OpR X (compareOp op) (rCmp X.K op)
  | .Eq => OpR.or op_eq (op_eqY hu)
  | .NotEq => OpR.or op_ne (op_neY hu)
  | .Lt => OpR.or op_lt op_lt_str
  | .LtE => op_le
  | .Gt => op_gt
  | .GtE => op_ge
  | .Is => op_isN
  | .IsNot => op_notN
  | .In => OpR.or op_in_seq (OpR.or (op_inY hu) (OpR.or (op_dIn hu) op_in_str))
  | .NotIn => OpR.or op_notIn_seq (OpR.or (op_notInY hu) (OpR.or (op_dNotIn hu) op_notin_str))
section
variable {K : PySem.W.Frag} {lk : Option Addr} {G H : Hp} {ρ : List Addr} {M : List Cell} {Q : VK}
mutual
theorem SI.dp (I : SI K lk G H ρ M) : ∀ {d : D} {v : V}, Rep K G d v → lay d = true → Dp K H v (py d)
  | .non, _, h, _ => by cases h; simp only [py]; exact .non
  | .bl _, _, h, _ => by cases h; simp only [py]; exact .bl _
  | .int _, _, h, _ => by cases h; simp only [py]; exact .int _
  | .str _, _, h, _ => by cases h; simp only [py]; exact .str _
  | .tup ds, _, h, l => by
    obtain ⟨a, vs, rfl, h1, h2⟩ := h
    simp only [py]
    exact .tup (I.sqt h1) (SI.dps I h2 (by simpa [lay] using l))
  | .lst ds, _, h, l => by
    obtain ⟨a, vs, rfl, h1, h2⟩ := h
    simp only [py]
    exact .lst (SqL.of (I.rdL h1)) (SI.dps I h2 (by simpa [lay] using l))
  | .dict _ _, _, _, l => by simp [lay] at l
  | .scr _, _, _, l => by simp [lay] at l
  | .ptp _, _, _, l => by simp [lay] at l
theorem SI.dps (I : SI K lk G H ρ M) : ∀ {ds : List D} {vs : List V}, RepL K G ds vs → lays ds = true → DpAll K H vs (pys ds)
  | [], _, h, _ => by cases h; simp only [pys]; exact .nil
  | d :: ds, _, h, l => by
    obtain ⟨v, r, rfl, h1, h2⟩ := h
    have l' : lay d = true ∧ lays ds = true := by simpa [lays] using l
    simp only [pys]
    exact .cons (SI.dp I h1 l'.1) (SI.dps I h2 l'.2)
end
theorem SI.dpS (I : SI K lk G H ρ M) {d : D} {v : V} (h : ShR K G H d v) (l : lay d = true) : Dp K H v (py d) := by
  cases d with
  | lst ds =>
    obtain ⟨a, vs, rfl, h1, h2⟩ := h
    simp only [py]
    exact .lst (SqL.of h1) (SI.dps I h2 (by simpa [lay] using l))
  | dict ks ds => simp [lay] at l
  | scr ns => simp [lay] at l
  | ptp ns => simp [lay] at l
  | _ => exact I.dp (show Rep K G _ v from h) l
theorem ShR.flat {d : D} {v : V} (h : ShR K G H d v) (f : flatD d = true) : flatV v = true := by
  cases d <;> first | (cases h; rfl) | simp [flatD] at f
theorem RepL.flat : ∀ {ds : List D} {vs : List V}, RepL K G ds vs → ds.all flatD = true → vs.all flatV = true
  | [], _, h, _ => by cases h; rfl
  | d :: ds, _, h, f => by
    obtain ⟨v, r, rfl, h1, h2⟩ := h
    have f' : flatD d = true ∧ ds.all flatD = true := by simpa using f
    have : flatV v = true := by cases d <;> first | (cases h1; rfl) | simp [flatD] at f'
    simp [this]
    simpa using RepL.flat h2 f'.2
theorem deq_flat {d e : D} {v u : V} (h1 : Rep K G d v) (h2 : ShR K G H e u) (f1 : flatD d = true) (f2 : flatD e = true) : eqV v u = deq d e := by
  cases d with
  | tup _ => cases f1
  | lst _ => cases f1
  | dict _ _ => cases f1
  | scr _ => cases f1
  | ptp _ => cases f1
  | _ =>
    cases e with
    | tup _ => cases f2
    | lst _ => cases f2
    | dict _ _ => cases f2
    | scr _ => cases f2
    | ptp _ => cases f2
    | _ => cases h1; cases h2; simp [eqV, deq]
theorem any_flat {e : D} {u : V} (h2 : ShR K G H e u) (f2 : flatD e = true) : ∀ {ds : List D} {vs : List V}, RepL K G ds vs → ds.all flatD = true → (vs.any fun y => eqV y u) = ds.any fun z => deq z e
  | [], _, h, _ => by cases h; rfl
  | d :: ds, _, h, f => by
    obtain ⟨v, r, rfl, h1, h3⟩ := h
    have f' : flatD d = true ∧ ds.all flatD = true := by simpa using f
    rw [List.any_cons, List.any_cons, any_flat h2 f2 h3 f'.2, deq_flat h1 h2 f'.1 f2]
theorem any_py {e : D} (l : lay e = true) : ∀ {ds : List D}, lays ds = true → ((pys ds).any fun z => PyData.eqv z (py e)) = ds.any fun z => deq z e
  | [], _ => rfl
  | d :: ds, f => by
    have f' : lay d = true ∧ lays ds = true := by simpa [lays] using f
    simp only [pys, List.any_cons]
    rw [any_py l f'.2, deq_py d e f'.1 l]
theorem ShR.non_iff {d : D} {v : V} (h : ShR K G H d v) : decide (v = .non) = isNon d := by
  cases d with
  | non => cases h; rfl
  | bl b => cases h; rfl
  | int b => cases h; rfl
  | str b => cases h; rfl
  | tup b => obtain ⟨a, vs, rfl, _⟩ := h; rfl
  | lst b => obtain ⟨a, vs, rfl, _⟩ := h; rfl
  | dict b c => obtain ⟨a, vs, rfl, _⟩ := h; rfl
  | scr b => obtain ⟨a, rfl, _⟩ := h; rfl
  | ptp b => obtain ⟨a, vs, rfl, _⟩ := h; rfl
theorem key_ok {d : D} {v : V} {k : Key} (h : ShR K G H d v) (e : keyD d = some k) : v = kV k := by
  cases d with
  | int i => cases h; cases e; rfl
  | str i => cases h; cases e; rfl
  | _ => simp [keyD] at e
theorem get_ok (k : Key) : ∀ {kvs : List (Key × V)} {ds : List D}, RepL K G ds (kvs.map (·.2)) → (match getK k (kvs.map (·.1)) ds with | some d => ∃ v, valV kvs k = some v ∧ Rep K G d v | none => valV kvs k = none)
  | [], ds, h => by
    cases ds with
    | nil => simp [getK, valV]
    | cons d r => obtain ⟨v, r, e, _⟩ := h; cases e
  | (k', v') :: kvs, ds, h => by
    cases ds with
    | nil => cases h
    | cons d r =>
      obtain ⟨v, r', e, h1, h2⟩ := h
      simp only [List.map_cons, List.cons.injEq] at e
      obtain ⟨rfl, rfl⟩ := e
      by_cases c : k' = k
      · subst c
        simp only [List.map_cons, getK, if_true]
        exact ⟨v', valV_pos rfl, h1⟩
      · simp only [List.map_cons, getK, if_neg c]
        rw [valV_neg (show ¬ (k', v').1 = k from c)]
        exact get_ok k h2
theorem get_isSome (k : Key) {kvs : List (Key × V)} {ds : List D} (h : RepL K G ds (kvs.map (·.2))) : (valV kvs k).isSome = (getK k (kvs.map (·.1)) ds).isSome := by
  have := get_ok k h
  cases e : getK k (kvs.map (·.1)) ds with
  | none => rw [e] at this; rw [this]; rfl
  | some d => rw [e] at this; obtain ⟨v, h1, _⟩ := this; rw [h1]; rfl
theorem eq_ok (I : SI K lk G H ρ M) {d e : D} {b : Bool} {v u : V} (hd : ShR K G H d v) (he : ShR K G H e u) (h : eqD d e = some b) (neg : Bool) (q : Q (.bl (if neg then !b else b)) H) :
    (if neg then rOr rNe (rEqY K true) else rOr rEq (rEqY K false)) v u H Q := by
  have sc : ∀ {x y : V} {c : Bool}, scal x y = true → decide (x = y) = c → Q (.bl (if neg then !c else c)) H → (if neg then rOr rNe (rEqY K true) else rOr rEq (rEqY K false)) x y H Q := by
    intro x y c s1 s2 q
    subst s2
    cases neg with
    | true => exact .inl ⟨s1, q⟩
    | false => exact .inl ⟨s1, q⟩
  unfold eqD at h
  split at h
  · cases h; cases hd; cases he
    exact sc rfl (by rw [dec_str]; exact (Bool.beq_eq_decide_eq _ _)) q
  · cases h; cases hd; cases he
    exact sc rfl (by rw [dec_int]; exact (Bool.beq_eq_decide_eq _ _)) q
  · cases h; cases hd; cases he
    exact sc rfl (by rw [dec_bl]; exact (Bool.beq_eq_decide_eq _ _)) q
  · split at h
    · rename_i hl
      cases h
      have h1 := (Bool.and_eq_true _ _).mp hl
      have h2 := (Bool.and_eq_true _ _).mp h1.1
      have h3 := (Bool.and_eq_true _ _).mp h1.2
      have d1 := I.dpS hd h2.1
      have d2 := I.dpS he h3.1
      have k : rEqY K neg v u H Q := ⟨_, _, d1, d2, lay_py _ h2.1, lay_py _ h3.1, by rw [dep_py _ h2.1]; exact of_decide_eq_true h2.2, by rw [deq_py _ _ h2.1 h3.1]; exact q⟩
      cases neg with
      | true => exact .inr k
      | false => exact .inr k
    · cases h
theorem in_ok (I : SI K lk G H ρ M) {d : D} {zs : List D} {b : Bool} {v u : V} {R4 : R2} (hd : ShR K G H d v) (he : ShR K G H (.tup zs) u ∨ ShR K G H (.lst zs) u) (h : inD d zs = some b) (neg : Bool) (q : Q (.bl (if neg then !b else b)) H) :
    rOr (rIn K neg) (rOr (rInY K neg) R4) v u H Q := by
  unfold inD at h
  split at h
  · rename_i hl
    cases h
    rcases (Bool.or_eq_true _ _).mp hl with hl | hl
    · have h1 := (Bool.and_eq_true _ _).mp hl
      have key : ∀ a vs, u = .ref a → (SqL K H a vs ∨ SqT K H a vs) → RepL K G zs vs → rIn K neg v u H Q := by
        intro a vs e s r
        refine ⟨a, vs, e, s, hd.flat h1.1, r.flat h1.2, ?_⟩
        have e2 : inV v vs = zs.any fun z => deq z d := any_flat hd h1.1 r h1.2
        rw [e2]
        exact q
      rcases he with ⟨a, vs, e, s, r⟩ | ⟨a, vs, e, s, r⟩
      · exact .inl (key a vs e (.inr (I.sqt s)) r)
      · exact .inl (key a vs e (.inl (SqL.of s)) r)
    · have h1 := (Bool.and_eq_true _ _).mp hl
      have h2 := (Bool.and_eq_true _ _).mp h1.1
      have h3 := (Bool.and_eq_true _ _).mp h1.2
      have l3 : lays zs = true := by simpa [lay] using h3.1
      refine .inr (.inl ⟨_, pys zs, I.dpS hd h2.1, ?_, lay_py _ h2.1, lays_py _ l3, by rw [dep_py _ h2.1]; exact of_decide_eq_true h2.2, ?_⟩)
      · rcases he with he | he
        · exact .inr (by simpa only [py] using I.dpS he h3.1)
        · exact .inl (by simpa only [py] using I.dpS he (by simpa [lay] using l3))
      · rw [any_py h2.1 l3]
        exact q
  · cases h
theorem cmp_ok (I : SI K lk G H ρ M) {op : CmpOp} {d e : D} {b : Bool} {v u : V} (hd : ShR K G H d v) (he : ShR K G H e u) (h : opCmp op d e = some b) (q : Q (.bl b) H) : rCmp K op v u H Q := by
  cases op with
  | Eq => exact eq_ok I hd he h false q
  | NotEq =>
    simp only [opCmp] at h
    cases e1 : eqD d e with
    | none => rw [e1] at h; cases h
    | some c => rw [e1] at h; cases h; exact eq_ok I hd he e1 true q
  | Lt =>
    simp only [opCmp] at h
    split at h
    · cases h; cases hd; cases he; exact .inl ⟨_, _, rfl, rfl, q⟩
    · cases h; cases hd; cases he; exact .inr ⟨_, _, rfl, rfl, q⟩
    · cases h
  | LtE =>
    simp only [opCmp] at h
    split at h
    · cases h; cases hd; cases he; exact ⟨_, _, rfl, rfl, q⟩
    · cases h
  | Gt =>
    simp only [opCmp] at h
    split at h
    · cases h; cases hd; cases he; exact ⟨_, _, rfl, rfl, q⟩
    · cases h
  | GtE =>
    simp only [opCmp] at h
    split at h
    · cases h; cases hd; cases he; exact ⟨_, _, rfl, rfl, q⟩
    · cases h
  | Is =>
    simp only [opCmp] at h
    split at h
    · cases h; cases he; exact ⟨rfl, by rw [hd.non_iff]; exact q⟩
    · cases h
  | IsNot =>
    simp only [opCmp] at h
    split at h
    · cases h; cases he
      refine ⟨rfl, ?_⟩
      rw [hd.non_iff]
      exact q
    · cases h
  | In =>
    simp only [opCmp] at h
    split at h
    · exact in_ok I hd (.inl he) h false q
    · exact in_ok I hd (.inr he) h false q
    · rename_i ks ds
      cases e1 : keyD d with
      | none => rw [e1] at h; cases h
      | some k =>
        rw [e1] at h; cases h
        obtain ⟨a, kvs, rfl, h1, rfl, h3⟩ := he
        exact .inr (.inr (.inl ⟨a, kvs, k, rfl, h1, key_ok hd e1, by simp only [get_isSome k h3]; exact q⟩))
    · split at h
      · cases h; cases hd; cases he; exact .inr (.inr (.inr ⟨_, _, rfl, rfl, q⟩))
      · cases h
    · cases h
  | NotIn =>
    simp only [opCmp] at h
    split at h
    · cases e1 : inD d _ with
      | none => rw [e1] at h; cases h
      | some c => rw [e1] at h; cases h; exact in_ok I hd (.inl he) e1 true q
    · cases e1 : inD d _ with
      | none => rw [e1] at h; cases h
      | some c => rw [e1] at h; cases h; exact in_ok I hd (.inr he) e1 true q
    · rename_i ks ds
      cases e1 : keyD d with
      | none => rw [e1] at h; cases h
      | some k =>
        rw [e1] at h; cases h
        obtain ⟨a, kvs, rfl, h1, rfl, h3⟩ := he
        exact .inr (.inr (.inl ⟨a, kvs, k, rfl, h1, key_ok hd e1, by simp only [get_isSome k h3]; exact q⟩))
    · split at h
      · cases h; cases hd; cases he; exact .inr (.inr (.inr ⟨_, _, rfl, rfl, q⟩))
      · cases h
    · cases h
end
end G9

set_option Elab.async false
set_option linter.all false
set_option maxRecDepth 100000
set_option maxHeartbeats 1000000
namespace G9
open PySem PySem.Spec PyProof.Rows L2

/-! ### places -/
abbrev rIxD : R2 := fun x y H Q => ∃ a kvs k v, x = .ref a ∧ Rd H a (.dK kvs) ∧ y = kV k ∧ valV kvs k = some v ∧ Q v H
theorem ix_dict {X : Cx} (hu : X.A.units + 190 < cLine) : IxR X rIxD := by
  intro value slice pins s σ H x y v u Q I rx ry h hs
  obtain ⟨a, kvs, k, z, rfl, hd, rfl, hv, q⟩ := h
  cases rx
  have g : DGet H a (kV k) (some z) := .inl ⟨kvs, k, hd, rfl, hv.symm⟩
  exact tail_any (ops := [.ref a, u]) (dict_typeIs I g) PySem.F.slot_dict_getitem.lookup (d_getItem (by omega) I g ry fun w' s' I' r' => ⟨z, H, I', r', q⟩) hs
def rIxA (K : PySem.W.Frag) : R2 := rOr (rIxL K) (rOr (rIxT K) (rOr rIxS rIxD))
theorem ix_any {X : Cx} (hu : X.A.units + 190 < cLine) : IxR X (rIxA X.K) := IxR.or ix_list (IxR.or ix_tup (IxR.or ix_str (ix_dict hu)))
section
variable {K : PySem.W.Frag} {lk : Option Addr} {G H : Hp} {ρ : List Addr} {M : List Cell} {Q : VK}
theorem RepL.atI {ds : List D} {vs : List V} {i : Int} {d : D} (r : RepL K G ds vs) (h : atI ds i = some d) : ∃ v, L2.atI vs i = some v ∧ Rep K G d v := by
  unfold L2.atI at h ⊢
  rw [← r.length]
  cases e : ixN ds.length i with
  | none => rw [e] at h; cases h
  | some j => rw [e] at h; exact r.get' h
theorem atI_map {α β : Type} (f : α → β) {xs : List α} {i : Int} : L2.atI (xs.map f) i = (L2.atI xs i).map f := by
  unfold L2.atI
  rw [List.length_map]
  cases e : ixN xs.length i with
  | none => rfl
  | some j => simp
theorem idx_ok (I : SI K lk G H ρ M) {d e r : D} {v u : V} (hd : ShR K G H d v) (he : ShR K G H e u) (h : opIdx d e = some r) (q : ∀ z, Rep K G r z → Q z H) : rIxA K v u H Q := by
  unfold opIdx at h
  split at h
  · obtain ⟨a, vs, rfl, h1, r1⟩ := hd
    cases he
    obtain ⟨z, e1, e2⟩ := r1.atI h
    exact .inr (.inl ⟨a, vs, _, z, rfl, rfl, I.sqt h1, e1, q z e2⟩)
  · obtain ⟨a, vs, rfl, h1, r1⟩ := hd
    cases he
    obtain ⟨z, e1, e2⟩ := r1.atI h
    exact .inl ⟨a, vs, _, z, rfl, rfl, SqL.of h1, e1, q z e2⟩
  · rename_i xs i
    obtain ⟨a, rfl, h1⟩ := hd
    cases he
    cases e1 : L2.atI xs i with
    | none => rw [e1] at h; cases h
    | some j =>
      rw [e1] at h; cases h
      exact .inl ⟨a, _, _, .int j, rfl, rfl, h1, by rw [atI_map, e1]; rfl, q _ rfl⟩
  · rename_i x i
    cases hd; cases he
    split at h
    · rename_i hl
      cases e1 : L2.atI x.cps.toList i with
      | none => rw [e1] at h; cases h
      | some c =>
        rw [e1] at h; cases h
        exact .inr (.inr (.inl ⟨_, _, c, rfl, rfl, hl, e1, q _ rfl⟩))
    · cases h
  · obtain ⟨a, kvs, rfl, h1, rfl, r1⟩ := hd
    cases e1 : keyD e with
    | none => rw [e1] at h; cases h
    | some k =>
      rw [e1] at h
      have h' : getK k (kvs.map (·.1)) _ = some r := h
      have g := get_ok k r1
      rw [h'] at g
      obtain ⟨z, e2, e3⟩ := g
      exact .inr (.inr (.inr ⟨a, kvs, k, z, rfl, h1, key_ok he e1, e2, q z e3⟩))
  · cases h
/-! ### slices -/
def rSl (K : PySem.W.Frag) : V → Option Int → Option Int → Hp → VK → Prop := fun x lo hi H Q => rSlL K x lo hi H Q ∨ rSlA K x lo hi H Q ∨ rSlS x lo hi H Q
theorem RepL.cut {ds : List D} {vs : List V} (r : RepL K G ds vs) (lo hi : Option Int) : RepL K G (cutD ds lo hi) (cutV vs lo hi) := by
  unfold cutD cutV
  rw [r.length]
  exact (r.drop _).take _
theorem slc_ok (I : SI K lk G H ρ M) {d r : D} {v : V} {lo hi : Option Int} (hd : ShR K G H d v) (h : opSlc d lo hi = some r) (q : ∀ z G' H', Step G H ρ G' H' ρ → SI K lk G' H' ρ M → Rep K G' r z → Q z H') : rSl K v lo hi H Q := by
  have q0 : ∀ z, Rep K G r z → Q z H := fun z hz => q z G H (Step.refl _ _ _) I hz
  unfold opSlc at h
  split at h
  · cases h
    obtain ⟨a, vs, rfl, h1, r1⟩ := hd
    refine .inr (.inl ⟨a, vs, rfl, I.sqt h1, fun hw => q0 _ ⟨a, vs, rfl, h1, ?_⟩, fun _ => new_tup I (r1.cut lo hi) q⟩)
    unfold cutD
    rw [r1.length, hw.1, hw.2, List.drop_zero, Nat.sub_zero, List.take_of_length_le (by rw [r1.length]; exact Nat.le_refl _)]
    exact r1
  · cases h
    obtain ⟨a, vs, rfl, h1, r1⟩ := hd
    exact .inl ⟨a, vs, rfl, SqL.of h1, new_lst I (r1.cut lo hi) q⟩
  · split at h
    · rename_i hl
      cases h; cases hd
      exact .inr (.inr ⟨_, rfl, hl, q0 _ rfl⟩)
    · cases h
  · cases h
end
theorem sl_any {X : Cx} : SlR X (rSl X.K) := SlR.or sl_list (SlR.or sl_tupA sl_str)

/-! ### built-ins by name -/
section
variable {K : PySem.W.Frag} {lk : Option Addr} {G H : Hp} {ρ : List Addr} {M : List Cell} {Q : VK}
theorem boolsD_eq : ∀ {ds : List D} {bs : List Bool}, boolsD ds = some bs → ds = bs.map D.bl
  | [], _, h => by cases h; rfl
  | .bl b :: r, bs, h => by
    simp only [boolsD, Option.map_eq_some_iff] at h
    obtain ⟨cs, h1, rfl⟩ := h
    rw [boolsD_eq h1]; rfl
  | .non :: _, _, h => by simp [boolsD] at h
  | .int _ :: _, _, h => by simp [boolsD] at h
  | .str _ :: _, _, h => by simp [boolsD] at h
  | .tup _ :: _, _, h => by simp [boolsD] at h
  | .lst _ :: _, _, h => by simp [boolsD] at h
  | .dict _ _ :: _, _, h => by simp [boolsD] at h
  | .scr _ :: _, _, h => by simp [boolsD] at h
theorem intsD_eq : ∀ {ds : List D} {bs : List Int}, intsD ds = some bs → ds = bs.map D.int
  | [], _, h => by cases h; rfl
  | .int b :: r, bs, h => by
    simp only [intsD, Option.map_eq_some_iff] at h
    obtain ⟨cs, h1, rfl⟩ := h
    rw [intsD_eq h1]; rfl
  | .non :: _, _, h => by simp [intsD] at h
  | .bl _ :: _, _, h => by simp [intsD] at h
  | .str _ :: _, _, h => by simp [intsD] at h
  | .tup _ :: _, _, h => by simp [intsD] at h
  | .lst _ :: _, _, h => by simp [intsD] at h
  | .dict _ _ :: _, _, h => by simp [intsD] at h
  | .scr _ :: _, _, h => by simp [intsD] at h
theorem strsD_eq : ∀ {ds : List D} {bs : List Str}, strsD ds = some bs → ds = bs.map D.str
  | [], _, h => by cases h; rfl
  | .str b :: r, bs, h => by
    simp only [strsD, Option.map_eq_some_iff] at h
    obtain ⟨cs, h1, rfl⟩ := h
    rw [strsD_eq h1]; rfl
  | .non :: _, _, h => by simp [strsD] at h
  | .bl _ :: _, _, h => by simp [strsD] at h
  | .int _ :: _, _, h => by simp [strsD] at h
  | .tup _ :: _, _, h => by simp [strsD] at h
  | .lst _ :: _, _, h => by simp [strsD] at h
  | .dict _ _ :: _, _, h => by simp [strsD] at h
  | .scr _ :: _, _, h => by simp [strsD] at h
end
/-! sorting: the result is one -/
theorem insI_perm (x : Int) : ∀ l : List Int, (insI x l).Perm (x :: l)
  | [] => .refl _
  | y :: r => by
    unfold insI
    split
    · exact .refl _
    · exact ((insI_perm x r).cons y).trans (.swap x y r)
theorem srtI_perm : ∀ l : List Int, (srtI l).Perm l
  | [] => .refl _
  | x :: r => (insI_perm x (srtI r)).trans ((srtI_perm r).cons x)
theorem insI_sorted (x : Int) : ∀ l : List Int, l.Pairwise (· ≤ ·) → (insI x l).Pairwise (· ≤ ·)
  | [], _ => by simp [insI]
  | y :: r, h => by
    have h' := List.pairwise_cons.mp h
    unfold insI
    split
    · rename_i c
      refine List.pairwise_cons.mpr ⟨fun z hz => ?_, h⟩
      rcases List.mem_cons.mp hz with e | e
      · subst e; exact c
      · exact Int.le_trans c (h'.1 z e)
    · rename_i c
      refine List.pairwise_cons.mpr ⟨fun z hz => ?_, insI_sorted x r h'.2⟩
      rcases List.mem_cons.mp ((insI_perm x r).mem_iff.mp hz) with e | e
      · subst e; omega
      · exact h'.1 z e
theorem srtI_sorted : ∀ l : List Int, (srtI l).Pairwise (· ≤ ·)
  | [] => .nil
  | x :: r => insI_sorted x _ (srtI_sorted r)
theorem sorted_one {α : Type} {le : α → α → Prop} (anti : ∀ a b, le a b → le b a → a = b) : ∀ {l m : List α}, l.Perm m → l.Pairwise le → m.Pairwise le → l = m
  | [], m, p, _, _ => (List.nil_perm.mp p).symm
  | a :: l, [], p, _, _ => absurd (List.perm_nil.mp p) (by simp)
  | a :: l, b :: m, p, hl, hm => by
    have h1 := List.pairwise_cons.mp hl
    have h2 := List.pairwise_cons.mp hm
    have e : a = b := by
      have ma : a ∈ b :: m := p.mem_iff.mp List.mem_cons_self
      have mb : b ∈ a :: l := p.mem_iff.mpr List.mem_cons_self
      rcases List.mem_cons.mp ma with e | ma
      · exact e
      · rcases List.mem_cons.mp mb with e | mb
        · exact e.symm
        · exact anti a b (h1.1 b mb) (h2.1 a ma)
    subst e
    rw [sorted_one anti (List.Perm.cons_inv p) h1.2 h2.2]
theorem srtI_eq {l m : List Int} (p : m.Perm l) (h : m.Pairwise (· ≤ ·)) : m = srtI l :=
  sorted_one (fun _ _ => Int.le_antisymm) (p.trans (srtI_perm l).symm) h (srtI_sorted l)
theorem str_ext {x y : Str} (h : x.cps.toList = y.cps.toList) : x = y := by
  cases x; cases y
  simp only [Str.mk.injEq]
  exact Array.ext' h
theorem leS_total (x y : Str) : leS x y = true ∨ leS y x = true := by
  unfold leS
  by_cases h : y.cps.toList < x.cps.toList
  · right
    have : ¬ x.cps.toList < y.cps.toList := fun q => List.lt_irrefl _ (List.lt_trans h q)
    simp [this]
  · left; simp [h]
theorem leS_trans {x y z : Str} (h1 : leS x y = true) (h2 : leS y z = true) : leS x z = true := by
  unfold leS at *
  simp only [Bool.not_eq_true', decide_eq_false_iff_not] at *
  exact fun q => by
    have h1' : x.cps.toList ≤ y.cps.toList := List.not_lt.mp h1
    have h2' : y.cps.toList ≤ z.cps.toList := List.not_lt.mp h2
    exact (List.not_lt.mpr (List.le_trans h1' h2')) q
theorem leS_anti {x y : Str} (h1 : leS x y = true) (h2 : leS y x = true) : x = y := by
  unfold leS at *
  simp only [Bool.not_eq_true', decide_eq_false_iff_not] at *
  exact str_ext (List.le_antisymm (List.not_lt.mp h1) (List.not_lt.mp h2))
theorem insS_perm (x : Str) : ∀ l : List Str, (insS x l).Perm (x :: l)
  | [] => .refl _
  | y :: r => by
    unfold insS
    split
    · exact .refl _
    · exact ((insS_perm x r).cons y).trans (.swap x y r)
theorem srtS_perm : ∀ l : List Str, (srtS l).Perm l
  | [] => .refl _
  | x :: r => (insS_perm x (srtS r)).trans ((srtS_perm r).cons x)
theorem insS_sorted (x : Str) : ∀ l : List Str, l.Pairwise (fun a b => leS a b = true) → (insS x l).Pairwise (fun a b => leS a b = true)
  | [], _ => by simp [insS]
  | y :: r, h => by
    have h' := List.pairwise_cons.mp h
    unfold insS
    split
    · rename_i c
      refine List.pairwise_cons.mpr ⟨fun z hz => ?_, h⟩
      rcases List.mem_cons.mp hz with e | e
      · subst e; exact c
      · exact leS_trans c (h'.1 z e)
    · rename_i c
      refine List.pairwise_cons.mpr ⟨fun z hz => ?_, insS_sorted x r h'.2⟩
      rcases List.mem_cons.mp ((insS_perm x r).mem_iff.mp hz) with e | e
      · subst e; exact (leS_total z y).resolve_left c
      · exact h'.1 z e
theorem srtS_sorted : ∀ l : List Str, (srtS l).Pairwise (fun a b => leS a b = true)
  | [] => .nil
  | x :: r => insS_sorted x _ (srtS_sorted r)
theorem ltCps_iff : ∀ a b : List Nat, ltCps a b = decide (a < b)
  | [], [] => by simp [ltCps]
  | [], _ :: _ => by simp [ltCps]
  | _ :: _, [] => by simp [ltCps]
  | x :: r, y :: t => by
    unfold ltCps
    rw [ltCps_iff r t]
    by_cases h : x < y
    · simp [h, List.cons_lt_cons_iff]
    · by_cases e : x = y
      · subst e; simp [List.cons_lt_cons_iff]
      · simp [h, e, List.cons_lt_cons_iff]
theorem rising_pw : ∀ {ss : List Str} {p : Str}, risingS p ss = true → (p :: ss).Pairwise (fun a b => leS a b = true)
  | [], p, _ => by simp
  | x :: r, p, h => by
    have h' : leS p x = true ∧ risingS x r = true := by
      unfold risingS at h
      rw [ltCps_iff] at h
      exact (Bool.and_eq_true _ _).mp h
    have ih := rising_pw h'.2
    refine List.pairwise_cons.mpr ⟨fun z hz => ?_, ih⟩
    rcases List.mem_cons.mp hz with e | e
    · subst e; exact h'.1
    · exact leS_trans h'.1 ((List.pairwise_cons.mp ih).1 z e)
theorem srtS_eq {l m : List Str} (p : m.Perm l) (h : sortedS m = true) : m = srtS l := by
  refine sorted_one (fun _ _ => leS_anti) (p.trans (srtS_perm l).symm) ?_ (srtS_sorted l)
  cases m with
  | nil => exact .nil
  | cons x r => exact rising_pw h
theorem srtD_cases {xs ys : List D} (h : srtD xs = some ys) : xs.length < 64 ∧ ((∃ ns, xs = ns.map D.int ∧ ys = (srtI ns).map D.int) ∨ ∃ ss, xs = ss.map D.str ∧ ys = (srtS ss).map D.str) := by
  unfold srtD at h
  split at h
  · rename_i hl
    refine ⟨hl, ?_⟩
    split at h
    · rename_i ns e
      cases h
      exact .inl ⟨ns, intsD_eq e, rfl⟩
    · simp only [Option.map_eq_some_iff] at h
      obtain ⟨ss, e, rfl⟩ := h
      exact .inr ⟨ss, strsD_eq e, rfl⟩
  · cases h
abbrev RC := List V → Hp → VK → Prop
abbrev cOr (r r' : RC) : RC := fun xs H Q => r xs H Q ∨ r' xs H Q
abbrev rLenA (K : PySem.W.Frag) : RC := cOr (fun xs H Q => ∃ p ys, xs = [.ref p] ∧ (SqL K H p ys ∨ SqT K H p ys) ∧ Q (.int ys.length) H) (cOr (fun xs H Q => ∃ z, xs = [.str z] ∧ z.length ≤ sizeLine ∧ Q (.int z.length) H)
  (fun xs H Q => ∃ a kvs, xs = [.ref a] ∧ Rd H a (.dK kvs) ∧ Q (.int (kvs.length : Nat)) H))
theorem call_lenA {X : Cx} : CallR X (.builtin "len") (rLenA X.K) := CallR.or call_len_seq (CallR.or call_len_str (by
  intro pins s σ H xs us Q I r h
  obtain ⟨a, kvs, rfl, hd, q⟩ := h
  obtain ⟨u, rfl, ru⟩ := Vals.one r
  cases ru
  exact d_len I hd fun t s' I' => ⟨.int (kvs.length : Nat), H, I', ⟨t, rfl⟩, q⟩))
abbrev rDictP (K : PySem.W.Frag) : RC := fun xs H Q => ∃ (a : Addr) (ps : List Addr) (kvs : List (Key × V)), xs = [.ref a] ∧ PlT H a (ps.map V.ref) ∧ Paired (fun p kv => SqT K H p [kV kv.1, kv.2]) ps kvs ∧ ∀ p, H p = none → Q (.ref p) (upd H p (.dK (mergeK [] kvs)))
theorem pairs_at {X : Cx} {pins : List (Addr × Obj)} {σ : L2.St} {H : Hp} {s : Shared} (I : Inv X pins σ H s) : ∀ {ps : List Addr} {kvs : List (Key × V)}, Paired (fun p kv => SqT X.K H p [kV kv.1, kv.2]) ps kvs →
    ∃ (prs : List (Key × Value)) (pv : List (Value × Value)), KV kvs prs ∧ prs.length = ps.length ∧ pv.length = ps.length ∧ ∀ (j : Nat) (k v : Value), pv[j]? = some (k, v) → ∃ (b : Addr) (q : Key), ps[j]? = some b ∧ prs[j]? = some (q, v) ∧ IsTup s.heap b #[k, v] ∧ keyIs q k = true
  | _, _, .nil => ⟨[], [], .nil, rfl, rfl, fun j k v e => by simp at e⟩
  | _, _, .cons (a := p) (b := kv) h t => by
    obtain ⟨prs, pv, r, hl, hl2, hp⟩ := pairs_at I t
    obtain ⟨its, rv, ht, _⟩ := I.tuple h
    obtain ⟨u, y, ei, ru, ry⟩ := vals2 rv
    subst ei
    refine ⟨(kv.1, y) :: prs, (u, y) :: pv, .cons ⟨rfl, ry⟩ r, by simp [hl], by simp [hl2], fun j k v e => ?_⟩
    cases j with
    | zero =>
      have e' : (u, y) = (k, v) := Option.some.inj e
      cases e'
      exact ⟨p, kv.1, rfl, rfl, ht, kV_is (P := X.prog) (w := X.w) ru⟩
    | succ j =>
      obtain ⟨b, q, e1, e2, e3⟩ := hp j k v (by simpa using e)
      exact ⟨b, q, by simpa using e1, by simpa using e2, e3⟩
theorem call_dictT {X : Cx} (hc : X.calm = true) : CallR X (.type "dict") (rDictP X.K) := by
  intro pins s σ H xs us Q I r q
  obtain ⟨a, ps, kvs, ex, ⟨o, hod, hq⟩, hp, q⟩ := q
  subst ex
  obtain ⟨u, eu, rx⟩ := vals1 r
  subst eu
  cases rx
  obtain ⟨ho, hz, its, rv, ⟨o', ho', hcl, n, hdat⟩⟩ := I.hok a _ hq
  rw [ho] at ho'; cases ho'
  have ei := refs_at rv
  subst ei
  rw [List.length_map] at hz
  obtain ⟨prs, pv, rel, hl, hl2, hpr⟩ := pairs_at I hp
  have hsz : ((ps.map Value.ref).toArray).size = pv.length := by simp [hl2]
  have P := PySem.PairArg.tuple (prog := X.prog) (w := X.w) a (ps.map Value.ref).toArray (fun j => ps.getD j 0) pv
  refine PySem.call_dict_pairs (knd := mixKind X.prog X.w) (kvs := prs) P (I.ok.hd hc) ⟨⟨o, n, ho, hcl, hod, hdat⟩, hsz, fun j k v e => ?_⟩ ⟨by rw [hl, hl2], fun j k v e => ?_⟩ (by rw [hl2]; exact hz) fun h' tk hd' k => ?_
  · obtain ⟨b, q', e1, e2, e3, e4⟩ := hpr j k v e
    have eb : ps.getD j 0 = b := by rw [List.getD_eq_getElem?_getD, e1]; rfl
    refine ⟨by show _ = some (Value.ref (ps.getD j 0)); rw [eb]; simp [e1], .inl ?_⟩
    show s.heap.IsTuple (ps.getD j 0) #[k, v]
    rw [eb]
    exact e3
  · obtain ⟨b, q', e1, e2, e3, e4⟩ := hpr j k v e
    exact ⟨q', e2, e4⟩
  · have hm : (s.heap.objs.size == sysModules) = false := beq_eq_false_iff_ne.mpr (Nat.ne_of_gt I.big)
    have hlen : (mergeK [] kvs).length ≤ sizeLine := by
      refine Nat.le_trans (length_mergeK kvs []) ?_
      rw [List.length_nil, Nat.zero_add, rel.length, hl]
      exact hz
    exact ⟨.ref s.heap.objs.size, upd H s.heap.objs.size (.dK (mergeK [] kvs)), I.laid (t' := tk) (fun b o e => k b o (by simp) e) (Nat.le_refl _) (show ObjOk X.prog X.w _ _ _ (.dK (mergeK [] kvs)) from ⟨hlen, hm, merged [] prs, KV.merge rel .nil, hd'⟩), rfl, q _ (I.hok.fresh (Nat.le_refl _))⟩
theorem call_tupleF {X : Cx} : CallR X (.type "tuple") (fun xs H Q => ∃ p ys, xs = [.ref p] ∧ ((SqL X.K H p ys ∧ ∀ l (o : Obj), H l = none → o.dict = none → Q (.ref l) (upd H l (.frz o (.tup ys)))) ∨ (SqT X.K H p ys ∧ Q (.ref p) H))) := by
  intro pins s σ H xs us Q I r h
  obtain ⟨p, ys, rfl, h⟩ := h
  obtain ⟨u, rfl, rx⟩ := vals1 r
  cases rx
  rcases h with ⟨hq, q⟩ | ⟨hq, q⟩
  · obtain ⟨its, r', pl, hz⟩ := I.list hq
    have hlen := r'.length
    refine call_tuple_list pl.isList (fun h' kp => ?_) (by simp only [List.size_toArray] <;> omega)
    have I1 : Inv X pins σ H { s with heap := h' } := I.kept (t' := s.toks) kp
    have I2 : Inv X pins σ (upd H h'.objs.size (.frz { cls := .type "tuple", data := .seq its.toArray } (.tup ys))) { s with heap := h'.push { cls := .type "tuple", data := .seq its.toArray } } :=
      I1.laid (t' := s.toks) (fun b o e => Heap.get?_push_of_some _ e) (Nat.le_refl _) (show ObjOk X.prog X.w _ _ _ (.frz { cls := .type "tuple", data := .seq its.toArray } (.tup ys)) from ⟨Heap.get?_push_size _ rfl, hz, its, r', IsTup.new _ _⟩)
    exact ⟨.ref h'.objs.size, _, I2, rfl, q _ _ (I1.hok.fresh (Nat.le_refl _)) rfl⟩
  · obtain ⟨its, r', pl, hz⟩ := I.tuple hq
    exact call_tuple_same pl ⟨.ref p, H, I, rfl, q⟩
def rBlt (K : PySem.W.Frag) : Blt → RC
  | .len => rLenA K
  | .any => rAny K
  | .all => rAll K
  | .dict => cOr (fun xs H Q => ∃ (a : Addr) (kvs : List (Key × V)), xs = [.ref a] ∧ Rd H a (.dK kvs) ∧ ∀ p, H p = none → Q (.ref p) (upd H p (.dK kvs))) (rDictP K)
  | .list => cOr (fun xs H Q => ∃ p ys, xs = [.ref p] ∧ (SqL K H p ys ∨ SqT K H p ys) ∧ ∀ l, H l = none → Q (.ref l) (upd H l (.lst ys)))
      (fun xs H Q => ∃ (a : Addr) (kvs : List (Key × V)), xs = [.ref a] ∧ Rd H a (.dK kvs) ∧ ∀ p, H p = none → Q (.ref p) (upd H p (.lst (kvs.map fun kv => kV kv.1))))
  | .tuple => fun xs H Q => ∃ p ys, xs = [.ref p] ∧ ((SqL K H p ys ∧ ∀ l (o : Obj), H l = none → o.dict = none → Q (.ref l) (upd H l (.frz o (.tup ys)))) ∨ (SqT K H p ys ∧ Q (.ref p) H))
  | .sorted => cOr (rSorted K) (cOr (rSortedS K) (cOr
      (fun xs H Q => ∃ (a : Addr) (kvs : List (Key × V)) (ks : List Str), xs = [.ref a] ∧ Rd H a (.dK kvs) ∧ kvs.map (·.1) = ks.map Sum.inr ∧ ks.length < 64 ∧ ∀ ys p, ys.Perm ks → sortedS ys = true → H p = none → Q (.ref p) (upd H p (.lst (ys.map V.str))))
      (fun xs H Q => ∃ (a : Addr) (kvs : List (Key × V)) (ks : List Int), xs = [.ref a] ∧ Rd H a (.dK kvs) ∧ kvs.map (·.1) = ks.map Sum.inl ∧ ks.length < 64 ∧ ∀ (ys : List Int) (p : Addr), ys.Perm ks → ys.Pairwise (· ≤ ·) → H p = none → Q (.ref p) (upd H p (.lst (ys.map V.int))))))
  | .int => fun xs H Q => (∃ i, xs = [.int i] ∧ Q (.int i) H) ∨ ∃ k, xs = [.bl k] ∧ Q (.int (if k then 1 else 0)) H
  | .str => fun _ _ _ => False
  | .sum => rSum K
def Blt.val : Blt → Value
  | .len => .builtin "len" | .any => .builtin "any" | .all => .builtin "all" | .dict => .type "dict" | .list => .type "list" | .tuple => .type "tuple" | .sorted => .builtin "sorted" | .int => .type "int" | .str => .type "str" | .sum => .builtin "sum"
theorem callNo {X : Cx} {f : Value} : CallR X f (fun _ _ _ => False) := fun _ _ _ _ _ _ _ _ _ h => h.elim
theorem call_blt {X : Cx} (hc : X.calm = true) : ∀ f : Blt, CallR X f.val (rBlt X.K f)
  | .len => call_lenA
  | .any => cr_any hc
  | .all => cr_all hc
  | .dict => CallR.or call_dictD (call_dictT hc)
  | .list => CallR.or call_list_of (call_listD hc)
  | .tuple => call_tupleF
  | .sorted => CallR.or cr_sorted (CallR.or cr_sortedS (CallR.or (call_sortedD hc) (call_sortedDI hc)))
  | .int => call_int1
  | .str => callNo
  | .sum => cr_sum hc
section
variable {K : PySem.W.Frag} {lk : Option Addr} {G H : Hp} {ρ : List Addr} {M : List Cell} {Q : VK}
theorem pairs_ok (I : SI K lk G H ρ M) : ∀ {ds : List D} {kvs : List (Key × D)} {vs : List V}, pairsD ds = some kvs → RepL K G ds vs →
    ∃ (ps : List Addr) (kv : List (Key × V)), vs = ps.map V.ref ∧ Paired (fun p kv => SqT K H p [kV kv.1, kv.2]) ps kv ∧ kv.map (·.1) = kvs.map (·.1) ∧ RepL K G (kvs.map (·.2)) (kv.map (·.2))
  | [], kvs, vs, h, r => by cases h; cases r; exact ⟨[], [], rfl, .nil, rfl, rfl⟩
  | d :: ds, kvs, vs, h, r => by
    obtain ⟨v, vs', rfl, h1, h2⟩ := r
    unfold pairsD at h
    split at h
    · rename_i e
      cases e
    · rename_i k x r' e
      cases e
      cases e1 : keyD k with
      | none => rw [e1] at h; cases h
      | some k' =>
        rw [e1] at h
        have h' : (pairsD ds).map ((k', x) :: ·) = some kvs := h
        simp only [Option.map_eq_some_iff] at h'
        obtain ⟨kv0, e2, rfl⟩ := h'
        obtain ⟨ps, kv, rfl, p1, p2, p3⟩ := pairs_ok I e2 h2
        obtain ⟨a, vs, rfl, t1, v1, r1, rfl, w1, v2, r2, rfl, w2, w3⟩ := h1
        cases w3
        refine ⟨a :: ps, (k', v2) :: kv, rfl, .cons ?_ p1, by simp [p2], ⟨_, _, rfl, w2, p3⟩⟩
        have := key_ok (I.shr w1) e1
        subst this
        exact I.sqt t1
    · cases h
theorem rep_key : ∀ k : Key, Rep K G (Dk k) (kV k)
  | .inl _ => rfl
  | .inr _ => rfl
theorem put_ok (k : Key) {d : D} {v : V} (rv : Rep K G d v) : ∀ {acc : List (Key × D)} {av : List (Key × V)}, av.map (·.1) = acc.map (·.1) → RepL K G (acc.map (·.2)) (av.map (·.2)) →
    (putK av k v).map (·.1) = (putD acc k d).map (·.1) ∧ RepL K G ((putD acc k d).map (·.2)) ((putK av k v).map (·.2)) := by
  intro acc av e r
  have any_eq : ∀ {acc : List (Key × D)} {av : List (Key × V)}, av.map (·.1) = acc.map (·.1) → (av.any fun kv => decide (kv.1 = k)) = acc.any fun kv => decide (kv.1 = k) := by
    intro acc
    induction acc with
    | nil => intro av e; cases av with
      | nil => rfl
      | cons => cases e
    | cons a acc ih => intro av e; cases av with
      | nil => cases e
      | cons b av =>
        simp only [List.map_cons, List.cons.injEq] at e
        simp only [List.any_cons, ih e.2, e.1]
  have map_eq : ∀ {acc : List (Key × D)} {av : List (Key × V)}, av.map (·.1) = acc.map (·.1) → RepL K G (acc.map (·.2)) (av.map (·.2)) →
      (av.map fun kv => if kv.1 = k then (kv.1, v) else kv).map (·.1) = (acc.map fun kv => if kv.1 = k then (kv.1, d) else kv).map (·.1) ∧ RepL K G ((acc.map fun kv => if kv.1 = k then (kv.1, d) else kv).map (·.2)) ((av.map fun kv => if kv.1 = k then (kv.1, v) else kv).map (·.2)) := by
    intro acc
    induction acc with
    | nil => intro av e r; cases av with
      | nil => exact ⟨rfl, rfl⟩
      | cons => cases e
    | cons a acc ih => intro av e r; cases av with
      | nil => cases e
      | cons b av =>
        simp only [List.map_cons, List.cons.injEq] at e
        obtain ⟨w, r', e2, r1, r2⟩ := r
        simp only [List.map_cons, List.cons.injEq] at e2
        obtain ⟨rfl, rfl⟩ := e2
        obtain ⟨i1, i2⟩ := ih e.2 r2
        by_cases c : a.1 = k
        · have c' : b.1 = k := e.1.trans c
          simp only [List.map_cons, if_pos c, if_pos c']
          exact ⟨by rw [i1, e.1], _, _, rfl, rv, i2⟩
        · have c' : ¬ b.1 = k := fun q => c (e.1.symm.trans q)
          simp only [List.map_cons, if_neg c, if_neg c']
          exact ⟨by rw [i1, e.1], _, _, rfl, r1, i2⟩
  unfold putK putD
  rw [any_eq e]
  split
  · exact map_eq e r
  · rw [List.map_append, List.map_append, List.map_append, List.map_append, e]
    exact ⟨rfl, r.append ⟨_, _, rfl, rv, rfl⟩⟩
theorem merge_ok : ∀ {more : List (Key × D)} {mv : List (Key × V)} {acc : List (Key × D)} {av : List (Key × V)}, mv.map (·.1) = more.map (·.1) → RepL K G (more.map (·.2)) (mv.map (·.2)) → av.map (·.1) = acc.map (·.1) → RepL K G (acc.map (·.2)) (av.map (·.2)) →
    (mergeK av mv).map (·.1) = (mergeD acc more).map (·.1) ∧ RepL K G ((mergeD acc more).map (·.2)) ((mergeK av mv).map (·.2))
  | [], mv, acc, av, e1, r1, e2, r2 => by
    cases mv with
    | nil => exact ⟨e2, r2⟩
    | cons => cases e1
  | m :: more, mv, acc, av, e1, r1, e2, r2 => by
    cases mv with
    | nil => cases e1
    | cons b mv =>
      simp only [List.map_cons, List.cons.injEq] at e1
      obtain ⟨w, r', e3, q1, q2⟩ := r1
      simp only [List.map_cons, List.cons.injEq] at e3
      obtain ⟨rfl, rfl⟩ := e3
      obtain ⟨p1, p2⟩ := put_ok m.1 q1 e2 r2
      have := merge_ok (more := more) (mv := mv) (acc := putD acc m.1 m.2) (av := putK av m.1 b.2) e1.2 q2 p1 p2
      unfold mergeK mergeD at this ⊢
      rw [List.foldl_cons, List.foldl_cons, e1.1]
      exact this
theorem blt_ok (I : SI K lk G H ρ M) {f : Blt} {ds : List D} {r : D} {vs : List V} (hd : Paired (ShR K G H) ds vs) (h : opBlt f ds = some r) (q : ∀ z G' H', Step G H ρ G' H' ρ → SI K lk G' H' ρ M → Rep K G' r z → Q z H') : rBlt K f vs H Q := by
  have q0 : ∀ z, Rep K G r z → Q z H := fun z hz => q z G H (Step.refl _ _ _) I hz
  have one : ∀ {d : D} {vs : List V}, Paired (ShR K G H) [d] vs → ∃ v, vs = [v] ∧ ShR K G H d v := by
    intro d vs p
    cases p with
    | cons a b => cases b; exact ⟨_, rfl, a⟩
  have srt : ∀ {ys : List D} {ns : List Int}, RepL K G ((srtI ns).map D.int) ((srtI ns).map V.int) := RepL.of_ints _
  unfold opBlt at h
  split at h
  · cases h; obtain ⟨v, rfl, a, ws, rfl, h1, r1⟩ := one hd
    exact .inl ⟨a, ws, rfl, .inr (I.sqt h1), q0 _ (by rw [r1.length]; rfl)⟩
  · cases h; obtain ⟨v, rfl, a, ws, rfl, h1, r1⟩ := one hd
    exact .inl ⟨a, ws, rfl, .inl (SqL.of h1), q0 _ (by rw [r1.length]; rfl)⟩
  · cases h; obtain ⟨v, rfl, a, rfl, h1⟩ := one hd
    exact .inl ⟨a, _, rfl, .inl h1, q0 _ (by rw [List.length_map]; rfl)⟩
  · split at h
    · rename_i hl
      cases h; obtain ⟨v, rfl, h1⟩ := one hd; cases h1
      exact .inr (.inl ⟨_, rfl, hl, q0 _ rfl⟩)
    · cases h
  · cases h; obtain ⟨v, rfl, a, kvs, rfl, h1, rfl, r1⟩ := one hd
    exact .inr (.inr ⟨a, kvs, rfl, h1, q0 _ (by rw [List.length_map]; rfl)⟩)
  · simp only [Option.map_eq_some_iff] at h
    obtain ⟨bs, e, rfl⟩ := h
    obtain ⟨v, rfl, a, ws, rfl, h1, r1⟩ := one hd
    rw [boolsD_eq e] at r1
    exact ⟨a, bs, rfl, SqL.of (by rw [← r1.bls]; exact h1), q0 _ rfl⟩
  · simp only [Option.map_eq_some_iff] at h
    obtain ⟨bs, e, rfl⟩ := h
    obtain ⟨v, rfl, a, ws, rfl, h1, r1⟩ := one hd
    rw [boolsD_eq e] at r1
    exact ⟨a, bs, rfl, SqL.of (by rw [← r1.bls]; exact h1), q0 _ rfl⟩
  · cases h; obtain ⟨v, rfl, a, kvs, rfl, h1, e1, r1⟩ := one hd
    exact .inl ⟨a, kvs, rfl, h1, new_dict I e1 r1 q⟩
  · cases h; obtain ⟨v, rfl, a, ws, rfl, h1, r1⟩ := one hd
    exact .inl ⟨a, ws, rfl, .inl (SqL.of h1), new_lst I r1 q⟩
  · cases h; obtain ⟨v, rfl, a, ws, rfl, h1, r1⟩ := one hd
    exact .inl ⟨a, ws, rfl, .inr (I.sqt h1), new_lst I r1 q⟩
  · cases h; obtain ⟨v, rfl, a, kvs, rfl, h1, rfl, r1⟩ := one hd
    refine .inr ⟨a, kvs, rfl, h1, new_lst I ?_ q⟩
    have : ∀ kvs : List (Key × V), RepL K G ((kvs.map (·.1)).map Dk) (kvs.map fun kv => kV kv.1) := fun kvs => by
      induction kvs with
      | nil => exact rfl
      | cons a r ih => exact ⟨_, _, rfl, rep_key a.1, ih⟩
    exact this kvs
  · cases h; obtain ⟨v, rfl, a, ws, rfl, h1, r1⟩ := one hd
    exact ⟨a, ws, rfl, .inl ⟨SqL.of h1, new_ptp I r1 q⟩⟩
  · cases h; obtain ⟨v, rfl, a, ws, rfl, h1, r1⟩ := one hd
    exact ⟨a, ws, rfl, .inr ⟨I.sqt h1, q0 _ ⟨a, ws, rfl, h1, r1⟩⟩⟩
  · simp only [Option.map_eq_some_iff] at h
    obtain ⟨ys, e, rfl⟩ := h
    obtain ⟨v, rfl, a, ws, rfl, h1, r1⟩ := one hd
    obtain ⟨hl, ⟨ns, rfl, rfl⟩ | ⟨ss, rfl, rfl⟩⟩ := srtD_cases e
    · rw [List.length_map] at hl
      exact .inl ⟨a, ns, rfl, SqL.of (by rw [← r1.ints]; exact h1), hl, fun ns' p pm pw hp => by rw [srtI_eq pm pw]; exact new_lst I (RepL.of_ints _) q p hp⟩
    · rw [List.length_map] at hl
      exact .inr (.inl ⟨a, ss, rfl, SqL.of (by rw [← r1.strs]; exact h1), hl, fun ns' p pm pw hp => by rw [srtS_eq pm pw]; exact new_lst I (RepL.of_strs _) q p hp⟩)
  · simp only [Option.map_eq_some_iff] at h
    obtain ⟨ys, e, rfl⟩ := h
    obtain ⟨v, rfl, a, kvs, rfl, h1, rfl, r1⟩ := one hd
    have k1 : ∀ {l : List Key} {ns : List Int}, l.map Dk = ns.map D.int → l = ns.map Sum.inl := by
      intro l
      induction l with
      | nil => intro ns e; cases ns with
        | nil => rfl
        | cons => cases e
      | cons a l ih => intro ns e; cases ns with
        | nil => cases e
        | cons n ns =>
          simp only [List.map_cons, List.cons.injEq] at e
          cases a with
          | inl i => simp only [Dk, D.int.injEq] at e; rw [List.map_cons, e.1, ih e.2]
          | inr i => simp [Dk] at e
    have k2 : ∀ {l : List Key} {ns : List Str}, l.map Dk = ns.map D.str → l = ns.map Sum.inr := by
      intro l
      induction l with
      | nil => intro ns e; cases ns with
        | nil => rfl
        | cons => cases e
      | cons a l ih => intro ns e; cases ns with
        | nil => cases e
        | cons n ns =>
          simp only [List.map_cons, List.cons.injEq] at e
          cases a with
          | inr i => simp only [Dk, D.str.injEq] at e; rw [List.map_cons, e.1, ih e.2]
          | inl i => simp [Dk] at e
    obtain ⟨hl, ⟨ns, e2, rfl⟩ | ⟨ss, e2, rfl⟩⟩ := srtD_cases e
    · have hl' : ns.length < 64 := by rw [e2, List.length_map] at hl; exact hl
      exact .inr (.inr (.inr ⟨a, kvs, ns, rfl, h1, k1 e2, hl', fun ns' p pm pw hp => by rw [srtI_eq pm pw]; exact new_lst I (RepL.of_ints _) q p hp⟩))
    · have hl' : ss.length < 64 := by rw [e2, List.length_map] at hl; exact hl
      exact .inr (.inr (.inl ⟨a, kvs, ss, rfl, h1, k2 e2, hl', fun ns' p pm pw hp => by rw [srtS_eq pm pw]; exact new_lst I (RepL.of_strs _) q p hp⟩))
  · cases h; obtain ⟨v, rfl, h1⟩ := one hd; cases h1
    exact .inl ⟨_, rfl, q0 _ rfl⟩
  · cases h; obtain ⟨v, rfl, h1⟩ := one hd; cases h1
    exact .inr ⟨_, rfl, q0 _ rfl⟩
  · simp only [Option.map_eq_some_iff] at h
    obtain ⟨ns, e, rfl⟩ := h
    obtain ⟨v, rfl, a, ws, rfl, h1, r1⟩ := one hd
    rw [intsD_eq e] at r1
    exact ⟨a, ns, rfl, SqL.of (by rw [← r1.ints]; exact h1), q0 _ rfl⟩
  · cases h
theorem dictp_ok (I : SI K lk G H ρ M) {ps : List D} {kvs : List (Key × D)} {v : V} (hv : Rep K G (.ptp ps) v) (e : pairsD ps = some kvs)
    (q : ∀ z G' H', Step G H ρ G' H' ρ → SI K lk G' H' ρ M → Rep K G' (dictD (mergeD [] kvs)) z → Q z H') : rBlt K .dict [v] H Q := by
  obtain ⟨a, ws, rfl, ⟨o, ho, h1⟩, r1⟩ := hv
  obtain ⟨ps, kv, rfl, p1, p2, p3⟩ := pairs_ok I e r1
  obtain ⟨m1, m2⟩ := merge_ok (acc := []) (av := []) p2 p3 rfl rfl
  have h2 : H a = some (.frz o (.tup (ps.map V.ref))) := by
    rcases I.sub a _ h1 with z | ⟨_, o', kvs', e', _⟩
    · exact z
    · cases e'
  exact .inr ⟨a, ps, kv, rfl, ⟨o, ho, h2⟩, p1, new_dict I m1 m2 q⟩
end
end G9

set_option Elab.async false
set_option linter.all false
set_option maxRecDepth 100000
set_option maxHeartbeats 1000000
namespace G9
open PySem PySem.Spec PyProof.Rows L2

/-- an exception's wish -/
def EXw (exA : Str → Option Addr) (EX : Str → Hp → Prop) : XK := fun cls d H => ∃ c a, exA c = some a ∧ cls = .ref a ∧ d = none ∧ EX c H
/-- behind a pure call -/
structure PStep (G H G' H' : Hp) : Prop where
  g : Sub0 G G'
  sub : ∀ a u, G' a = some u → H' a = some u
  h : ∀ a o, H a = some o → H' a = some o
  gn : ∀ a u, G' a = some u → (∃ o, G a = some o) ∨ H a = none
def spP (K : PySem.W.Frag) (exA : Str → Option Addr) (k : Nat) (m : List D → PO) : Sp := fun vs H Q E => vs.length = k ∧ ∃ G ds, (∀ a u, G a = some u → H a = some u) ∧ RepL K G ds vs ∧ match m ds with
  | .ok d => ∀ v G' H', PStep G H G' H' → Rep K G' d v → Q v H'
  | .exc c => ∃ a, exA c = some a ∧ ∀ G' H', PStep G H G' H' → E (.ref a) none H'
  | .no => False
def spI (K : PySem.W.Frag) (exA : Str → Option Addr) (k : Nat) (m : List Wv → G9.R Wv) : Sp := fun vs H Q E => vs.length = k ∧ ∃ G ρ M ws, SI K none G H ρ M ∧ Paired (RepW K G ρ) ws vs ∧ Good K none (fun c H => ∃ a, exA c = some a ∧ E (.ref a) none H) G H ρ (m ws M) (fun G _ ρ w v => RepW K G ρ w v) Q
structure CallsOk (P : Program) (w : World) (K : PySem.W.Frag) (mg : Str → Option Value) (base : Heap) (exA : Str → Option Addr) (n : Nat) (lk : Option Addr) (C : Calls) : Prop where
  lkn : lk ≠ none → ∀ f, C.has f = false
  lko : C.lk = false → lk = none
  fn : ∀ f, C.has f = true → ∃ a fd ps, mg f = some (.ref a) ∧ PySem.W.keepIn K (.ref a) = true ∧ Binds K fd ps [] ∧ FnOk P w K mg base (L2.CX P w) n a fd ps (spP K exA ps.length (C.pc f)) ∧ ∀ ds, C.pc f ds ≠ .no → ds.length = ps.length
  gl : ∀ x d, C.gl x = some d → ∃ v u, mg x = some u ∧ RelV v u ∧ ∀ G, Rep K G d v
  exc : ∀ f ds c, C.pc f ds = .exc c → ∃ a, exA c = some a
  lkI : lk ≠ none → ∀ f, C.hasI f = false
  fnI : ∀ f, C.hasI f = true → ∃ a fd ps, mg f = some (.ref a) ∧ PySem.W.keepIn K (.ref a) = true ∧ Binds K fd ps [] ∧ FnOk P w K mg base (L2.CX P w) n a fd ps (spI K exA ps.length (C.ic f)) ∧ ∀ ws M, C.ic f ws M ≠ .no → ws.length = ps.length
  excI : ∀ f ws M c M', C.ic f ws M = .exc c M' → ∃ a, exA c = some a
theorem CallsOk.locked {P : Program} {w : World} {K : PySem.W.Frag} {mg : Str → Option Value} {base : Heap} {exA : Str → Option Addr} {n : Nat} {C : Calls} {lk lk' : Option Addr} (h : CallsOk P w K mg base exA n lk C) : CallsOk P w K mg base exA n lk' C.locked :=
  ⟨fun _ _ => rfl, fun e => (by cases e), fun f e => (by cases e), h.gl, fun f ds c e => (by cases e), fun _ _ => rfl, fun f e => (by cases e), fun f ws M c M' e => (by cases e)⟩
/-- where one stands -/
structure XOk (bl N : List Str) (sc : Scope) (n : Nat) (exA : Str → Option Addr) (EX : Str → Hp → Prop) (X : Cx) : Prop where
  hN : X.N = N
  nd : N.Nodup
  sc : X.env.scope = sc
  calm : X.calm = true
  room : Room n X.A
  bl : ∀ x ∈ bl, X.mg x = none
  tk : Takes X (fun cls d _ H => EXw exA EX cls d H)

abbrev Rw (K : PySem.W.Frag) : Hp → Hp → List Addr → Wv → V → Prop := fun G _ ρ w v => RepW K G ρ w v
section
variable (K : PySem.W.Frag) (lk : Option Addr) (EX : Str → Hp → Prop) (C : Calls)
def tEv (e : E) : TE := fun σ H Q => ∃ G ρ M s, SI K lk G H ρ M ∧ EnvR K G ρ σ s ∧ Good K lk EX G H ρ (ev C e s M) (Rw K) Q
def tEvL (es : List E) : TA := fun σ H Q => ∃ G ρ M s, SI K lk G H ρ M ∧ EnvR K G ρ σ s ∧ Good K lk EX G H ρ (evL C es s M) (fun G _ _ ds vs => RepL K G ds vs) Q
def tEvP (es : List E) : TA := fun σ H Q => ∃ G ρ M s, SI K lk G H ρ M ∧ EnvR K G ρ σ s ∧ Good K lk EX G H ρ (evP C es s M) (fun G _ _ ds vs => RepL K G ds vs) Q
def tEvW (es : List E) : TA := fun σ H Q => ∃ G ρ M s, SI K lk G H ρ M ∧ EnvR K G ρ σ s ∧ Good K lk EX G H ρ (evW C es s M) (fun G _ ρ ws vs => Paired (RepW K G ρ) ws vs) Q
def tTst (e : E) : TT := fun σ H Q => ∃ G ρ M s, SI K lk G H ρ M ∧ EnvR K G ρ σ s ∧ Good K lk EX G H ρ (bnd (ev C e s) tst M) (fun _ _ _ (b b' : Bool) => b = b') Q
def tEvO (e : Option E) : TO := fun σ H Q => ∃ G ρ M s, SI K lk G H ρ M ∧ EnvR K G ρ σ s ∧ Good K lk EX G H ρ (evO C e s M) (fun _ _ _ (b b' : Option Int) => b = b') Q
end
theorem Good.imp {K : PySem.W.Frag} {lk : Option Addr} {EX : Str → Hp → Prop} {G H : Hp} {ρ : List Addr} {α β : Type} {o : Out α} {Rl : Hp → Hp → List Addr → α → β → Prop} {Q Q' : β → Hp → Prop} (h : Good K lk EX G H ρ o Rl Q) (f : ∀ b H', Q b H' → Q' b H') : Good K lk EX G H ρ o Rl Q' := by
  cases o with
  | ok a M' => exact fun b G' H' ρ' s I r => f _ _ (h b G' H' ρ' s I r)
  | exc c M' => exact h
  | no => exact h
theorem Good.imp2 {K : PySem.W.Frag} {lk : Option Addr} {EX : Str → Hp → Prop} {G H : Hp} {ρ : List Addr} {α β γ : Type} {o : Out α} {Rl : Hp → Hp → List Addr → α → β → Prop} {Rl' : Hp → Hp → List Addr → α → γ → Prop} {Q : β → Hp → Prop} {Q' : γ → Hp → Prop} (h : Good K lk EX G H ρ o Rl Q)
    (f : ∀ a c G' H' ρ', Rl' G' H' ρ' a c → ∃ b, Rl G' H' ρ' a b ∧ (Q b H' → Q' c H')) : Good K lk EX G H ρ o Rl' Q' := by
  cases o with
  | ok a M' => exact fun b G' H' ρ' s I r => by obtain ⟨c, h1, h2⟩ := f a b G' H' ρ' r; exact h2 (h c G' H' ρ' s I h1)
  | exc c M' => exact h
  | no => exact h
/-! ### the text's own forms -/
theorem star_of (e : E) (es : List Expr) (env : Env) : starEach (e.toExpr :: es) env = (false, eval e.toExpr env) :: starEach es env := by
  cases e <;> simp only [E.toExpr, starEach]
theorem star_any : ∀ (es : List E) (env : Env) (pos : Pos), (backTo pos (starEach (E.toL es) env)).any (·.1) = false
  | [], _, _ => by simp only [E.toL, starEach]; rfl
  | e :: es, env, pos => by
    have ih := star_any es env pos
    simp only [E.toL]
    rw [star_of]
    unfold backTo at ih ⊢
    rw [List.map_cons, List.any_cons, ih]
    rfl
theorem star_all : ∀ (es : List E) (env : Env) (pos : Pos), (backTo pos (starEach (E.toL es) env)).all (fun x => !x.1) = true
  | [], _, _ => by simp only [E.toL, starEach]; rfl
  | e :: es, env, pos => by
    have ih := star_all es env pos
    simp only [E.toL]
    rw [star_of]
    unfold backTo at ih ⊢
    rw [List.map_cons, List.all_cons, ih]
    rfl
theorem noSlice (e : E) (o i : Value) : subscripted e.toExpr false o i = operate [o, i] (getItem o i) := by
  cases e <;> simp only [E.toExpr, subscripted]
theorem noSet (e : E) (env : Env) (x : Value) : foldedSetIterable e.toExpr env x = pure x := by
  cases e <;> simp only [E.toExpr] <;> rfl
theorem noBehind (op : CmpOp) (e : E) : behindInMarks op e.toExpr = false := by
  cases e <;> simp only [E.toExpr, behindInMarks]
theorem base_of (o : E) (h : baseB o = true) (m : Str) (env : Env) (wh : Sem Value) : attributeBase o.toExpr m env wh = wh := by
  cases o with
  | cal f pf es p =>
    cases es with
    | nil => cases h
    | cons e es => simp only [E.toExpr, E.toL]; rfl
  | cali f pf es p =>
    cases es with
    | nil => cases h
    | cons e es => simp only [E.toExpr, E.toL]; rfl
  | blt f pf es p =>
    cases es with
    | nil => simp only [E.toExpr, E.toL]; cases f <;> rfl
    | cons e es => simp only [E.toExpr, E.toL]; rfl
  | _ => simp only [E.toExpr] <;> rfl

section
variable {X : Cx} {bl N : List Str} {sc : Scope} {n : Nat} {exA : Str → Option Addr} {EX : Str → Hp → Prop} {C : Calls} {lk : Option Addr}
theorem XOk.units (x : XOk bl N sc n exA EX X) : X.A.units + 190 < cLine := room_of x.room
theorem vis_of (x : XOk bl N sc n exA EX X) {y : Str} (h : visB sc y = true) : Vis X.env.scope y ∧ (y == ("__debug__" : Str)) = false ∧ (y == ("__classdict__" : Str)) = false := by
  unfold visB at h
  have h1 := (Bool.and_eq_true _ _).mp h
  have h2 := (Bool.and_eq_true _ _).mp h1.1
  refine ⟨?_, by simpa using h2.2, by simpa using h1.2⟩
  rw [x.sc]
  unfold Vis
  cases e : sc.names.lookup y with
  | none => rw [e] at h2; simp at h2
  | some k => cases k <;> rw [e] at h2 <;> simp at h2 ⊢
theorem glb_of (x : XOk bl N sc n exA EX X) {y : Str} (h : glbB sc y = true) : Gl X y ∧ (y == ("__debug__" : Str)) = false := by
  unfold glbB at h
  have h1 := (Bool.and_eq_true _ _).mp h
  refine ⟨?_, by simpa using h1.2⟩
  show X.env.scope.names.lookup y = some .globalImplicit
  rw [x.sc]
  cases e : sc.names.lookup y with
  | none => rw [e] at h1; simp at h1
  | some k => cases k <;> rw [e] at h1 <;> simp at h1 ⊢
theorem blt_of (x : XOk bl N sc n exA EX X) {y : Str} (h : bltB bl sc y = true) : Gl X y ∧ (y == ("__debug__" : Str)) = false ∧ X.mg y = none ∧ y ≠ "__name__" := by
  unfold bltB at h
  have h1 := (Bool.and_eq_true _ _).mp h
  have h2 := (Bool.and_eq_true _ _).mp h1.1
  obtain ⟨g1, g2⟩ := glb_of x h2.1
  exact ⟨g1, g2, x.bl y (by simpa using h2.2), by simpa using h1.2⟩
/-! ### one form after the other -/
theorem s_var (x : XOk bl N sc n exA EX X) {i : Nat} {y : Str} {p : Pos} (h : wfE bl N sc (.var i y p) = true) : PE X (E.var i y p).toExpr (tEv X.K lk EX C (.var i y p)) := by
  have h1 := (Bool.and_eq_true _ _).mp h
  obtain ⟨v1, v2, v3⟩ := vis_of x h1.2
  refine PE.weak (pe_var (i := i) (by rw [x.hN]; exact of_decide_eq_true h1.1) v1 v2 v3) fun σ H Q ⟨G, ρ, M, s, I, e, g⟩ => ?_
  obtain ⟨w, e1, g1⟩ := good_opt' g
  obtain ⟨v, e2, r⟩ := e.get i w e1
  exact ⟨v, e2, good_ret g1 (Step.refl _ _ _) I r⟩
theorem s_con {c : Const} {k : Nat} {p : Pos} : PE X (E.con c k p).toExpr (tEv X.K lk EX C (.con c k p)) := by
  have key : ∀ {v : V} {d : D}, conD c = some d → Rep X.K (fun _ => none) d v → ∀ σ H Q, tEv X.K lk EX C (.con c k p) σ H Q → tC v σ H Q := by
    rintro v d e r σ H Q ⟨G, ρ, M, s, I, en, g⟩
    have g' : Good X.K lk EX G H ρ (val? (conD c) M) (Rw X.K) Q := g
    obtain ⟨d', e', g1⟩ := good_val? g'
    rw [e] at e'; cases e'
    exact good_ret g1 (Step.refl _ _ _) I (Rep.sub (fun _ _ z => by simp at z) r)
  cases c with
  | none => exact PE.weak pe_non (key rfl rfl)
  | bool b => exact PE.weak pe_bl (key rfl rfl)
  | int b => exact PE.weak pe_int (key rfl rfl)
  | str b => exact PE.weak pe_str (key rfl rfl)
  | _ => exact ⟨fun pins s σ H Q I ⟨G, ρ, M, s', I', en, g⟩ => (show False from g).elim⟩
theorem s_glb (x : XOk bl N sc n exA EX X) (c : CallsOk X.prog X.w X.K X.mg X.base exA n lk C) {y : Str} {p : Pos} (h : wfE bl N sc (.glb y p) = true) : PE X (E.glb y p).toExpr (tEv X.K lk EX C (.glb y p)) := by
  cases e : C.gl y with
  | none =>
    refine ⟨fun pins s σ H Q I ⟨G, ρ, M, s', I', en, g⟩ => ?_⟩
    have g' : Good X.K lk EX G H ρ (val? (C.gl y) M) (Rw X.K) Q := g
    rw [e] at g'
    exact (show False from g').elim
  | some d =>
    obtain ⟨v, u, e1, r1, r2⟩ := c.gl y d e
    obtain ⟨g1, g2⟩ := glb_of x h
    refine PE.weak (pe_glob g1 e1 r1 g2) fun σ H Q ⟨G, ρ, M, s, I, en, g⟩ => ?_
    have g' : Good X.K lk EX G H ρ (val? (C.gl y) M) (Rw X.K) Q := g
    rw [e] at g'
    exact good_ret (a := Wv.val d) g' (Step.refl _ _ _) I (r2 G)
theorem s_bin {a b : E} {op : Operator} {p : Pos} (ha : PE X a.toExpr (tEv X.K lk EX C a)) (hb : PE X b.toExpr (tEv X.K lk EX C b)) : PE X (E.bin a op b p).toExpr (tEv X.K lk EX C (.bin a op b p)) := by
  simp only [E.toExpr]
  refine PE.weak (pe_op (op_bin op) ha hb) fun σ H Q ⟨G, ρ, M, s, I, e, g⟩ => ?_
  refine ⟨G, ρ, M, s, I, e, (good_bnd _ g).imp fun x H1 ⟨G1, ρ1, M1, w1, s1, I1, r1, g1⟩ => ?_⟩
  refine ⟨G1, ρ1, M1, s, I1, e.step s1, (good_bnd _ g1).imp fun y H2 ⟨G2, ρ2, M2, w2, s2, I2, r2, g2⟩ => ?_⟩
  obtain ⟨d, hd, g3⟩ := good_rd I2 (RepW.step s2 r1) g2
  obtain ⟨f, hf, g4⟩ := good_rd I2 r2 g3
  obtain ⟨r, hr, g5⟩ := good_val? g4
  exact bin_ok I2 hd hf hr fun z G' H' st I' rz => good_ret g5 st I' rz
theorem s_neg {a : E} {p : Pos} (ha : PE X a.toExpr (tEv X.K lk EX C a)) : PE X (E.neg a p).toExpr (tEv X.K lk EX C (.neg a p)) := by
  simp only [E.toExpr]
  refine PE.weak (pe_un un_neg ha) fun σ H Q ⟨G, ρ, M, s, I, e, g⟩ => ?_
  refine ⟨G, ρ, M, s, I, e, (good_bnd _ g).imp fun x H1 ⟨G1, ρ1, M1, w1, s1, I1, r1, g1⟩ => ?_⟩
  obtain ⟨d, hd, g3⟩ := good_rd I1 r1 g1
  obtain ⟨r, hr, g5⟩ := good_val? g3
  unfold opNeg at hr
  split at hr
  · cases hr; cases hd
    exact ⟨_, rfl, good_ret g5 (Step.refl _ _ _) I1 rfl⟩
  · cases hr
theorem s_nt {a : E} {p : Pos} (ha : PE X a.toExpr (tEv X.K lk EX C a)) : PE X (E.nt a p).toExpr (tEv X.K lk EX C (.nt a p)) := by
  simp only [E.toExpr]
  refine PE.weak (pe_not ha) fun σ H Q ⟨G, ρ, M, s, I, e, g⟩ => ?_
  refine ⟨G, ρ, M, s, I, e, (good_bnd _ g).imp fun x H1 ⟨G1, ρ1, M1, w1, s1, I1, r1, g1⟩ => ?_⟩
  obtain ⟨b, rfl, g2⟩ := good_tst g1
  cases r1
  exact ⟨b, rfl, good_ret g2 (Step.refl _ _ _) I1 rfl⟩
theorem cmp_imp (x : XOk bl N sc n exA EX X) {a b : E} {op : CmpOp} {p : Pos} {σ : L2.St} {H : Hp} {Q : VK} (h : tEv X.K lk EX C (.cmp a op b p) σ H Q) : tOp (rCmp X.K op) (tEv X.K lk EX C a) (tEv X.K lk EX C b) σ H Q := by
  obtain ⟨G, ρ, M, s, I, e, g⟩ := h
  refine ⟨G, ρ, M, s, I, e, (good_bnd _ g).imp fun x H1 ⟨G1, ρ1, M1, w1, s1, I1, r1, g1⟩ => ?_⟩
  refine ⟨G1, ρ1, M1, s, I1, e.step s1, (good_bnd _ g1).imp fun y H2 ⟨G2, ρ2, M2, w2, s2, I2, r2, g2⟩ => ?_⟩
  obtain ⟨d, hd, g3⟩ := good_rd I2 (RepW.step s2 r1) g2
  obtain ⟨f, hf, g4⟩ := good_rd I2 r2 g3
  obtain ⟨r, hr, g5⟩ := good_bool? g4
  exact cmp_ok I2 hd hf hr (good_ret g5 (Step.refl _ _ _) I2 rfl)
theorem s_cmp (x : XOk bl N sc n exA EX X) {a b : E} {op : CmpOp} {p : Pos} (ha : PE X a.toExpr (tEv X.K lk EX C a)) (hb : PE X b.toExpr (tEv X.K lk EX C b)) : PE X (E.cmp a op b p).toExpr (tEv X.K lk EX C (.cmp a op b p)) := by
  simp only [E.toExpr]
  exact PE.weak (pe_cmpR (op_cmp x.units op) ha hb (noBehind _ _)) fun σ H Q h => cmp_imp x h
theorem t_cmp (x : XOk bl N sc n exA EX X) {a b : E} {op : CmpOp} {p : Pos} (ha : PE X a.toExpr (tEv X.K lk EX C a)) (hb : PE X b.toExpr (tEv X.K lk EX C b)) : PT X (E.cmp a op b p).toExpr (tB (tEv X.K lk EX C (.cmp a op b p))) := by
  simp only [E.toExpr]
  exact PT.weak (pt_cmpR (op_cmp x.units op) ha hb (noBehind _ _)) fun σ H Q h => cmp_imp x h
theorem chn_imp (x : XOk bl N sc n exA EX X) {a b c : E} {op op2 : CmpOp} {p : Pos} {σ : L2.St} {H : Hp} {Q : VK} (h : tEv X.K lk EX C (.chn a op b op2 c p) σ H Q) : tChain (rCmp X.K op) (rCmp X.K op2) (tEv X.K lk EX C a) (tEv X.K lk EX C b) (tEv X.K lk EX C c) σ H Q := by
  obtain ⟨G, ρ, M, s, I, e, g⟩ := h
  refine ⟨G, ρ, M, s, I, e, (good_bnd _ g).imp fun x H1 ⟨G1, ρ1, M1, w1, s1, I1, r1, g1⟩ => ?_⟩
  refine ⟨G1, ρ1, M1, s, I1, e.step s1, (good_bnd _ g1).imp fun y H2 ⟨G2, ρ2, M2, w2, s2, I2, r2, g2⟩ => ?_⟩
  obtain ⟨d, hd, g3⟩ := good_rd I2 (RepW.step s2 r1) g2
  obtain ⟨f, hf, g4⟩ := good_rd I2 r2 g3
  obtain ⟨t, ht, g5⟩ := good_opt g4
  refine cmp_ok I2 hd hf ht ⟨t, rfl, ?_⟩
  cases t with
  | false =>
    rw [if_neg Bool.false_ne_true]
    exact good_ret (a := Wv.val (.bl false)) g5 (Step.refl _ _ _) I2 rfl
  | true =>
    rw [if_pos rfl]
    have g6 : Good X.K lk EX G2 H2 ρ2 (bnd (ev C c s) (fun z => bnd (rd w2) fun e => bnd (rd z) fun f' => bool? (opCmp op2 e f')) M2) (Rw X.K) Q := g5
    refine ⟨G2, ρ2, M2, s, I2, (e.step s1).step s2, (good_bnd _ g6).imp fun z H3 ⟨G3, ρ3, M3, w3, s3, I3, r3, g7⟩ => ?_⟩
    obtain ⟨f', hf', g8⟩ := good_rd I3 (RepW.step s3 r2) g7
    obtain ⟨f2, hf2, g9⟩ := good_rd I3 r3 g8
    obtain ⟨r, hr, g10⟩ := good_bool? g9
    exact cmp_ok I3 hf' hf2 hr (good_ret g10 (Step.refl _ _ _) I3 rfl)
theorem s_chn (x : XOk bl N sc n exA EX X) {a b c : E} {op op2 : CmpOp} {p : Pos} (ha : PE X a.toExpr (tEv X.K lk EX C a)) (hb : PE X b.toExpr (tEv X.K lk EX C b)) (hc : PE X c.toExpr (tEv X.K lk EX C c)) : PE X (E.chn a op b op2 c p).toExpr (tEv X.K lk EX C (.chn a op b op2 c p)) := by
  simp only [E.toExpr]
  exact PE.weak (pe_chain (op_cmp x.units op) (op_cmp x.units op2) ha hb hc (noBehind op2 c)) fun σ H Q h => chn_imp x h
theorem t_chn (x : XOk bl N sc n exA EX X) {a b c : E} {op op2 : CmpOp} {p : Pos} (ha : PE X a.toExpr (tEv X.K lk EX C a)) (hb : PE X b.toExpr (tEv X.K lk EX C b)) (hc : PE X c.toExpr (tEv X.K lk EX C c)) : PT X (E.chn a op b op2 c p).toExpr (tB (tEv X.K lk EX C (.chn a op b op2 c p))) := by
  simp only [E.toExpr]
  exact PT.weak (pt_chain (op_cmp x.units op) (op_cmp x.units op2) ha hb hc (noBehind op2 c)) fun σ H Q h => chn_imp x h
/-! lists of expressions -/
theorem l_nil : PA X (E.toL []) (tEvL X.K lk EX C []) := by
  refine PA.weak pa_nil fun σ H Q ⟨G, ρ, M, s, I, e, g⟩ => ?_
  exact good_ret (a := ([] : List D)) g (Step.refl _ _ _) I rfl
theorem l_cons {a : E} {es : List E} (ha : PE X a.toExpr (tEv X.K lk EX C a)) (hs : PA X (E.toL es) (tEvL X.K lk EX C es)) : PA X (E.toL (a :: es)) (tEvL X.K lk EX C (a :: es)) := by
  simp only [E.toL]
  refine PA.weak (pa_cons ha hs (star_of _ _ _)) fun σ H Q ⟨G, ρ, M, s, I, e, g⟩ => ?_
  refine ⟨G, ρ, M, s, I, e, (good_bnd _ g).imp fun x H1 ⟨G1, ρ1, M1, w1, s1, I1, r1, g1⟩ => ?_⟩
  obtain ⟨d, G2, M2, s2, I2, r2, g2⟩ := good_vl I1 r1 g1
  refine ⟨G2, ρ1, M2, s, I2, (e.step s1).step s2, (good_bnd (fun G _ _ ds vs => RepL X.K G ds vs) g2).imp fun xs H3 ⟨G3, ρ3, M3, ds, s3, I3, r3, g3⟩ => ?_⟩
  exact good_ret g3 (Step.refl _ _ _) I3 ⟨x, xs, rfl, Rep.sub s3.g r2, r3⟩
theorem p_nil : PA X (E.toL []) (tEvP X.K lk EX C []) := by
  refine PA.weak pa_nil fun σ H Q ⟨G, ρ, M, s, I, e, g⟩ => ?_
  exact good_ret (a := ([] : List D)) g (Step.refl _ _ _) I rfl
theorem p_cons {a : E} {es : List E} (ha : PE X a.toExpr (tEv X.K lk EX C a)) (hs : PA X (E.toL es) (tEvP X.K lk EX C es)) : PA X (E.toL (a :: es)) (tEvP X.K lk EX C (a :: es)) := by
  simp only [E.toL]
  refine PA.weak (pa_cons ha hs (star_of _ _ _)) fun σ H Q ⟨G, ρ, M, s, I, e, g⟩ => ?_
  refine ⟨G, ρ, M, s, I, e, (good_bnd _ g).imp fun x H1 ⟨G1, ρ1, M1, w1, s1, I1, r1, g1⟩ => ?_⟩
  obtain ⟨d, G2, M2, s2, I2, r2, g2⟩ := good_vp I1 r1 g1
  refine ⟨G2, ρ1, M2, s, I2, (e.step s1).step s2, (good_bnd (fun G _ _ ds vs => RepL X.K G ds vs) g2).imp fun xs H3 ⟨G3, ρ3, M3, ds, s3, I3, r3, g3⟩ => ?_⟩
  exact good_ret g3 (Step.refl _ _ _) I3 ⟨x, xs, rfl, Rep.sub s3.g r2, r3⟩
theorem w_nil : PA X (E.toL []) (tEvW X.K lk EX C []) := by
  refine PA.weak pa_nil fun σ H Q ⟨G, ρ, M, s, I, e, g⟩ => ?_
  exact good_ret (a := ([] : List Wv)) g (Step.refl _ _ _) I .nil
theorem w_cons {a : E} {es : List E} (ha : PE X a.toExpr (tEv X.K lk EX C a)) (hs : PA X (E.toL es) (tEvW X.K lk EX C es)) : PA X (E.toL (a :: es)) (tEvW X.K lk EX C (a :: es)) := by
  simp only [E.toL]
  refine PA.weak (pa_cons ha hs (star_of _ _ _)) fun σ H Q ⟨G, ρ, M, s, I, e, g⟩ => ?_
  refine ⟨G, ρ, M, s, I, e, (good_bnd _ g).imp fun x H1 ⟨G1, ρ1, M1, w1, s1, I1, r1, g1⟩ => ?_⟩
  refine ⟨G1, ρ1, M1, s, I1, e.step s1, (good_bnd (fun G _ ρ ws vs => Paired (RepW X.K G ρ) ws vs) g1).imp fun xs H3 ⟨G3, ρ3, M3, ds, s3, I3, r3, g3⟩ => ?_⟩
  exact good_ret g3 (Step.refl _ _ _) I3 (.cons (RepW.step s3 r1) r3)
theorem good_rdL {K : PySem.W.Frag} {lk : Option Addr} {G H : Hp} {ρ : List Addr} {M : List Cell} {α' β' : Type} {Rl : Hp → Hp → List Addr → α' → β' → Prop} {Q : β' → Hp → Prop} (I : SI K lk G H ρ M) : ∀ {ws : List Wv} {vs : List V}, Paired (RepW K G ρ) ws vs → ∀ {f : List D → R α'}, Good K lk EX G H ρ (bnd (rdL ws) f M) Rl Q →
    ∃ ds, Paired (ShR K G H) ds vs ∧ Good K lk EX G H ρ (f ds M) Rl Q
  | [], _, .nil, f, g => ⟨[], .nil, g⟩
  | w :: ws, _, .cons r rs, f, g => by
    have e : bnd (rdL (w :: ws)) f = bnd (rd w) fun d => bnd (rdL ws) fun ds => f (d :: ds) := by
      funext m
      simp only [rdL, bnd]
      cases rd w m with
      | ok a m' => simp only; cases rdL ws m' <;> rfl
      | exc c m' => rfl
      | no => rfl
    rw [e] at g
    obtain ⟨d, hd, g1⟩ := good_rd I r g
    obtain ⟨ds, hds, g2⟩ := good_rdL I rs (f := fun ds => f (d :: ds)) g1
    exact ⟨d :: ds, .cons hd hds, g2⟩
theorem len_toL : ∀ es : List E, (E.toL es).length = es.length
  | [] => by simp only [E.toL]; rfl
  | e :: es => by simp only [E.toL, List.length_cons, len_toL es]
theorem small_le {n : Nat} (h : n ≤ 1000) : n ≤ sizeLine := by
  rw [sizeLine_eq]; omega
theorem evL_len : ∀ (es : List E) (s : En) (M M' : List Cell) (ds : List D), evL C es s M = .ok ds M' → ds.length = es.length
  | [], s, M, M', ds, h => by simp only [evL, ret] at h; cases h; rfl
  | e :: es, s, M, M', ds, h => by
    simp only [evL, bnd] at h
    cases h1 : ev C e s M with
    | ok w M1 =>
      simp only [h1] at h
      cases h2 : vl w M1 with
      | ok d M2 =>
        simp only [h2] at h
        cases h3 : evL C es s M2 with
        | ok r M3 =>
          simp only [h3, ret] at h
          cases h
          simp only [List.length_cons, evL_len es s M2 M' r h3]
        | exc c m => simp only [h3] at h; cases h
        | no => simp only [h3] at h; cases h
      | exc c m => simp only [h2] at h; cases h
      | no => simp only [h2] at h; cases h
    | exc c m => simp only [h1] at h; cases h
    | no => simp only [h1] at h; cases h
theorem pe_tup0 {k : Nat} {p : Pos} : PE X (.Tuple [] k p) (fun _ H Q => ∀ q (o : Obj), H q = none → o.dict = none → Q (.ref q) (upd H q (.frz o (.tup [])))) := by
  refine ⟨fun pins s σ H Q I hq => ?_⟩
  refine wpAny_Tuple_spliced (thn (pa_nil.run p pins s σ H (fun vs H1 => vs = [] ∧ H1 = H) I ⟨rfl, rfl⟩) fun us s1 ⟨xs, H1, I1, r, e1, e2⟩ => ⟨?_, ?_⟩)
  · subst e1; cases r; exact Nat.zero_le _
  · subst e1 e2
    cases r
    have hf : H1 s1.heap.objs.size = none := I1.hok.fresh (Nat.le_refl _)
    refine ⟨.ref s1.heap.objs.size, upd H1 s1.heap.objs.size (.frz { cls := .type "tuple", data := .seq #[] } (.tup [])), I1.laid (t' := s1.toks) (fun b u e => Heap.get?_push_of_some _ e) (Nat.le_refl _) ?_, rfl, hq _ { cls := .type "tuple", data := .seq #[] } hf rfl⟩
    exact ⟨Heap.get?_push_size _ rfl, Nat.zero_le _, [], .nil, ⟨_, Heap.get?_push_size _ rfl, rfl, _, rfl⟩⟩
theorem s_tup {es : List E} {k : Nat} {p : Pos} (hl : es.length ≤ 1000) (hs : PA X (E.toL es) (tEvL X.K lk EX C es)) : PE X (E.tup es k p).toExpr (tEv X.K lk EX C (.tup es k p)) := by
  simp only [E.toExpr]
  cases es with
  | nil =>
    simp only [E.toL]
    refine PE.weak pe_tup0 fun σ H Q ⟨G, ρ, M, s, I, e, g⟩ => ?_
    exact new_ptp I (ds := []) (vs := []) rfl fun z G2 H2 s2 I2 r3 => good_ret (a := Wv.val (.ptp [])) g s2 I2 r3
  | cons e1 es =>
    refine PE.weak (pe_tup hs) fun σ H Q ⟨G, ρ, M, s, I, e, g⟩ => ?_
    have g0 : Good X.K lk EX G H ρ (evL C (e1 :: es) s M) (fun G _ _ ds vs => RepL X.K G ds vs ∧ ds.length ≤ 1000 ∧ tupV ds = .tup ds) (fun b H1 => ∃ G1 ρ1 M1 a, Step G H ρ G1 H1 ρ1 ∧ SI X.K lk G1 H1 ρ1 M1 ∧ (RepL X.K G1 a b ∧ a.length ≤ 1000 ∧ tupV a = .tup a) ∧ Good X.K lk EX G1 H1 ρ1 (ret (Wv.val (tupV a)) M1) (Rw X.K) Q) := good_bnd _ g
    refine ⟨G, ρ, M, s, I, e, ?_⟩
    cases h1 : evL C (e1 :: es) s M with
    | exc c m => rw [h1] at g0; exact g0
    | no => rw [h1] at g0; exact g0
    | ok ds M1 =>
      rw [h1] at g0
      have hds := evL_len (e1 :: es) s M M1 ds h1
      have htv : tupV ds = .tup ds := by
        cases ds with
        | nil => cases hds
        | cons d ds => rfl
      intro vs G' H' ρ' st I' r
      obtain ⟨G1, ρ1, M2, a, s1, I1, ⟨r1, r2, r4⟩, g1⟩ := g0 vs G' H' ρ' st I' ⟨r, by omega, htv⟩
      rw [r4] at g1
      exact ⟨small_le (by rw [← r1.length]; exact r2), new_tup I1 r1 fun z G2 H2 s2 I2 r3 => good_ret g1 s2 I2 r3⟩
theorem s_lst {es : List E} {p : Pos} (hl : es.length ≤ 1000) (hs : PA X (E.toL es) (tEvL X.K lk EX C es)) : PE X (E.lst es p).toExpr (tEv X.K lk EX C (.lst es p)) := by
  simp only [E.toExpr]
  refine PE.weak (pe_lst hs) fun σ H Q ⟨G, ρ, M, s, I, e, g⟩ => ?_
  have g0 : Good X.K lk EX G H ρ (evL C es s M) (fun G _ _ ds vs => RepL X.K G ds vs ∧ ds.length ≤ 1000) (fun b H1 => ∃ G1 ρ1 M1 a, Step G H ρ G1 H1 ρ1 ∧ SI X.K lk G1 H1 ρ1 M1 ∧ (RepL X.K G1 a b ∧ a.length ≤ 1000) ∧ Good X.K lk EX G1 H1 ρ1 (ret (Wv.val (.lst a)) M1) (Rw X.K) Q) := good_bnd _ g
  refine ⟨G, ρ, M, s, I, e, ?_⟩
  cases h1 : evL C es s M with
  | exc c m => rw [h1] at g0; exact g0
  | no => rw [h1] at g0; exact g0
  | ok ds M1 =>
    rw [h1] at g0
    have hds := evL_len es s M M1 ds h1
    intro vs G' H' ρ' st I' r
    obtain ⟨G1, ρ1, M2, a, s1, I1, ⟨r1, r2⟩, g1⟩ := g0 vs G' H' ρ' st I' ⟨r, by omega⟩
    exact ⟨small_le (by rw [← r1.length]; exact r2), new_lst I1 r1 fun z G2 H2 s2 I2 r3 => good_ret g1 s2 I2 r3⟩
theorem s_idx (x : XOk bl N sc n exA EX X) {a b : E} {p : Pos} (ha : PE X a.toExpr (tEv X.K lk EX C a)) (hb : PE X b.toExpr (tEv X.K lk EX C b)) : PE X (E.idx a b p).toExpr (tEv X.K lk EX C (.idx a b p)) := by
  simp only [E.toExpr]
  refine PE.weak (pe_ix (ix_any x.units) ha hb (fun _ _ => noSlice b _ _)) fun σ H Q ⟨G, ρ, M, s, I, e, g⟩ => ?_
  refine ⟨G, ρ, M, s, I, e, (good_bnd _ g).imp fun x H1 ⟨G1, ρ1, M1, w1, s1, I1, r1, g1⟩ => ?_⟩
  refine ⟨G1, ρ1, M1, s, I1, e.step s1, (good_bnd _ g1).imp fun y H2 ⟨G2, ρ2, M2, w2, s2, I2, r2, g2⟩ => ?_⟩
  obtain ⟨d, hd, g3⟩ := good_rd I2 (RepW.step s2 r1) g2
  obtain ⟨f, hf, g4⟩ := good_rd I2 r2 g3
  obtain ⟨r, hr, g5⟩ := good_val? g4
  exact idx_ok I2 hd hf hr fun z rz => good_ret g5 (Step.refl _ _ _) I2 rz
theorem s_none : L2.PO X (E.toO none) (tEvO X.K lk EX C none) := by
  simp only [E.toO]
  refine PO.weak po_none fun σ H Q ⟨G, ρ, M, s, I, e, g⟩ => ?_
  exact good_ret (a := (none : Option Int)) g (Step.refl _ _ _) I rfl
theorem s_some {a : E} (ha : PE X a.toExpr (tEv X.K lk EX C a)) : L2.PO X (E.toO (some a)) (tEvO X.K lk EX C (some a)) := by
  simp only [E.toO]
  refine PO.weak (po_some ha) fun σ H Q ⟨G, ρ, M, s, I, e, g⟩ => ?_
  refine ⟨G, ρ, M, s, I, e, (good_bnd _ g).imp fun x H1 ⟨G1, ρ1, M1, w1, s1, I1, r1, g1⟩ => ?_⟩
  obtain ⟨d, hd, g2⟩ := good_rd I1 r1 g1
  obtain ⟨i, hi, g3⟩ := good_opt g2
  cases d <;> first | (cases hi; cases hd; exact ⟨_, rfl, good_ret g3 (Step.refl _ _ _) I1 rfl⟩) | (simp [intO] at hi)
theorem s_slc {a : E} {lo hi : Option E} {p2 p : Pos} (ha : PE X a.toExpr (tEv X.K lk EX C a)) (hl : L2.PO X (E.toO lo) (tEvO X.K lk EX C lo)) (hh : L2.PO X (E.toO hi) (tEvO X.K lk EX C hi)) : PE X (E.slc a lo hi p2 p).toExpr (tEv X.K lk EX C (.slc a lo hi p2 p)) := by
  simp only [E.toExpr]
  refine PE.weak (pe_slice sl_any ha hl hh) fun σ H Q ⟨G, ρ, M, s, I, e, g⟩ => ?_
  refine ⟨G, ρ, M, s, I, e, (good_bnd _ g).imp fun x H1 ⟨G1, ρ1, M1, w1, s1, I1, r1, g1⟩ => ?_⟩
  refine ⟨G1, ρ1, M1, s, I1, e.step s1, (good_bnd (fun _ _ _ (b b' : Option Int) => b = b') g1).imp fun l H2 ⟨G2, ρ2, M2, w2, s2, I2, r2, g2⟩ => ?_⟩
  subst r2
  refine ⟨G2, ρ2, M2, s, I2, (e.step s1).step s2, (good_bnd (fun _ _ _ (b b' : Option Int) => b = b') g2).imp fun h H3 ⟨G3, ρ3, M3, w3, s3, I3, r3, g3⟩ => ?_⟩
  subst r3
  obtain ⟨d, hd, g4⟩ := good_rd I3 (RepW.step s3 (RepW.step s2 r1)) g3
  obtain ⟨r, hr, g5⟩ := good_val? g4
  exact slc_ok I3 hd hr fun z G' H' st I' rz => good_ret g5 st I' rz
theorem s_rvs {a : E} {p4 p3 p2 p : Pos} {k : Nat} (ha : PE X a.toExpr (tEv X.K lk EX C a)) : PE X (E.rvs a p4 p3 p2 p k).toExpr (tEv X.K lk EX C (.rvs a p4 p3 p2 p k)) := by
  simp only [E.toExpr]
  refine PE.weak (pe_revL ha) fun σ H Q ⟨G, ρ, M, s, I, e, g⟩ => ?_
  refine ⟨G, ρ, M, s, I, e, (good_bnd _ g).imp fun x H1 ⟨G1, ρ1, M1, w1, s1, I1, r1, g1⟩ => ?_⟩
  obtain ⟨d, hd, g2⟩ := good_rd I1 r1 g1
  obtain ⟨r, hr, g3⟩ := good_val? g2
  unfold opRvs at hr
  split at hr
  · cases hr
    obtain ⟨b, vs, rfl, h1, r2⟩ := hd
    exact ⟨b, vs, rfl, SqL.of h1, new_lst I1 r2.reverse fun z G' H' st I' rz => good_ret g3 st I' rz⟩
  · cases hr
theorem vals_cells {K : PySem.W.Frag} {G H : Hp} {ρ : List Addr} : ∀ {ds : List D} {vs : List V}, RepL K G ds vs → True := fun _ => trivial
theorem blt_boot : ∀ f : Blt, bootBuiltins f.name = some f.val
  | .len => PySem.boot_len
  | .any => by decide +kernel
  | .all => by decide +kernel
  | .dict => by decide +kernel
  | .list => by decide +kernel
  | .tuple => by decide +kernel
  | .sorted => by decide +kernel
  | .int => by decide +kernel
  | .str => by decide +kernel
  | .sum => by decide +kernel
theorem s_blt (x : XOk bl N sc n exA EX X) {f : Blt} {pf : Pos} {e1 : E} {es : List E} {p : Pos} (hb : bltB bl sc f.name = true) (hs : PA X (E.toL (e1 :: es)) (tEvW X.K lk EX C (e1 :: es))) : PE X (E.blt f pf (e1 :: es) p).toExpr (tEv X.K lk EX C (.blt f pf (e1 :: es) p)) := by
  obtain ⟨g1, g2, g3, g4⟩ := blt_of x hb
  have key : PE X (.Call (.Name f.name pf) (e1.toExpr :: E.toL es) [] p) (tCB (rBlt X.K f) (tEvW X.K lk EX C (e1 :: es))) := by
    have hb := blt_boot f
    have hc := call_blt x.calm f
    simp only [E.toL] at hs
    have h1 := star_of e1 (E.toL es) X.env
    have h2 := star_any es X.env p
    cases f <;> first
      | exact pe_callB hc g1 g3 hb hs g4 g2 h1 h2
      | exact pe_callTy hc g1 g3 hb hs g4 g2 h1 h2
  simp only [E.toExpr, E.toL]
  refine PE.weak key fun σ H Q ⟨G, ρ, M, s, I, e, g⟩ => ?_
  refine ⟨G, ρ, M, s, I, e, (good_bnd (fun G _ ρ ws vs => Paired (RepW X.K G ρ) ws vs) g).imp fun xs H1 ⟨G1, ρ1, M1, ws, s1, I1, r1, g1⟩ => ?_⟩
  cases hp : plArg f ws with
  | none =>
    rw [hp] at g1
    obtain ⟨ds, hd, g2⟩ := good_rdL I1 r1 g1
    obtain ⟨r, hr, g3⟩ := good_val? g2
    exact blt_ok I1 hd hr fun z G' H' st I' rz => good_ret g3 st I' rz
  | some ps =>
    rw [hp] at g1
    unfold plArg at hp
    split at hp
    · cases hp
      obtain ⟨r, hr, g3⟩ := good_val? g1
      simp only [Option.map_eq_some_iff] at hr
      obtain ⟨kvs, e5, rfl⟩ := hr
      cases r1 with
      | cons rv rn =>
        cases rn
        exact dictp_ok I1 rv e5 fun z G' H' st I' rz => good_ret g3 st I' rz
    · cases hp
/-! isinstance -/
def tyN : D → String
  | .non => "NoneType" | .bl _ => "bool" | .int _ => "int" | .str _ => "str" | .tup _ => "tuple" | .lst _ => "list" | .dict _ _ => "dict" | .scr _ => "list" | .ptp _ => "tuple"
theorem ty_of {K : PySem.W.Frag} {lk : Option Addr} {G H : Hp} {ρ : List Addr} {M : List Cell} (I : SI K lk G H ρ M) {d : D} {v : V} (r : Rep K G d v) : TyX K H v (.type (tyN d)) := by
  cases d with
  | non => cases r; exact .base .non
  | bl b => cases r; exact .base (.bl b)
  | int b => cases r; exact .base (.int b)
  | str b => cases r; exact .base (.str b)
  | tup ds =>
    obtain ⟨a, vs, rfl, h1, _⟩ := r
    rcases I.sqt h1 with (h | ⟨o, h⟩) | ⟨o, its, n, h, c, _⟩
    · exact .base (.tup h)
    · exact .fTuple h
    · exact .kTuple h c
  | lst ds =>
    obtain ⟨a, vs, rfl, h1, _⟩ := r
    exact .base (.lst (I.rdL h1))
  | dict ks ds =>
    obtain ⟨a, vs, rfl, h1, _⟩ := r
    rcases I.rd h1 with h | ⟨o, h⟩
    · exact .base (.dK h)
    · exact .fDict h
  | scr ns =>
    obtain ⟨a, rfl, h1⟩ := r
    rcases I.sql h1 with (h | ⟨o, h⟩) | ⟨o, its, n, h, c, _⟩
    · exact .base (.lst h)
    · exact .base (.frz h)
    · exact .kList h c
  | ptp ds =>
    obtain ⟨a, vs, rfl, ⟨o, _, h1⟩, _⟩ := r
    rcases I.sub a _ h1 with h | ⟨_, o', kvs', e', _⟩
    · exact .fTuple h
    · cases e'
theorem ty_boot : ∀ t : Ty, bootBuiltins t.name = some (.type t.id)
  | .int => by decide +kernel
  | .bool => by decide +kernel
  | .str => by decide +kernel
  | .tuple => by decide +kernel
  | .list => by decide +kernel
theorem ty_kit (t : Ty) (d : D) : kitB (tyN d) t.id = some (isT t d) := by
  cases t <;> cases d <;> simp only [tyN, Ty.id, isT] <;> decide +kernel
theorem s_isi (x : XOk bl N sc n exA EX X) {a : E} {t : Ty} {pf pt p : Pos} (h1 : bltB bl sc "isinstance" = true) (h2 : bltB bl sc t.name = true) (ha : PE X a.toExpr (tEv X.K lk EX C a)) : PE X (E.isi a t pf pt p).toExpr (tEv X.K lk EX C (.isi a t pf pt p)) := by
  obtain ⟨g1, g2, g3, g4⟩ := blt_of x h1
  obtain ⟨k1, k2, k3, k4⟩ := blt_of x h2
  simp only [E.toExpr]
  have pt : PE X (.Name t.name pt) (tC (.ty t.id)) := pe_bltn k1 k3 (ty_boot t) rfl k4 k2
  refine PE.weak (pe_callB call_isi g1 g3 PyProof.Rows.boot_isinstance (pa_cons ha (pa_cons pt pa_nil rfl) (star_of _ _ _)) g4 g2 (star_of _ _ _) rfl) fun σ H Q ⟨G, ρ, M, s, I, e, g⟩ => ?_
  refine ⟨G, ρ, M, s, I, e, (good_bnd _ g).imp fun y H1 ⟨G1, ρ1, M1, w1, s1, I1, r1, g5⟩ => ?_⟩
  cases w1 with
  | loc k => exact (show False from g5).elim
  | val d =>
    exact ⟨y, .ty t.id, .type (tyN d), .type t.id, isT t d, rfl, .ty _, ty_of I1 r1, kit_ty (ty_kit t d), good_ret (a := Wv.val (.bl (isT t d))) g5 (Step.refl _ _ _) I1 rfl⟩
/-! a call of a def -/
theorem PStep.step {K : PySem.W.Frag} {G H G' H' : Hp} {ρ : List Addr} {M : List Cell} {lk : Option Addr} (p : PStep G H G' H') (I : SI K lk G H ρ M) : Step G H ρ G' H' ρ ∧ SI K lk G' H' ρ M := by
  refine ⟨⟨p.g, ⟨[], by simp⟩, fun a o q _ => p.h a o q, fun a u q => ?_, fun _ q => .inl q, fun a q => ?_⟩, ⟨fun a u q => .inl (p.sub a u q), I.nd, I.len, fun k a c e1 e2 => ?_⟩⟩
  · rcases p.gn a u q with z | z
    · exact .inl z
    · exact .inr (.inl z)
  · cases e : H a with
    | none => rfl
    | some o => rw [p.h a o e] at q; cases q
  · have c0 := I.cell k a c e1 e2
    have gone : ∀ o, G a = none → H a = some o → G' a = none := fun o g1 h1 => by
      cases e : G' a with
      | none => rfl
      | some u =>
        rcases p.gn a u e with ⟨z, q⟩ | q
        · rw [g1] at q; cases q
        · rw [h1] at q; cases q
    cases c with
    | lst ds => obtain ⟨z1, vs, z2, z3⟩ := c0; exact ⟨gone _ z1 z2, vs, p.h _ _ z2, RepL.sub p.g z3⟩
    | dict ks ds => obtain ⟨z1, vs, z2, z3, z4⟩ := c0; exact ⟨gone _ z1 z2, vs, p.h _ _ z2, z3, RepL.sub p.g z4⟩
    | frz d => obtain ⟨z1, o, z2⟩ := c0; exact ⟨Rep.sub p.g z1, o, p.g _ _ z2⟩
theorem s_cal (x : XOk bl N sc n exA EX X) (c : CallsOk X.prog X.w X.K X.mg X.base exA n lk C) {f : Str} {pf : Pos} {e1 : E} {es : List E} {p : Pos} (hf : glbB sc f = true) (hs : PA X (E.toL (e1 :: es)) (tEvP X.K lk EX C (e1 :: es))) :
    PE X (E.cal f pf (e1 :: es) p).toExpr (tEv X.K lk EX C (.cal f pf (e1 :: es) p)) := by
  obtain ⟨g1, g2⟩ := glb_of x hf
  cases hh : C.has f with
  | false =>
    refine ⟨fun pins s σ H Q I ⟨G, ρ, M, s', I', en, g⟩ => ?_⟩
    have e0 : ev C (.cal f pf (e1 :: es) p) s' = stuck := by simp only [ev, hh]; rfl
    rw [e0] at g
    exact (show False from g).elim
  | true =>
    have hlk : lk = none := by
      cases e : lk with
      | none => rfl
      | some a => have := c.lkn (by rw [e]; exact fun z => nomatch z) f; rw [hh] at this; cases this
    obtain ⟨a, fd, ps, m1, k1, b1, F, hlen⟩ := c.fn f hh
    simp only [E.toExpr, E.toL] at hs ⊢
    refine PE.weak (pe_call (E := EXw exA EX) F x.room g1 m1 k1 b1 .nil (passes_call x.tk fun _ _ _ _ h => h) hs g2 (star_of _ _ _) (star_any _ _ _)) fun σ H Q ⟨G, ρ, M, s, I, e, g⟩ => ?_
    have e0 : ev C (.cal f pf (e1 :: es) p) s = bnd (evP C (e1 :: es) s) fun ds => ofPO (C.pc f ds) := by simp only [ev, hh]; rfl
    rw [e0] at g
    refine ⟨G, ρ, M, s, I, e, (good_bnd (fun G _ _ ds vs => RepL X.K G ds vs) g).imp fun vs H1 ⟨G1, ρ1, M1, ds, s1, I1, r1, g3⟩ => ?_⟩
    rw [List.append_nil]
    cases hp : C.pc f ds with
    | no =>
      rw [hp] at g3
      exact (show False from g3).elim
    | ok d =>
      have hl : vs.length = ps.length := by rw [← r1.length]; exact hlen ds (by rw [hp]; exact fun z => nomatch z)
      refine ⟨hl, G1, ds, fun b u z => ?_, r1, ?_⟩
      · rcases I1.sub b u z with q | ⟨q, _⟩
        · exact q
        · rw [hlk] at q; cases q
      · rw [hp]
        intro v G' H' st r2
        obtain ⟨s2, I2⟩ := st.step I1
        rw [hp] at g3
        exact good_ret (a := Wv.val d) g3 s2 I2 r2
    | exc ex =>
      have hl : vs.length = ps.length := by rw [← r1.length]; exact hlen ds (by rw [hp]; exact fun z => nomatch z)
      obtain ⟨b, hb⟩ := c.exc f ds ex hp
      refine ⟨hl, G1, ds, fun b u z => ?_, r1, ?_⟩
      · rcases I1.sub b u z with q | ⟨q, _⟩
        · exact q
        · rw [hlk] at q; cases q
      · rw [hp]
        refine ⟨b, hb, fun G' H' st => ?_⟩
        obtain ⟨s2, I2⟩ := st.step I1
        rw [hp] at g3
        exact ⟨ex, b, hb, rfl, rfl, g3 _ _ _ s2 I2⟩
theorem paired_len {α β : Type} {R : α → β → Prop} : ∀ {xs : List α} {ys : List β}, Paired R xs ys → xs.length = ys.length
  | _, _, .nil => rfl
  | _, _, .cons _ t => by rw [List.length_cons, List.length_cons, paired_len t]
theorem s_cali (x : XOk bl N sc n exA EX X) (c : CallsOk X.prog X.w X.K X.mg X.base exA n lk C) {f : Str} {pf : Pos} {e1 : E} {es : List E} {p : Pos} (hf : glbB sc f = true) (hs : PA X (E.toL (e1 :: es)) (tEvW X.K lk EX C (e1 :: es))) :
    PE X (E.cali f pf (e1 :: es) p).toExpr (tEv X.K lk EX C (.cali f pf (e1 :: es) p)) := by
  obtain ⟨g1, g2⟩ := glb_of x hf
  cases hh : C.hasI f with
  | false =>
    refine ⟨fun pins s σ H Q I ⟨G, ρ, M, s', I', en, g⟩ => ?_⟩
    have e0 : ev C (.cali f pf (e1 :: es) p) s' = stuck := by simp only [ev, hh]; rfl
    rw [e0] at g
    exact (show False from g).elim
  | true =>
    have hlk : lk = none := by
      cases e : lk with
      | none => rfl
      | some a => have := c.lkI (by rw [e]; exact fun z => nomatch z) f; rw [hh] at this; cases this
    obtain ⟨a, fd, ps, m1, k1, b1, F, hlen⟩ := c.fnI f hh
    simp only [E.toExpr, E.toL] at hs ⊢
    refine PE.weak (pe_call (E := EXw exA EX) F x.room g1 m1 k1 b1 .nil (passes_call x.tk fun _ _ _ _ h => h) hs g2 (star_of _ _ _) (star_any _ _ _)) fun σ H Q ⟨G, ρ, M, s, I, e, g⟩ => ?_
    have e0 : ev C (.cali f pf (e1 :: es) p) s = bnd (evW C (e1 :: es) s) fun ws => C.ic f ws := by simp only [ev, hh]; rfl
    rw [e0] at g
    refine ⟨G, ρ, M, s, I, e, (good_bnd (fun G _ ρ ws vs => Paired (RepW X.K G ρ) ws vs) g).imp fun vs H1 ⟨G1, ρ1, M1, ws, s1, I1, r1, g3⟩ => ?_⟩
    rw [List.append_nil]
    rw [hlk] at I1 g3
    have ne : C.ic f ws M1 ≠ .no := fun z => by rw [z] at g3; exact g3
    refine ⟨by rw [← paired_len r1]; exact hlen ws M1 ne, G1, ρ1, M1, ws, I1, r1, ?_⟩
    cases hp : C.ic f ws M1 with
    | no => exact absurd hp ne
    | ok w' M2 => rw [hp] at g3; exact g3
    | exc cc M2 =>
      rw [hp] at g3
      obtain ⟨a', ha⟩ := c.excI f ws M1 cc M2 hp
      exact fun G' H' ρ' s' I' => ⟨a', ha, cc, a', ha, rfl, rfl, g3 G' H' ρ' s' I'⟩
end
end G9

set_option Elab.async false
set_option linter.all false
set_option maxRecDepth 100000
set_option maxHeartbeats 1000000
namespace G9
open PySem PySem.Spec PyProof.Rows L2
section
variable {K : PySem.W.Frag} {lk : Option Addr} {G H G0 H0 : Hp} {ρ ρ0 : List Addr} {M : List Cell} {p : Addr} {o : HO}
/-- an object of ours, not shared yet, changes -/
theorem SI.mutH (I : SI K lk G H ρ M) (hg : G p = none) (hr : p ∉ ρ) (o : HO) : SI K lk G (upd H p o) ρ M := by
  refine ⟨fun a u q => ?_, I.nd, I.len, fun k a c e1 e2 => ?_⟩
  · have ne : a ≠ p := fun z => by subst z; rw [hg] at q; cases q
    rw [upd_ne ne]; exact I.sub a u q
  · have c0 := I.cell k a c e1 e2
    have ne : a ≠ p := fun z => hr (z ▸ List.mem_of_getElem? e1)
    cases c with
    | lst ds => obtain ⟨z1, vs, z2, z3⟩ := c0; exact ⟨z1, vs, by rw [upd_ne ne]; exact z2, z3⟩
    | dict ks ds => obtain ⟨z1, vs, z2, z3, z4⟩ := c0; exact ⟨z1, vs, by rw [upd_ne ne]; exact z2, z3, z4⟩
    | frz d => exact c0
/-- it is shared -/
theorem SI.share (I : SI K lk G H ρ M) (hg : G p = none) (hr : p ∉ ρ) (hp : H p = some o) : SI K lk (upd G p o) H ρ M := by
  have s0 : Sub0 G (upd G p o) := fun b u q => by rw [upd_ne (ne_of_none q hg)]; exact q
  refine ⟨fun a u q => ?_, I.nd, I.len, fun k a c e1 e2 => ?_⟩
  · by_cases e : a = p
    · subst e; rw [upd_same] at q; cases q; exact .inl hp
    · rw [upd_ne e] at q; exact I.sub a u q
  · have c0 := I.cell k a c e1 e2
    have ne : a ≠ p := fun z => hr (z ▸ List.mem_of_getElem? e1)
    cases c with
    | lst ds => obtain ⟨z1, vs, z2, z3⟩ := c0; exact ⟨by rw [upd_ne ne]; exact z1, vs, z2, RepL.sub s0 z3⟩
    | dict ks ds => obtain ⟨z1, vs, z2, z3, z4⟩ := c0; exact ⟨by rw [upd_ne ne]; exact z1, vs, z2, z3, RepL.sub s0 z4⟩
    | frz d => obtain ⟨z1, u, z2⟩ := c0; exact ⟨Rep.sub s0 z1, u, s0 _ _ z2⟩
theorem Step.mutH (s : Step G0 H0 ρ0 G H ρ) (h0 : H0 p = none) (o : HO) : Step G0 H0 ρ0 G (upd H p o) ρ := by
  refine ⟨s.g, s.pre, fun a u q n => ?_, s.gn, s.rn, fun a q => ?_⟩
  · rw [upd_ne (ne_of_none q h0)]; exact s.h a u q n
  · by_cases e : a = p
    · subst e; exact h0
    · rw [upd_ne e] at q; exact s.keep a q
theorem Step.share (s : Step G0 H0 ρ0 G H ρ) (h0 : H0 p = none) (hg : G p = none) (o : HO) : Step G0 H0 ρ0 (upd G p o) H ρ := by
  refine ⟨fun a u q => ?_, s.pre, s.h, fun a u q => ?_, s.rn, s.keep⟩
  · rw [upd_ne (ne_of_none (s.g a u q) hg)]; exact s.g a u q
  · by_cases e : a = p
    · subst e; exact .inr (.inl h0)
    · rw [upd_ne e] at q; exact s.gn a u q
/-- what another step leaves of it -/
theorem Step.mine (s : Step G H ρ G0 H0 ρ0) (hg : G p = none) (hr : p ∉ ρ) (hp : H p = some o) : G0 p = none ∧ p ∉ ρ0 ∧ H0 p = some o := by
  refine ⟨?_, fun q => ?_, s.h p o hp (.inl hr)⟩
  · cases e : G0 p with
    | none => rfl
    | some u =>
      rcases s.gn p u e with ⟨z, q⟩ | q | q
      · rw [hg] at q; cases q
      · rw [hp] at q; cases q
      · exact absurd q hr
  · rcases s.rn p q with z | z
    · exact hr z
    · rw [hp] at z; cases z
end
section
variable {X : Cx} {bl N : List Str} {sc : Scope} {n : Nat} {exA : Str → Option Addr} {EX : Str → Hp → Prop} {C : Calls} {lk : Option Addr}
/-! ### and, or -/
def tEvB (K : PySem.W.Frag) (lk : Option Addr) (EX : Str → Hp → Prop) (C : Calls) (op : BoolOp) (es : List E) : TE := fun σ H Q => ∃ G ρ M s, SI K lk G H ρ M ∧ EnvR K G ρ σ s ∧ Good K lk EX G H ρ (evB C op es s M) (Rw K) Q
theorem b_one {op : BoolOp} {a : E} {p : Pos} (ha : PE X a.toExpr (tEv X.K lk EX C a)) : PE X (.BoolOp op (E.toL [a]) p) (tEvB X.K lk EX C op [a]) := by
  simp only [E.toL]
  exact PE.weak (pe_one ha) fun σ H Q ⟨G, ρ, M, s, I, e, g⟩ => ⟨G, ρ, M, s, I, e, g⟩
theorem evB_and {a b : E} {es : List E} {s : En} : evB C .And (a :: b :: es) s = bnd (ev C a s) fun x => bnd (tst x) fun t => if t = true then evB C .And (b :: es) s else ret (.val (.bl false)) := by
  simp only [evB]
  congr 1; funext x; congr 1; funext t; cases t <;> rfl
theorem evB_or {a b : E} {es : List E} {s : En} : evB C .Or (a :: b :: es) s = bnd (ev C a s) fun x => bnd (tst x) fun t => if t = true then ret (.val (.bl true)) else evB C .Or (b :: es) s := by
  simp only [evB]
  congr 1; funext x; congr 1; funext t; cases t <;> rfl
theorem b_cons {op : BoolOp} {a b : E} {es : List E} {p : Pos} (ha : PE X a.toExpr (tEv X.K lk EX C a)) (hs : PE X (.BoolOp op (E.toL (b :: es)) p) (tEvB X.K lk EX C op (b :: es))) : PE X (.BoolOp op (E.toL (a :: b :: es)) p) (tEvB X.K lk EX C op (a :: b :: es)) := by
  simp only [E.toL] at hs ⊢
  cases op with
  | And =>
    refine PE.weak (pe_and ha hs) fun σ H Q ⟨G, ρ, M, s, I, e, g⟩ => ?_
    rw [evB_and] at g
    refine ⟨G, ρ, M, s, I, e, (good_bnd _ g).imp fun x H1 ⟨G1, ρ1, M1, w1, s1, I1, r1, g1⟩ => ?_⟩
    obtain ⟨t, rfl, g2⟩ := good_tst g1
    cases r1
    refine ⟨t, rfl, ?_⟩
    cases t with
    | true => exact ⟨G1, ρ1, M1, s, I1, e.step s1, g2⟩
    | false => exact good_ret (a := Wv.val (.bl false)) g2 (Step.refl _ _ _) I1 rfl
  | Or =>
    refine PE.weak (pe_or ha hs) fun σ H Q ⟨G, ρ, M, s, I, e, g⟩ => ?_
    rw [evB_or] at g
    refine ⟨G, ρ, M, s, I, e, (good_bnd _ g).imp fun x H1 ⟨G1, ρ1, M1, w1, s1, I1, r1, g1⟩ => ?_⟩
    obtain ⟨t, rfl, g2⟩ := good_tst g1
    cases r1
    refine ⟨t, rfl, ?_⟩
    cases t with
    | true => exact good_ret (a := Wv.val (.bl true)) g2 (Step.refl _ _ _) I1 rfl
    | false => exact ⟨G1, ρ1, M1, s, I1, e.step s1, g2⟩
theorem bt_one {op : BoolOp} {a : E} {p : Pos} (ha : PT X a.toExpr (tB (tEv X.K lk EX C a))) : PW X (.BoolOp op (E.toL [a]) p) (tB (tEvB X.K lk EX C op [a])) := by
  simp only [E.toL]
  cases op with
  | And => exact PW.weak (pw_and1 ha) fun σ H Q ⟨G, ρ, M, s, I, e, g⟩ => ⟨G, ρ, M, s, I, e, g⟩
  | Or => exact PW.weak (pw_or1 ha) fun σ H Q ⟨G, ρ, M, s, I, e, g⟩ => ⟨G, ρ, M, s, I, e, g⟩
theorem bt_cons {op : BoolOp} {a b : E} {es : List E} {p : Pos} (ha : PT X a.toExpr (tB (tEv X.K lk EX C a))) (hs : PW X (.BoolOp op (E.toL (b :: es)) p) (tB (tEvB X.K lk EX C op (b :: es)))) : PW X (.BoolOp op (E.toL (a :: b :: es)) p) (tB (tEvB X.K lk EX C op (a :: b :: es))) := by
  simp only [E.toL] at hs ⊢
  cases op with
  | And =>
    refine PW.weak (pw_and ha hs) fun σ H Q ⟨G, ρ, M, s, I, e, g⟩ => ?_
    rw [evB_and] at g
    refine ⟨G, ρ, M, s, I, e, (good_bnd _ g).imp fun x H1 ⟨G1, ρ1, M1, w1, s1, I1, r1, g1⟩ => ?_⟩
    obtain ⟨t, rfl, g2⟩ := good_tst g1
    cases r1
    refine ⟨t, rfl, ?_⟩
    cases t with
    | true => exact ⟨G1, ρ1, M1, s, I1, e.step s1, g2⟩
    | false =>
      obtain ⟨b, q1, q2⟩ := good_ret (a := Wv.val (.bl false)) g2 (b := .bl false) (Step.refl _ _ _) I1 rfl
      cases q1; exact q2
  | Or =>
    refine PW.weak (pw_or ha hs) fun σ H Q ⟨G, ρ, M, s, I, e, g⟩ => ?_
    rw [evB_or] at g
    refine ⟨G, ρ, M, s, I, e, (good_bnd _ g).imp fun x H1 ⟨G1, ρ1, M1, w1, s1, I1, r1, g1⟩ => ?_⟩
    obtain ⟨t, rfl, g2⟩ := good_tst g1
    cases r1
    refine ⟨t, rfl, ?_⟩
    cases t with
    | true =>
      obtain ⟨b, q1, q2⟩ := good_ret (a := Wv.val (.bl true)) g2 (b := .bl true) (Step.refl _ _ _) I1 rfl
      cases q1; exact q2
    | false => exact ⟨G1, ρ1, M1, s, I1, e.step s1, g2⟩
theorem t_nt {a : E} {p : Pos} (ha : PT X a.toExpr (tB (tEv X.K lk EX C a))) : PT X (E.nt a p).toExpr (tB (tEv X.K lk EX C (.nt a p))) := by
  simp only [E.toExpr]
  refine PT.weak (pt_not ha) fun σ H Q ⟨G, ρ, M, s, I, e, g⟩ => ?_
  refine ⟨G, ρ, M, s, I, e, (good_bnd _ g).imp fun x H1 ⟨G1, ρ1, M1, w1, s1, I1, r1, g1⟩ => ?_⟩
  obtain ⟨b, rfl, g2⟩ := good_tst g1
  cases r1
  obtain ⟨b', q1, q2⟩ := good_ret (a := Wv.val (.bl (!b))) g2 (b := .bl (!b)) (Step.refl _ _ _) I1 rfl
  cases q1
  exact ⟨b, rfl, q2⟩
/-- forms that are tested by their value -/
def plainT : E → Bool
  | .nt .. => false
  | .bop .. => false
  | .cmp .. => false
  | .chn .. => false
  | _ => true
theorem t_val {a : E} (h : plainT a = true) (ha : PE X a.toExpr (tEv X.K lk EX C a)) : PT X a.toExpr (tB (tEv X.K lk EX C a)) := by
  refine pt_val ha fun whole => ?_
  cases a <;> first | (simp [plainT] at h; done) | (simp only [E.toExpr]; rfl)
/-! ### displays of dicts -/
def trsE (K : PySem.W.Frag) (lk : Option Addr) (EX : Str → Hp → Prop) (C : Calls) : List E → List (TE × TE)
  | k :: v :: r => (tEv K lk EX C k, tEv K lk EX C v) :: trsE K lk EX C r
  | _ => []
theorem pairs_run {σ : L2.St} {s : En} : ∀ (es : List E) {G H : Hp} {ρ : List Addr} {M : List Cell} {Q : List (V × V) → Hp → Prop}, SI X.K lk G H ρ M → EnvR X.K G ρ σ s →
    Good X.K lk EX G H ρ (evK C es s M) (fun G _ _ (kvs : List (Key × D)) ps => ∃ kv : List (Key × V), ps = kv.map (fun kv => (kV kv.1, kv.2)) ∧ kv.map (·.1) = kvs.map (·.1) ∧ RepL X.K G (kvs.map (·.2)) (kv.map (·.2))) Q → tPairs (trsE X.K lk EX C es) σ H Q
  | [], G, H, ρ, M, Q, I, e, g => good_ret (a := ([] : List (Key × D))) g (Step.refl _ _ _) I ⟨[], rfl, rfl, rfl⟩
  | [_], G, H, ρ, M, Q, I, e, g => (show False from g).elim
  | k :: v :: r, G, H, ρ, M, Q, I, e, g => by
    unfold trsE tPairs
    refine ⟨G, ρ, M, s, I, e, (good_bnd _ g).imp fun x H1 ⟨G1, ρ1, M1, w1, s1, I1, r1, g1⟩ => ?_⟩
    obtain ⟨d, hd, g2⟩ := good_rd I1 r1 g1
    obtain ⟨k', hk, g3⟩ := good_opt g2
    have ek := key_ok hd hk
    refine ⟨G1, ρ1, M1, s, I1, e.step s1, (good_bnd _ g3).imp fun y H2 ⟨G2, ρ2, M2, w2, s2, I2, r2, g4⟩ => ?_⟩
    obtain ⟨d2, G3, M3, s3, I3, r3, g5⟩ := good_vl I2 r2 g4
    refine pairs_run r I3 (((e.step s1).step s2).step s3) ((good_bnd _ g5).imp fun ps H4 ⟨G4, ρ4, M4, kvs, s4, I4, ⟨kv, e1, e2, e3⟩, g6⟩ => ?_)
    subst e1
    exact good_ret (a := (k', d2) :: kvs) g6 (Step.refl _ _ _) I4 ⟨(k', y) :: kv, by rw [ek]; rfl, by simp [e2], ⟨_, _, rfl, Rep.sub s4.g r3, e3⟩⟩
theorem evK_len : ∀ (es : List E) (s : En) (M M' : List Cell) (kvs : List (Key × D)), evK C es s M = .ok kvs M' → 2 * kvs.length = es.length
  | [], s, M, M', ds, h => by simp only [evK, ret] at h; cases h; rfl
  | [_], s, M, M', ds, h => by simp only [evK, stuck] at h; cases h
  | k :: v :: es, s, M, M', ds, h => by
    simp only [evK] at h
    have key : ∀ {α β : Type} {x : R α} {f : α → R β} {M M' : List Cell} {b : β}, bnd x f M = .ok b M' → ∃ a M1, x M = .ok a M1 ∧ f a M1 = .ok b M' := by
      intro α β x f M M' b h
      unfold bnd at h
      cases e : x M with
      | ok a M1 => rw [e] at h; exact ⟨a, M1, rfl, h⟩
      | exc c m => rw [e] at h; cases h
      | no => rw [e] at h; cases h
    obtain ⟨_, _, _, h⟩ := key h
    obtain ⟨_, _, _, h⟩ := key h
    obtain ⟨_, _, _, h⟩ := key h
    obtain ⟨_, _, _, h⟩ := key h
    obtain ⟨_, _, _, h⟩ := key h
    obtain ⟨r, _, h1, h⟩ := key h
    simp only [ret] at h
    cases h
    have := evK_len es s _ _ r h1
    simp only [List.length_cons]
    omega
theorem ks_all : ∀ es : List E, (E.toKs es).all (·.isSome) = true
  | [] => by simp only [E.toKs]; rfl
  | [_] => by simp only [E.toKs]; rfl
  | k :: v :: r => by simp only [E.toKs, List.all_cons, ks_all r]; rfl
theorem ks_len : ∀ es : List E, (E.toKs es).length = (E.toVs es).length ∧ 2 * (E.toKs es).length ≤ es.length
  | [] => by simp only [E.toKs, E.toVs]; exact ⟨rfl, Nat.le_refl _⟩
  | [_] => by simp only [E.toKs, E.toVs]; exact ⟨rfl, Nat.zero_le _⟩
  | k :: v :: r => by
    have := ks_len r
    simp only [E.toKs, E.toVs, List.length_cons]
    omega
theorem s_dic {es : List E} {p : Pos} (h2 : es.length % 2 = 0) (h3 : es.length ≤ 30) (hs : PPs X p (E.toKs es) (E.toVs es) (trsE X.K lk EX C es)) : PE X (E.dic es p).toExpr (tEv X.K lk EX C (.dic es p)) := by
  simp only [E.toExpr]
  cases es with
  | nil =>
    simp only [E.toKs, E.toVs]
    refine PE.weak pe_dnewK fun σ H Q ⟨G, ρ, M, s, I, e, g⟩ => ?_
    exact new_dict I (kvs := []) (ds := []) rfl rfl fun z G' H' st I' rz => good_ret (a := Wv.val (.dict [] [])) g st I' rz
  | cons k r =>
    cases r with
    | nil => simp at h2
    | cons v r =>
      refine PE.weak (pe_disp hs (ks_all _) (ks_len _).1 (by simp only [E.toKs]; exact fun z => nomatch z) (by have := (ks_len (k :: v :: r)).2; omega)) fun σ H Q ⟨G, ρ, M, s, I, e, g⟩ => ?_
      intro q hq
      obtain ⟨I1, s1⟩ := I.newH (u := .dK []) hq
      have m0 : G q = none := I.gnone hq
      have n0 : q ∉ ρ := I.fresh hq
      refine pairs_run (k :: v :: r) I1 (e.step s1) ?_
      have g' : Good X.K lk EX G H ρ (bnd (evK C (k :: v :: r) s) (fun kvs => ret (Wv.val (dictD (mergeD [] kvs)))) M) (Rw X.K) Q := g
      unfold bnd at g'
      cases h1 : evK C (k :: v :: r) s M with
      | no => rw [h1] at g'; exact g'
      | exc c m => rw [h1] at g'; exact Good.step (o := Out.exc c m) (Rl := Rw X.K) (Q := Q) s1 g'
      | ok kvs M1 =>
        rw [h1] at g'
        rintro ps G2 H2 ρ2 s2 I2 ⟨kv, rfl, e2, e3⟩
        obtain ⟨m2, n2, h2'⟩ := s2.mine m0 n0 upd_same
        have hl := evK_len _ _ _ _ _ h1
        have hk : kv.length = kvs.length := by simpa using congrArg List.length e2
        refine ⟨h2', kv, rfl, by rw [hk]; omega, ?_⟩
        obtain ⟨p1, p2⟩ := merge_ok (acc := []) (av := []) e2 e3 rfl rfl
        have I3 := (I2.mutH m2 n2 (.dK (mergeK [] kv))).share m2 n2 upd_same
        have s3 := (((s1.trans s2).mutH hq (.dK (mergeK [] kv))).share hq m2 (.dK (mergeK [] kv)))
        refine g' _ _ _ _ s3 I3 ⟨q, mergeK [] kv, rfl, upd_same, p1, RepL.sub (fun b u z => by rw [upd_ne (ne_of_none z m2)]; exact z) p2⟩
end
end G9

set_option Elab.async false
set_option linter.all false
set_option maxRecDepth 100000
set_option maxHeartbeats 1000000
namespace G9
open PySem PySem.Spec PyProof.Rows L2
theorem good_bndE {K : PySem.W.Frag} {lk : Option Addr} {EX : Str → Hp → Prop} {G H : Hp} {ρ : List Addr} {M : List Cell} {α α' β β' : Type} {x : R α} {f : α → R α'} {Rl : Hp → Hp → List Addr → α' → β' → Prop} {Q : β' → Hp → Prop} (Rl1 : Hp → Hp → List Addr → α → β → Prop) (h : Good K lk EX G H ρ (bnd x f M) Rl Q) :
    Good K lk EX G H ρ (x M) Rl1 (fun b H1 => ∃ G1 ρ1 M1 a, x M = .ok a M1 ∧ Step G H ρ G1 H1 ρ1 ∧ SI K lk G1 H1 ρ1 M1 ∧ Rl1 G1 H1 ρ1 a b ∧ Good K lk EX G1 H1 ρ1 (f a M1) Rl Q) := by
  unfold bnd at h
  cases e : x M with
  | ok a M1 =>
    rw [e] at h
    exact fun b G' H' ρ' s I r => ⟨G', ρ', M1, a, rfl, s, I, r, Good.step s h⟩
  | exc c M1 =>
    rw [e] at h
    exact fun G' H' ρ' s I => h G' H' ρ' s I
  | no => rw [e] at h; exact h
theorem good_vlE {K : PySem.W.Frag} {lk : Option Addr} {EX : Str → Hp → Prop} {G H : Hp} {ρ : List Addr} {M : List Cell} {α' β' : Type} {w : Wv} {v : V} {f : D → R α'} {Rl : Hp → Hp → List Addr → α' → β' → Prop} {Q : β' → Hp → Prop} (I : SI K lk G H ρ M) (r : RepW K G ρ w v) (h : Good K lk EX G H ρ (bnd (vl w) f M) Rl Q) :
    ∃ d G1 M1, vl w M = .ok d M1 ∧ Step G H ρ G1 H ρ ∧ SI K lk G1 H ρ M1 ∧ Rep K G1 d v ∧ Good K lk EX G1 H ρ (f d M1) Rl Q := by
  cases w with
  | val d => exact ⟨nrm d, G, M, rfl, Step.refl _ _ _, I, r.nrm, h⟩
  | loc n =>
    obtain ⟨a, e1, e2⟩ := r
    subst e2
    cases e : M[n]? with
    | none =>
      have e' : vl (.loc n) M = .no := by simp [vl, e]
      unfold bnd at h
      rw [e'] at h
      exact h.elim
    | some c =>
      have e' : vl (.loc n) M = .ok c.toD (M.set n (.frz c.toD)) := by simp [vl, e]
      unfold bnd at h
      rw [e'] at h
      obtain ⟨G1, I1, s1, r1⟩ := I.freeze e1 e
      exact ⟨c.toD, G1, _, e', s1, I1, r1, Good.step s1 h⟩
theorem walk_mono' {J : It} {n m : Nat} {G : Hp → Prop} {Y Y' : Nat → Hp → V → Hp → Prop} (w : Walk J n G Y) (e : m = n) (h : ∀ i H v H', Y i H v H' → Y' i H v H') : Walk J m G Y' := by
  subst e
  exact ⟨w.goes, w.stops, fun i H x H' hi g y => h i H x H' (w.yields i H x H' hi g y)⟩
/-- what is walked -/
def ItOk (K : PySem.W.Frag) (lk : Option Addr) (G H : Hp) (ρ : List Addr) (items : List D) (J : It) : Prop := ∃ (Gc : Hp → Prop) (Y : Nat → Hp → V → Hp → Prop), Walk J items.length Gc Y ∧
  (∀ G' H' ρ' M', Step G H ρ G' H' ρ' → SI K lk G' H' ρ' M' → Gc H') ∧
  ∀ (i : Nat) (d : D), items[i]? = some d → ∀ G' H' ρ' M' x H'', Step G H ρ G' H' ρ' → SI K lk G' H' ρ' M' → Y i H' x H'' → ∃ G'', Step G' H' ρ' G'' H'' ρ' ∧ SI K lk G'' H'' ρ' M' ∧ Rep K G'' d x
def tEvI (K : PySem.W.Frag) (lk : Option Addr) (EX : Str → Hp → Prop) (C : Calls) (it : I) : TI := fun σ H R => ∃ G ρ M s, SI K lk G H ρ M ∧ EnvR K G ρ σ s ∧ Good K lk EX G H ρ (evIn C it s M) (fun G H ρ items J => ItOk K lk G H ρ items J) R
section
variable {K : PySem.W.Frag} {lk : Option Addr} {G H : Hp} {ρ : List Addr}
theorem it_seq {J : It} {vs : List V} {ds : List D} {Gc : Hp → Prop} (w : Walk J vs.length Gc (YAt vs)) (hg : ∀ G' H' ρ' M', Step G H ρ G' H' ρ' → SI K lk G' H' ρ' M' → Gc H') (r : RepL K G ds vs) : ItOk K lk G H ρ ds J := by
  refine ⟨Gc, YAt vs, by rw [r.length]; exact w, hg, fun i d e G' H' ρ' M' x H'' st I ⟨e1, e2⟩ => ?_⟩
  subst e1
  obtain ⟨v, e3, r3⟩ := r.get' e
  rw [e2] at e3; cases e3
  exact ⟨G', Step.refl _ _ _, I, Rep.sub st.g r3⟩
theorem it_fn {J : It} {ds : List D} {f : Nat → V} (w : Walk J ds.length (fun _ => True) (YFn f)) (r : ∀ i d, ds[i]? = some d → ∀ G, Rep K G d (f i)) : ItOk K lk G H ρ ds J :=
  ⟨_, _, w, fun _ _ _ _ _ _ => trivial, fun i d e G' H' ρ' M' x H'' st I ⟨e1, e2⟩ => by subst e1 e2; exact ⟨G', Step.refl _ _ _, I, r i d e G'⟩⟩
theorem zip_len : ∀ (xs ys : List D), (zipD xs ys).length = min xs.length ys.length
  | [], ys => by simp [zipD]
  | x :: xs, [] => by simp [zipD]
  | x :: xs, y :: ys => by simp [zipD, zip_len xs ys]
theorem zip_get : ∀ (xs ys : List D) (i : Nat) (d : D), (zipD xs ys)[i]? = some d → ∃ x y, xs[i]? = some x ∧ ys[i]? = some y ∧ d = .tup [x, y]
  | [], ys, i, d, h => by simp [zipD] at h
  | x :: xs, [], i, d, h => by simp [zipD] at h
  | x :: xs, y :: ys, 0, d, h => by simp [zipD] at h; exact ⟨x, y, rfl, rfl, h.symm⟩
  | x :: xs, y :: ys, i + 1, d, h => by
    have := zip_get xs ys i d (by simpa [zipD] using h)
    simpa using this
theorem it_pair {J : It} {ds : List D} {f g : Nat → Option V} {Gc : Hp → Prop} (w : Walk J ds.length Gc (YPair f g)) (hg : ∀ G' H' ρ' M', Step G H ρ G' H' ρ' → SI K lk G' H' ρ' M' → Gc H')
    (r : ∀ i d x y, ds[i]? = some d → f i = some x → g i = some y → ∃ a b, d = .tup [a, b] ∧ Rep K G a x ∧ Rep K G b y) : ItOk K lk G H ρ ds J := by
  refine ⟨Gc, _, w, hg, fun i d e G' H' ρ' M' x H'' st I ⟨T, u, v, e1, e2, e3, e4, e5⟩ => ?_⟩
  subst e1 e3
  obtain ⟨a, b, rfl, r1, r2⟩ := r i d u v e e4 e5
  obtain ⟨I1, s1⟩ := I.new (u := .tup [u, v]) e2
  exact ⟨_, s1, I1, T, [u, v], rfl, .inl (.inl upd_same), u, [v], rfl, Rep.sub s1.g (Rep.sub st.g r1), v, [], rfl, Rep.sub s1.g (Rep.sub st.g r2), rfl⟩
theorem walk_zipT {K : PySem.W.Frag} {a b : Addr} {xs ys : List V} {n : Nat} (hn : n = min xs.length ys.length) : Walk (RZ.ItzT K a b) n (fun H => SqT K H a xs ∧ SqT K H b ys) (YPair (fun i => xs[i]?) (fun i => ys[i]?)) where
  goes := fun i H hi ⟨h1, h2⟩ => ⟨xs, ys, xs[i]'(by omega), ys[i]'(by omega), h1, h2, List.getElem?_eq_getElem _, List.getElem?_eq_getElem _⟩
  stops := fun H ⟨h1, h2⟩ => ⟨xs, ys, h1, h2, by omega⟩
  yields := fun i H v H' hi ⟨h1, h2⟩ ⟨T, x, y, e1, e2, e3, e4, e5⟩ => ⟨T, x, y, e1, e2, e3, e4 xs h1, e5 ys h2⟩
end
section
variable {X : Cx} {bl N : List Str} {sc : Scope} {n : Nat} {exA : Str → Option Addr} {EX : Str → Hp → Prop} {C : Calls} {lk : Option Addr}
theorem bnd_assoc {α β γ : Type} (x : R α) (f : α → R β) (g : β → R γ) : bnd (bnd x f) g = bnd x fun a => bnd (f a) g := by
  funext m
  unfold bnd
  cases x m <;> rfl
theorem evIn_seq {e : E} {s : En} : evIn C (.seq e) s = bnd (ev C e s) fun w => bnd (vl w) fun d => match dictKs d with
    | some _ => stuck
    | none => bnd (opt (itemsD d)) fun ds => ret ds := by
  unfold evIn
  simp only [evI, bnd_assoc]
  congr 1; funext w; congr 1; funext d
  cases dictKs d with
  | some ks => simp only; split <;> rfl
  | none => simp only [bnd_assoc]; rfl
theorem i_seq {tg : Expr} {e : E} (ha : PE X e.toExpr (tEv X.K lk EX C e)) : PI X tg (I.seq e).toExpr (tEvI X.K lk EX C (.seq e)) := by
  simp only [I.toExpr]
  refine PI.weak (PI.or (pi_list ha) (PI.or (pi_tup ha) (pi_str ha))) fun σ H R ⟨G, ρ, M, s, I, en, g⟩ => ?_
  rw [evIn_seq] at g
  have g1 := good_bndE (Rw X.K) g
  -- which kind it is
  have h3 : (∀ w M1 d M2, ev C e s M = .ok w M1 → vl w M1 = .ok d M2 → (∃ ds, d = .lst ds) ∨ (∃ ds, d = .tup ds) ∨ (∃ z, d = .str z) → False) → Good X.K lk EX G H ρ (ev C e s M) (Rw X.K) (fun _ _ => False) := by
    intro hno
    cases e1 : ev C e s M with
    | no => rw [e1] at g1; exact g1.elim
    | exc c m => rw [e1] at g1; exact g1
    | ok w M1 =>
      rw [e1] at g1
      intro b G' H' ρ' st I' r
      obtain ⟨G1, ρ1, M1', w', q1, s1, I1, r1, g2⟩ := g1 b G' H' ρ' st I' r
      cases q1
      obtain ⟨d, G2, M2, e2, s2, I2, r2, g3⟩ := good_vlE I1 r1 g2
      cases d with
      | lst ds => exact hno _ _ _ _ e1 e2 (.inl ⟨_, rfl⟩)
      | tup ds => exact hno _ _ _ _ e1 e2 (.inr (.inl ⟨_, rfl⟩))
      | str ds => exact hno _ _ _ _ e1 e2 (.inr (.inr ⟨_, rfl⟩))
      | _ => exact g3
  by_cases hx : ∃ w M1 d M2, ev C e s M = .ok w M1 ∧ vl w M1 = .ok d M2 ∧ ((∃ ds, d = .lst ds) ∨ (∃ ds, d = .tup ds) ∨ (∃ z, d = .str z))
  · obtain ⟨w, M1, d, M2, e1, e2, hk⟩ := hx
    have fin : ∀ (Q : VK), (∀ G2 x H1 ρ1, Step G H ρ G2 H1 ρ1 → SI X.K lk G2 H1 ρ1 M2 → Rep X.K G2 d x → (Good X.K lk EX G2 H1 ρ1 ((match dictKs d with | some _ => stuck | none => bnd (opt (itemsD d)) fun ds => ret ds : G9.R (List D)) M2) (fun G H ρ items J => ItOk X.K lk G H ρ items J) R) → Q x H1) → tEv X.K lk EX C e σ H Q := by
      intro Q hQ
      refine ⟨G, ρ, M, s, I, en, g1.imp fun x H1 ⟨G1, ρ1, M1', w', q1, s1, I1, r1, g2⟩ => ?_⟩
      rw [e1] at q1
      cases q1
      obtain ⟨d', G2, M2', e2', s2, I2, r2, g3⟩ := good_vlE I1 r1 g2
      rw [e2] at e2'
      cases e2'
      exact hQ G2 x H1 ρ1 (s1.trans s2) I2 r2 g3
    rcases hk with ⟨ds, rfl⟩ | ⟨ds, rfl⟩ | ⟨z, rfl⟩
    · refine .inl (fin _ fun G2 x H1 ρ1 s1 I1 r1 g2 => ?_)
      obtain ⟨a, vs, rfl, h1, h2⟩ := r1
      exact ⟨a, rfl, ⟨vs, SqL.of (I1.rdL h1)⟩, good_ret (a := ds) g2 (Step.refl _ _ _) I1 (it_seq walk_list (fun G' H' ρ' M' st I' => SqL.of (I'.rdL (st.g _ _ h1))) h2)⟩
    · refine .inr (.inl (fin _ fun G2 x H1 ρ1 s1 I1 r1 g2 => ?_))
      obtain ⟨a, vs, rfl, h1, h2⟩ := r1
      exact ⟨a, rfl, ⟨vs, I1.sqt h1⟩, good_ret (a := ds) g2 (Step.refl _ _ _) I1 (it_seq walk_tup (fun G' H' ρ' M' st I' => I'.sqt (sqt_sub st.g h1)) h2)⟩
    · refine .inr (.inr (fin _ fun G2 x H1 ρ1 s1 I1 r1 g2 => ?_))
      cases r1
      refine ⟨z, rfl, good_ret (a := z.cps.toList.map fun c => D.str ⟨#[c]⟩) g2 (Step.refl _ _ _) I1 ?_⟩
      refine it_seq (vs := z.cps.toList.map fun c => V.str ⟨#[c]⟩) (Gc := fun _ => True) (walk_mono' (walk_str (z := z)) ?_ ?_) (fun _ _ _ _ _ _ => trivial) ?_
      · simp
      · rintro i H v H' ⟨e3, c, e4, rfl⟩
        refine ⟨e3, ?_⟩
        rw [List.getElem?_map, Array.getElem?_toList, e4]
        rfl
      · have : ∀ l : List Nat, RepL X.K G2 (l.map fun c => D.str ⟨#[c]⟩) (l.map fun c => V.str ⟨#[c]⟩) := fun l => by
          induction l with
          | nil => exact rfl
          | cons a r ih => exact ⟨_, _, rfl, rfl, ih⟩
        exact this _
  · exact .inl ⟨G, ρ, M, s, I, en, (h3 fun w M1 d M2 a b c => hx ⟨w, M1, d, M2, a, b, c⟩).imp fun _ _ h => h.elim⟩
theorem evIn_rng {es : List E} {pf p : Pos} {s : En} : evIn C (.rng es pf p) s = bnd (evL C es s) fun ds => bnd (opt (rngOf ds)) fun xs => ret xs := by
  unfold evIn
  simp only [evI, bnd_assoc]
  rfl
theorem evIn_zip {a b : E} {pf p : Pos} {s : En} : evIn C (.zip a b pf p) s = bnd (ev C a s) fun w => bnd (vl w) fun d => bnd (ev C b s) fun w' => bnd (vl w') fun e => bnd (opt (zipOf d e)) fun xs => ret xs := by
  unfold evIn
  simp only [evI, bnd_assoc]
  rfl
theorem evIn_enu {a : E} {pf p : Pos} {s : En} : evIn C (.enu a pf p) s = bnd (ev C a s) fun w => bnd (vl w) fun d => bnd (opt (lstD d)) fun xs => ret (enuD 0 xs) := by
  unfold evIn
  simp only [evI, bnd_assoc]
  rfl
theorem rng_ok {K : PySem.W.Frag} {lk : Option Addr} {G H : Hp} {ρ : List Addr} (i j : Int) : ItOk K lk G H ρ (rngD i j) (Itr i (j - i).toNat) := by
  refine it_fn (f := fun k => .int (i + k)) (walk_mono' (walk_range (lo := i) (n := (j - i).toNat)) (by simp [rngD]) fun _ _ _ _ h => h) fun k d e G => ?_
  unfold rngD at e
  rw [List.getElem?_map] at e
  simp only [Option.map_eq_some_iff] at e
  obtain ⟨m, e1, rfl⟩ := e
  have : m = k := by
    rw [List.getElem?_range (by have := (List.getElem?_eq_some_iff.mp e1).1; simpa using this)] at e1
    exact (Option.some.inj e1).symm
  subst this
  rfl
theorem i_rng (x : XOk bl N sc n exA EX X) {tg : Expr} {es : List E} {pf p : Pos} (hb : bltB bl sc "range" = true) (hl : es.length = 1 ∨ es.length = 2) (hs : PA X (E.toL es) (tEvL X.K lk EX C es)) : PI X tg (I.rng es pf p).toExpr (tEvI X.K lk EX C (.rng es pf p)) := by
  obtain ⟨g1, g2, g3, g4⟩ := blt_of x hb
  have fin : ∀ {σ H R}, tEvI X.K lk EX C (.rng es pf p) σ H R → tEvL X.K lk EX C es σ H (fun vs H1 => ∃ (i j : Int), vs.length = es.length ∧ ((vs = [.int j] ∧ i = 0) ∨ vs = [.int i, .int j]) ∧ (-(2 ^ 62) ≤ i ∧ i < 2 ^ 62 ∧ -(2 ^ 62) ≤ j ∧ j < 2 ^ 62) ∧ R (Itr i (j - i).toNat) H1) := by
    rintro σ H R ⟨G, ρ, M, s, I, e, g⟩
    rw [evIn_rng] at g
    refine ⟨G, ρ, M, s, I, e, (good_bndE (fun G _ _ ds vs => RepL X.K G ds vs) g).imp fun vs H1 ⟨G1, ρ1, M1, ds, ee, s1, I1, r1, g5⟩ => ?_⟩
    have hlen : vs.length = es.length := by rw [← r1.length]; exact evL_len es s _ _ ds ee
    obtain ⟨xs, hx, g6⟩ := good_opt g5
    unfold rngOf at hx
    split at hx
    · rename_i j
      split at hx
      · rename_i hb
        cases hx
        obtain ⟨v, r, rfl, h1, h2⟩ := r1
        cases h1; cases h2
        exact ⟨0, j, hlen, .inl ⟨rfl, rfl⟩, ⟨by decide, by decide, hb.1, hb.2⟩, good_ret (a := rngD 0 j) g6 (Step.refl _ _ _) I1 (rng_ok 0 j)⟩
      · cases hx
    · rename_i i j
      split at hx
      · rename_i hb
        cases hx
        obtain ⟨v, r, rfl, h1, v2, r2, rfl, h2, h3⟩ := r1
        cases h1; cases h2; cases h3
        exact ⟨i, j, hlen, .inr rfl, hb, good_ret (a := rngD i j) g6 (Step.refl _ _ _) I1 (rng_ok i j)⟩
      · cases hx
    · cases hx
  cases es with
  | nil => simp at hl
  | cons a r =>
    cases r with
    | nil =>
      simp only [I.toExpr, E.toL] at hs ⊢
      refine PI.weak (pi_range1 g1 g3 hs (by rw [star_of]; rfl)) fun σ H R h => ?_
      obtain ⟨G, ρ, M, s, I, e, g⟩ := fin h
      refine ⟨G, ρ, M, s, I, e, g.imp fun vs H1 ⟨i, j, hlen, hv, hb, q⟩ => ?_⟩
      rcases hv with ⟨rfl, rfl⟩ | rfl
      · exact ⟨j, rfl, hb.2.2.1, hb.2.2.2, by simpa using q⟩
      · simp at hlen
    | cons b r =>
      cases r with
      | nil =>
        simp only [I.toExpr, E.toL] at hs ⊢
        refine PI.weak (pi_range2 g1 g3 hs (by rw [star_of, star_of]; rfl) (by rw [star_of]; rfl)) fun σ H R h => ?_
        obtain ⟨G, ρ, M, s, I, e, g⟩ := fin h
        refine ⟨G, ρ, M, s, I, e, g.imp fun vs H1 ⟨i, j, hlen, hv, hb, q⟩ => ?_⟩
        rcases hv with ⟨rfl, rfl⟩ | rfl
        · simp at hlen
        · exact ⟨i, j, rfl, hb, q⟩
      | cons c r => simp at hl
theorem i_zip (x : XOk bl N sc n exA EX X) {elts : List Expr} {kk : Nat} {tpos : Pos} {a b : E} {pf p : Pos} (hb : bltB bl sc "zip" = true) (ha : PE X a.toExpr (tEv X.K lk EX C a)) (hb' : PE X b.toExpr (tEv X.K lk EX C b)) : PI X (.Tuple elts kk tpos) (I.zip a b pf p).toExpr (tEvI X.K lk EX C (.zip a b pf p)) := by
  obtain ⟨g1, g2, g3, g4⟩ := blt_of x hb
  simp only [I.toExpr]
  refine PI.weak (RZ.pi_zipA g1 g3 (pa_cons ha (pa_cons hb' pa_nil (star_of _ _ _)) (star_of _ _ _)) (star_of _ _ _) (by rw [star_of]; rfl)) fun σ H R ⟨G, ρ, M, s, I, e, g⟩ => ?_
  rw [evIn_zip] at g
  refine ⟨G, ρ, M, s, I, e, (good_bnd _ g).imp fun u H1 ⟨G1, ρ1, M1, w1, s1, I1, r1, g5⟩ => ?_⟩
  obtain ⟨d, G2, M2, s2, I2, r2, g6⟩ := good_vl I1 r1 g5
  refine ⟨G2, ρ1, M2, s, I2, (e.step s1).step s2, (good_bnd _ g6).imp fun v H3 ⟨G3, ρ3, M3, w3, s3, I3, r3, g7⟩ => ?_⟩
  obtain ⟨d', G4, M4, s4, I4, r4, g8⟩ := good_vl I3 r3 g7
  obtain ⟨xs, hx, g9⟩ := good_opt g8
  have r2' := Rep.sub s4.g (Rep.sub s3.g r2)
  unfold zipOf at hx
  split at hx
  · cases hx
    obtain ⟨a, vs, rfl, h1, h2⟩ := r2'
    obtain ⟨b, ws, rfl, h3, h4⟩ := r4
    refine ⟨a, b, vs, ws, rfl, .inl ⟨SqL.of (I4.rdL h1), SqL.of (I4.rdL h3), good_ret g9 (Step.refl _ _ _) I4 ?_⟩⟩
    refine it_pair (walk_mono' (walk_zip (xs := vs) (ys := ws) rfl) (by rw [zip_len, h2.length, h4.length]) fun _ _ _ _ h => h) (fun G' H' ρ' M' st I' => ⟨SqL.of (I'.rdL (st.g _ _ h1)), SqL.of (I'.rdL (st.g _ _ h3))⟩) fun i d x y e1 e2 e3 => ?_
    obtain ⟨p, q, e4, e5, rfl⟩ := zip_get _ _ i d e1
    obtain ⟨x', e6, r6⟩ := h2.get' e4
    obtain ⟨y', e7, r7⟩ := h4.get' e5
    rw [e2] at e6; cases e6
    rw [e3] at e7; cases e7
    exact ⟨p, q, rfl, r6, r7⟩
  · cases hx
    obtain ⟨a, vs, rfl, h1, h2⟩ := r2'
    obtain ⟨b, ws, rfl, h3, h4⟩ := r4
    refine ⟨a, b, vs, ws, rfl, .inr ⟨I4.sqt h1, I4.sqt h3, good_ret g9 (Step.refl _ _ _) I4 ?_⟩⟩
    refine it_pair (walk_mono' (walk_zipT (xs := vs) (ys := ws) rfl) (by rw [zip_len, h2.length, h4.length]) fun _ _ _ _ h => h) (fun G' H' ρ' M' st I' => ⟨I'.sqt (sqt_sub st.g h1), I'.sqt (sqt_sub st.g h3)⟩) fun i d x y e1 e2 e3 => ?_
    obtain ⟨p, q, e4, e5, rfl⟩ := zip_get _ _ i d e1
    obtain ⟨x', e6, r6⟩ := h2.get' e4
    obtain ⟨y', e7, r7⟩ := h4.get' e5
    rw [e2] at e6; cases e6
    rw [e3] at e7; cases e7
    exact ⟨p, q, rfl, r6, r7⟩
  · cases hx
theorem enu_len : ∀ (k : Nat) (xs : List D), (enuD k xs).length = xs.length
  | _, [] => rfl
  | k, x :: xs => by simp [enuD, enu_len (k + 1) xs]
theorem enu_get : ∀ (k : Nat) (xs : List D) (i : Nat) (d : D), (enuD k xs)[i]? = some d → ∃ x, xs[i]? = some x ∧ d = .tup [.int ((k + i : Nat) : Int), x]
  | k, [], i, d, h => by simp [enuD] at h
  | k, x :: xs, 0, d, h => by simp [enuD] at h; exact ⟨x, rfl, h.symm⟩
  | k, x :: xs, i + 1, d, h => by
    obtain ⟨y, h1, h2⟩ := enu_get (k + 1) xs i d (by simpa [enuD] using h)
    exact ⟨y, by simpa using h1, by rw [h2]; congr 4; omega⟩
theorem i_enu (x : XOk bl N sc n exA EX X) {elts : List Expr} {kk : Nat} {tpos : Pos} {a : E} {pf p : Pos} (hb : bltB bl sc "enumerate" = true) (ha : PE X a.toExpr (tEv X.K lk EX C a)) : PI X (.Tuple elts kk tpos) (I.enu a pf p).toExpr (tEvI X.K lk EX C (.enu a pf p)) := by
  obtain ⟨g1, g2, g3, g4⟩ := blt_of x hb
  simp only [I.toExpr]
  refine PI.weak (pi_enum g1 g3 (pa_cons ha pa_nil (star_of _ _ _)) (star_of _ _ _)) fun σ H R ⟨G, ρ, M, s, I, e, g⟩ => ?_
  rw [evIn_enu] at g
  refine ⟨G, ρ, M, s, I, e, (good_bnd _ g).imp fun u H1 ⟨G1, ρ1, M1, w1, s1, I1, r1, g5⟩ => ?_⟩
  obtain ⟨d, G2, M2, s2, I2, r2, g6⟩ := good_vl I1 r1 g5
  obtain ⟨xs, hx, g9⟩ := good_opt g6
  unfold lstD at hx
  split at hx
  · cases hx
    obtain ⟨a, vs, rfl, h1, h2⟩ := r2
    refine ⟨a, vs, rfl, SqL.of (I2.rdL h1), good_ret g9 (Step.refl _ _ _) I2 ?_⟩
    refine it_pair (walk_mono' (walk_enum (xs := vs)) (by rw [enu_len, h2.length]) fun _ _ _ _ h => h) (fun G' H' ρ' M' st I' => SqL.of (I'.rdL (st.g _ _ h1))) fun i d x y e1 e2 e3 => ?_
    obtain ⟨q, e4, rfl⟩ := enu_get 0 _ i d e1
    obtain ⟨y', e6, r6⟩ := h2.get' e4
    rw [e3] at e6; cases e6
    cases e2
    exact ⟨_, q, rfl, by rw [Nat.zero_add]; rfl, r6⟩
  · cases hx
end
end G9

set_option Elab.async false
set_option linter.all false
set_option maxRecDepth 100000
set_option maxHeartbeats 1000000
namespace G9
open PySem PySem.Spec PyProof.Rows L2
abbrev noEX : Str → Hp → Prop := fun _ _ => False
theorem takes_mono {X : Cx} {W W' : WX} (tk : Takes X W) (h : ∀ c d σ H, W' c d σ H → W c d σ H) : Takes X W' := fun u s' x => by
  obtain ⟨a, B, sI, pins, σ, H, cls, d, h1, h2, h3, h4, h5, h6, h7, h8, h9⟩ := x
  exact tk u s' ⟨a, B, sI, pins, σ, H, cls, d, h1, h2, h3, h4, h5, h6, h7, h8, h _ _ _ _ h9⟩
theorem vl_ok {K : PySem.W.Frag} {lk : Option Addr} {G H : Hp} {ρ : List Addr} {M M' : List Cell} {w : Wv} {v : V} {d : D} (I : SI K lk G H ρ M) (r : RepW K G ρ w v) (h : vl w M = .ok d M') : ∃ G1, Step G H ρ G1 H ρ ∧ SI K lk G1 H ρ M' ∧ Rep K G1 d v := by
  cases w with
  | val d => cases h; exact ⟨G, Step.refl _ _ _, I, r.nrm⟩
  | loc n =>
    obtain ⟨a, e1, e2⟩ := r
    subst e2
    cases e : M[n]? with
    | none => simp [vl, e] at h
    | some c =>
      simp only [vl, e, Out.ok.injEq] at h
      obtain ⟨rfl, rfl⟩ := h
      obtain ⟨G1, I1, s1, r1⟩ := I.freeze e1 e
      exact ⟨G1, s1, I1, r1⟩
theorem vp_ok {K : PySem.W.Frag} {lk : Option Addr} {G H : Hp} {ρ : List Addr} {M M' : List Cell} {w : Wv} {v : V} {d : D} (I : SI K lk G H ρ M) (r : RepW K G ρ w v) (h : vp w M = .ok d M') : ∃ G1, Step G H ρ G1 H ρ ∧ SI K lk G1 H ρ M' ∧ Rep K G1 d v := by
  cases w with
  | val d => cases h; exact ⟨G, Step.refl _ _ _, I, r⟩
  | loc n =>
    obtain ⟨a, e1, e2⟩ := r
    subst e2
    cases e : M[n]? with
    | none => simp [vp, e] at h
    | some c =>
      simp only [vp, e, Out.ok.injEq] at h
      obtain ⟨rfl, rfl⟩ := h
      obtain ⟨G1, I1, s1, r1⟩ := I.freeze e1 e
      exact ⟨G1, s1, I1, r1⟩
theorem bnd_ok {α β : Type} {x : R α} {f : α → R β} {M M' : List Cell} {b : β} (h : bnd x f M = .ok b M') : ∃ a M1, x M = .ok a M1 ∧ f a M1 = .ok b M' := by
  unfold bnd at h
  cases e : x M with
  | ok a M1 => rw [e] at h; exact ⟨a, M1, rfl, h⟩
  | exc c m => rw [e] at h; cases h
  | no => rw [e] at h; cases h
theorem opt_ok {α : Type} {o : Option α} {M M' : List Cell} {b : α} (h : opt o M = .ok b M') : o = some b ∧ M' = M := by
  cases o with
  | none => cases h
  | some a => cases h; exact ⟨rfl, rfl⟩
theorem nox_ok {α : Type} {x : R α} {M M' : List Cell} {b : α} (h : nox x M = .ok b M') : x M = .ok b M' := by
  unfold nox at h
  cases e : x M with
  | ok a M1 => rw [e] at h; exact h
  | exc c m => rw [e] at h; cases h
  | no => rw [e] at h; cases h
/-! ### targets -/
def gTgt (K : PySem.W.Frag) : Tgt → TG
  | .one i _ _ => gName i
  | .two i _ _ j _ _ _ _ => gTup K 2 (gCons (gName i) (gCons (gName j) gNil))
section
variable {X : Cx} {bl N : List Str} {sc : Scope} {n : Nat} {exA : Str → Option Addr} {EX : Str → Hp → Prop} {C : Calls} {lk : Option Addr}
theorem pg_tgt (hN : X.N = N) (nd : N.Nodup) (hc : X.calm = true) {tg : Tgt} (h : ∀ p ∈ tg.own, N[p.2]? = some p.1 ∧ Loc X.env.scope p.1 ∧ (X.fn p.1 = true ∨ X.env.scope.names.lookup p.1 = some .local)) : PG X tg.toExpr (gTgt X.K tg) := by
  cases tg with
  | one i x p =>
    obtain ⟨h1, h2, h3⟩ := h (x, i) (by simp [Tgt.own])
    exact pg_name (by rw [hN]; exact nd) (by rw [hN]; exact h1) h2 h3
  | two i x p j y q k tp =>
    obtain ⟨h1, h2, h3⟩ := h (x, i) (by simp [Tgt.own])
    obtain ⟨k1, k2, k3⟩ := h (y, j) (by simp [Tgt.own])
    exact pg_tup hc (pgs_cons (pg_name (by rw [hN]; exact nd) (by rw [hN]; exact h1) h2 h3) (pgs_cons (pg_name (by rw [hN]; exact nd) (by rw [hN]; exact k1) k2 k3) pgs_nil))
theorem tgt_ok {K : PySem.W.Frag} {G H : Hp} {ρ : List Addr} {M : List Cell} {tg : Tgt} {d : D} {v : V} {s s' : En} {σ : L2.St} {Q : L2.St → Hp → Prop} (I : SI K lk G H ρ M) (r : Rep K G d v) (e : EnvR K G ρ σ s) (h : tg.bind d s = some s') (q : ∀ σ', EnvR K G ρ σ' s' → (∀ σ0, σ = wipe σ0 (tg.own.map (·.2)) → wipe σ' (tg.own.map (·.2)) = σ) → Q σ' H) : gTgt K tg v σ H Q := by
  cases tg with
  | one i x p =>
    simp only [Tgt.bind, Option.some.injEq] at h
    subst h
    refine q _ (e.set i (w := .val d) r) fun σ0 e0 => ?_
    subst e0
    simp [Tgt.own, wipe]
  | two i x p j y pq k tp =>
    cases d with
    | tup ds =>
      cases ds with
      | nil => simp [Tgt.bind] at h
      | cons a r1 =>
        cases r1 with
        | nil => simp [Tgt.bind] at h
        | cons b r2 =>
          cases r2 with
          | nil =>
            simp only [Tgt.bind, Option.some.injEq] at h
            subst h
            obtain ⟨ad, vs, rfl, h1, v1, r1, rfl, w1, v2, r2, rfl, w2, w3⟩ := r
            cases w3
            refine ⟨ad, _, rfl, I.sqt h1, rfl, v1, _, rfl, v2, _, rfl, rfl, ?_⟩
            refine q _ ((e.set i (w := .val a) w1).set j (w := .val b) w2) fun σ0 e0 => ?_
            subst e0
            simp only [Tgt.own, List.map_cons, List.map_nil, wipe]
            by_cases hij : i = j
            · subst hij; simp
            · rw [List.set_comm _ _ hij]
              simp [List.set_comm _ _ hij]
          | cons c r3 => simp [Tgt.bind] at h
    | _ => simp [Tgt.bind] at h
/-! ### conditions of comprehensions -/
def tEvC (K : PySem.W.Frag) (lk : Option Addr) (EX : Str → Hp → Prop) (C : Calls) (c : Option E) : TT := fun σ H Q => ∃ G ρ M s, SI K lk G H ρ M ∧ EnvR K G ρ σ s ∧ Good K lk EX G H ρ (evC C c s M) (fun _ _ _ (b b' : Bool) => b = b') Q
theorem c_none : PTs X (E.toC none) (tEvC X.K lk EX C none) := by
  refine ⟨fun pins s σ H Q I ⟨G, ρ, M, s', I', e, g⟩ => ?_⟩
  simp only [E.toC]
  exact pts_nil.run pins s σ H Q I (good_ret (a := true) g (Step.refl _ _ _) I' rfl)
theorem c_some {c : E} (h : PT X c.toExpr (tB (tEv X.K lk EX C c))) : PTs X (E.toC (some c)) (tEvC X.K lk EX C (some c)) := by
  refine ⟨fun pins s σ H Q I ⟨G, ρ, M, s', I', e, g⟩ => ?_⟩
  simp only [E.toC]
  refine (pts_one h).run pins s σ H Q I ⟨G, ρ, M, s', I', e, (good_bnd (Rw X.K) g).imp fun v H1 ⟨G1, ρ1, M1, w, s1, I1, r1, g1⟩ => ?_⟩
  cases w with
  | loc k => exact (show False from g1).elim
  | val d => cases d with
    | bl b => cases r1; exact ⟨b, rfl, good_ret (a := b) g1 (Step.refl _ _ _) I1 rfl⟩
    | _ => exact (show False from g1).elim
/-! ### comprehensions -/
def lcBody (C : Calls) (elt : E) (tg : Tgt) (cond : Option E) (s : En) (d : D) : R (Option D) := nox (bnd (opt (tg.bind d (wipeE s (tg.own.map (·.2))))) fun s' =>
      bnd (evC C cond s') fun b => if b = true then bnd (ev C elt s') fun w => bnd (vl w) fun d => ret (some d) else ret none)
theorem lcLoop_cons {f : D → R (Option D)} {d : D} {ds : List D} {β : Type} {k : List D → R β} : bnd (lcLoop f (d :: ds)) k = bnd (f d) fun o => bnd (lcLoop f ds) fun r => k (consO o r) := by
  simp only [lcLoop, bnd_assoc]
  rfl
/-- the loop of a comprehension, from the state behind its iterable's making -/
theorem lc_loop {K : PySem.W.Frag} {G1 H1 : Hp} {ρ1 : List Addr} {M1 : List Cell} {s : En} {σ : L2.St} {elt : E} {tg : Tgt} {cond : Option E} {items : List D} {J : It} {Q : VK} {Ad : Addr} {tt : TT} {te : TE} (hte : ∀ σ H Q, tEv K lk noEX C elt σ H Q → te σ H Q) (htt : ∀ σ H Q, tEvC K lk noEX C cond σ H Q → tt σ H Q) (hit : ItOk K lk G1 H1 ρ1 items J) (I1 : SI K lk G1 H1 ρ1 M1) (e1 : EnvR K G1 ρ1 σ s) (hlen : items.length ≤ sizeLine)
    (hD : H1 Ad = none) (g : Good K lk EX G1 H1 ρ1 (bnd (lcLoop (lcBody C elt tg cond s) items) (fun ds => ret (Wv.val (.lst ds))) M1) (fun G H ρ w v => RepW K G ρ w v) Q) :
    ∃ W : Nat → Nat → Hp → Prop, (∃ m, W 0 m (upd H1 Ad (.lst []))) ∧ ∀ i m H, W i m H →
      (J.stop i H ∧ Q (.ref Ad) H) ∨ (J.go i H ∧ ∃ Nx : Hp → Prop, (∀ H', Nx H' → ∃ m', m' < m ∧ W (i + 1) m' H') ∧ ∀ x H', J.yld i H x H' → gTgt K tg x (wipe σ (tg.own.map (·.2))) H' fun σ2 H2 => wipe σ2 (tg.own.map (·.2)) = wipe σ (tg.own.map (·.2)) ∧ tt σ2 H2 fun b H3 =>
        if b = true then te σ2 H3 fun y H4 => ∃ acc, H4 Ad = some (.lst acc) ∧ acc.length < sizeLine ∧ Nx (upd H4 Ad (.lst (acc ++ [y]))) else Nx H3) := by
  obtain ⟨Gc, Y, w, hgc, hy⟩ := hit
  refine lc_it w (g := gTgt K tg) (tt := tt) (te := te) (vs := tg.own.map (·.2)) (σ := σ) (Qd := fun H => Q (.ref Ad) H)
    (fun i H' => ∃ G' ρ' M' accD accV, Step G1 H1 ρ1 G' H' ρ' ∧ SI K lk G' H' ρ' M' ∧ H' Ad = some (.lst accV) ∧ G' Ad = none ∧ Ad ∉ ρ' ∧ RepL K G' accD accV ∧ accD.length ≤ i ∧
      (∃ H0', Step G1 H1 ρ1 G' H0' ρ' ∧ True) ∧ Good K lk EX G1 H1 ρ1 (bnd (lcLoop (lcBody C elt tg cond s) (items.drop i)) (fun ds => ret (Wv.val (.lst (accD ++ ds)))) M') (fun G H ρ w v => RepW K G ρ w v) Q) ?_ ?_ ?_ ?_
  · obtain ⟨I2, s2⟩ := I1.newH (u := .lst []) hD
    exact ⟨G1, ρ1, M1, [], [], s2, I2, upd_same, I1.gnone hD, I1.fresh hD, rfl, Nat.zero_le _, ⟨H1, Step.refl _ _ _, trivial⟩, by rw [List.drop_zero]; exact g⟩
  · rintro i H' hi ⟨G', ρ', M', accD, accV, st, I', _⟩
    exact hgc G' H' ρ' M' st I'
  · rintro i x H' H'' hi ⟨G', ρ', M', accD, accV, st, I', hA, gA, rA, rep, hle, _, gg⟩ hyl
    obtain ⟨G2, s2, I2, r2⟩ := hy i items[i] (List.getElem?_eq_getElem hi) G' H' ρ' M' x H'' st I' hyl
    rw [List.drop_eq_getElem_cons hi, lcLoop_cons] at gg
    cases eb : lcBody C elt tg cond s items[i] M' with
    | no => unfold bnd at gg; rw [eb] at gg; exact gg.elim
    | exc c m =>
      unfold lcBody nox at eb
      split at eb <;> cases eb
    | ok o M2 =>
      have gN : Good K lk EX G1 H1 ρ1 (bnd (lcLoop (lcBody C elt tg cond s) (items.drop (i + 1))) (fun r => ret (Wv.val (.lst (accD ++ consO o r)))) M2) (fun G H ρ w v => RepW K G ρ w v) Q := by
        unfold bnd at gg
        rw [eb] at gg
        exact gg
      obtain ⟨s', Ma, q1, q2⟩ := bnd_ok (nox_ok eb)
      obtain ⟨hb, rfl⟩ := opt_ok q1
      obtain ⟨b, Mb, q3, q4⟩ := bnd_ok q2
      have eW : EnvR K G2 ρ' (wipe σ (tg.own.map (·.2))) (wipeE s (tg.own.map (·.2))) := (((e1.step st).step s2)).wipe _
      refine tgt_ok I2 r2 eW hb fun σ' e' hw => ⟨hw σ rfl, htt _ _ _ ⟨G2, ρ', Ma, s', I2, e', ?_⟩⟩
      rw [q3]
      rintro b' G3 H3 ρ3 s3 I3 rfl
      have m2 := s2.mine gA rA hA
      have m3 := s3.mine m2.1 m2.2.1 m2.2.2
      have stp : Step G1 H1 ρ1 G3 H3 ρ3 := (st.trans s2).trans s3
      cases b with
      | false =>
        rw [if_neg Bool.false_ne_true] at q4 ⊢
        cases q4
        exact ⟨G3, ρ3, M2, accD, accV, stp, I3, m3.2.2, m3.1, m3.2.1, RepL.sub s3.g (RepL.sub s2.g rep), by omega, ⟨H3, stp, trivial⟩, gN⟩
      | true =>
        rw [if_pos rfl] at q4 ⊢
        obtain ⟨w4, M4, q5, q6⟩ := bnd_ok q4
        obtain ⟨y, M5, q7, q8⟩ := bnd_ok q6
        cases q8
        refine hte _ _ _ ⟨G3, ρ3, Mb, s', I3, e'.step s3, ?_⟩
        rw [q5]
        intro yv G4 H4 ρ4 s4 I4 r4
        obtain ⟨G5, s5, I5, r5⟩ := vl_ok I4 r4 q7
        have m4 := s4.mine m3.1 m3.2.1 m3.2.2
        have m5 := s5.mine m4.1 m4.2.1 m4.2.2
        have hl : accV.length < sizeLine := by rw [← rep.length]; omega
        have st5 : Step G1 H1 ρ1 G5 H4 ρ4 := (stp.trans s4).trans s5
        refine ⟨accV, m4.2.2, hl, G5, ρ4, M2, accD ++ [y], accV ++ [yv], st5.mutH hD _, I5.mutH m5.1 m5.2.1 _, upd_same, m5.1, m5.2.1, ?_, by rw [List.length_append]; simp; omega, ⟨H4, st5, trivial⟩, ?_⟩
        · exact (RepL.sub s5.g (RepL.sub s4.g (RepL.sub s3.g (RepL.sub s2.g rep)))).append ⟨_, _, rfl, r5, rfl⟩
        · have ee : (fun r => ret (Wv.val (.lst (accD ++ consO (some y) r))) : List D → R Wv) = fun r => ret (Wv.val (.lst (accD ++ [y] ++ r))) := by
            funext r; simp [consO]
          rw [ee] at gN
          exact gN
  · rintro H' ⟨G', ρ', M', accD, accV, st, I', hA, gA, rA, rep, hle, _, gg⟩
    rw [List.drop_eq_nil_of_le (Nat.le_refl _)] at gg
    have I2 := I'.share gA rA hA
    have s2 := st.share hD gA (.lst accV)
    refine good_ret (a := Wv.val (.lst (accD ++ []))) gg s2 I2 ⟨Ad, accV, rfl, upd_same, ?_⟩
    rw [List.append_nil]
    exact RepL.sub (fun b u z => by rw [upd_ne (ne_of_none z gA)]; exact z) rep
end
end G9

set_option Elab.async false
set_option linter.all false
set_option maxRecDepth 100000
set_option maxHeartbeats 1000000
namespace G9
open PySem PySem.Spec PyProof.Rows L2
theorem PE.ex {X : Cx} {e : Expr} {α : Type} {t : α → TE} (h : ∀ a, PE X e (t a)) : PE X e (fun σ H Q => ∃ a, t a σ H Q) := ⟨fun pins s σ H Q I ⟨a, q⟩ => (h a).run pins s σ H Q I q⟩
theorem PTs.ex {X : Cx} {e : List Expr} {α : Type} {t : α → TT} (h : ∀ a, PTs X e (t a)) : PTs X e (fun σ H Q => ∃ a, t a σ H Q) := ⟨fun pins s σ H Q I ⟨a, q⟩ => (h a).run pins s σ H Q I q⟩
section
variable {K : PySem.W.Frag} {lk : Option Addr} {G H : Hp} {ρ : List Addr} {M : List Cell} {a : Addr} {kvs : List (Key × V)}
theorem SI.lock (I : SI K none G H ρ M) (hg : G a = some (.dK kvs)) (od : Obj) : SI K (some a) G (upd H a (.frz od (.dK kvs))) ρ M := by
  refine ⟨fun b u q => ?_, I.nd, I.len, fun k b c e1 e2 => ?_⟩
  · by_cases e : b = a
    · subst e
      rw [hg] at q; cases q
      exact .inr ⟨rfl, od, kvs, rfl, upd_same⟩
    · rw [upd_ne e]
      rcases I.sub b u q with z | ⟨z, _⟩
      · exact .inl z
      · cases z
  · have c0 := I.cell k b c e1 e2
    have ne : G b = none → b ≠ a := fun z y => by subst y; rw [hg] at z; cases z
    cases c with
    | lst ds => obtain ⟨z1, vs, z2, z3⟩ := c0; exact ⟨z1, vs, by rw [upd_ne (ne z1)]; exact z2, z3⟩
    | dict ks ds => obtain ⟨z1, vs, z2, z3, z4⟩ := c0; exact ⟨z1, vs, by rw [upd_ne (ne z1)]; exact z2, z3, z4⟩
    | frz d => exact c0
theorem SI.unlock (I : SI K (some a) G H ρ M) (hg : G a = some (.dK kvs)) : SI K none G (upd H a (.dK kvs)) ρ M := by
  refine ⟨fun b u q => ?_, I.nd, I.len, fun k b c e1 e2 => ?_⟩
  · by_cases e : b = a
    · subst e
      rw [hg] at q; cases q
      exact .inl upd_same
    · rw [upd_ne e]
      rcases I.sub b u q with z | ⟨z, _⟩
      · exact .inl z
      · exact absurd (Option.some.inj z).symm e
  · have c0 := I.cell k b c e1 e2
    have ne : G b = none → b ≠ a := fun z y => by subst y; rw [hg] at z; cases z
    cases c with
    | lst ds => obtain ⟨z1, vs, z2, z3⟩ := c0; exact ⟨z1, vs, by rw [upd_ne (ne z1)]; exact z2, z3⟩
    | dict ks ds => obtain ⟨z1, vs, z2, z3, z4⟩ := c0; exact ⟨z1, vs, by rw [upd_ne (ne z1)]; exact z2, z3, z4⟩
    | frz d => exact c0
theorem Step.unlock {G' H' : Hp} {ρ' : List Addr} {od : Obj} (s : Step G (upd H a (.frz od (.dK kvs))) ρ G' H' ρ') (hg : G a = some (.dK kvs)) (hh : H a = some (.dK kvs)) : Step G H ρ G' (upd H' a (.dK kvs)) ρ' ∧ H' a = some (.frz od (.dK kvs)) := by
  have up : ∀ b, H b = none ↔ upd H a (.frz od (.dK kvs)) b = none := fun b => by
    by_cases e : b = a
    · subst e; rw [hh, upd_same]; constructor <;> (intro z; cases z)
    · rw [upd_ne e]
  refine ⟨⟨s.g, s.pre, fun b o q n => ?_, fun b u q => ?_, fun b q => ?_, fun b q => ?_⟩, s.h a _ upd_same (.inr ⟨_, hg⟩)⟩
  · by_cases e : b = a
    · subst e; rw [hh] at q; cases q; exact upd_same
    · rw [upd_ne e]; exact s.h b o (by rw [upd_ne e]; exact q) n
  · rcases s.gn b u q with z | z | z
    · exact .inl z
    · exact .inr (.inl ((up b).mpr z))
    · exact .inr (.inr z)
  · rcases s.rn b q with z | z
    · exact .inl z
    · exact .inr ((up b).mpr z)
  · by_cases e : b = a
    · subst e; rw [upd_same] at q; cases q
    · rw [upd_ne e] at q; exact (up b).mpr (s.keep b q)
end
theorem lcLoop_noexc {C : Calls} {elt : E} {tg : Tgt} {cond : Option E} {s : En} : ∀ (ds : List D) (M : List Cell) c m, lcLoop (lcBody C elt tg cond s) ds M ≠ .exc c m
  | [], M, c, m => fun h => by cases h
  | d :: ds, M, c, m => fun h => by
    simp only [lcLoop] at h
    unfold bnd at h
    cases e : lcBody C elt tg cond s d M with
    | ok a M1 =>
      rw [e] at h
      simp only at h
      cases e2 : lcLoop (lcBody C elt tg cond s) ds M1 with
      | ok r M2 => rw [e2] at h; cases h
      | exc c' m' => exact lcLoop_noexc ds M1 c' m' e2
      | no => rw [e2] at h; cases h
    | exc c' m' =>
      unfold lcBody nox at e
      split at e <;> cases e
    | no => rw [e] at h; cases h
section
variable {X : Cx} {bl N : List Str} {sc : Scope} {n : Nat} {exA : Str → Option Addr} {EX : Str → Hp → Prop} {C : Calls} {lk : Option Addr}
theorem XOk.blk (x : XOk bl N sc n exA EX X) (s : Shared) (H : Hp) (scope : Scope) (cl : List (Str × Addr)) (Cc : Addr) (fp : List Addr) : XOk bl N (relS scope sc) n exA noEX (X.blk s H scope (compEnvC scope cl Cc X.env) fp) := by
  refine ⟨x.hN, x.nd, ?_, x.calm, x.room, x.bl, takes_mono takes0 fun c d σ H ⟨_, _, _, _, _, h⟩ => h⟩
  show relabel scope X.env = relS scope sc
  rw [← x.sc]
  rfl
theorem ev_lc {elt : E} {tg : Tgt} {it : I} {cond : Option E} {scope : Scope} {p : Pos} {s : En} : ev C (.lc elt tg it cond scope p) s = bnd (evI C it s) fun r => if r.2.length ≤ sizeLine then bnd (lcLoop (lcBody (if r.1 = true then C.locked else C) elt tg cond s) r.2) fun ds => ret (.val (.lst ds)) else stuck := by
  simp only [ev]
  rfl
theorem lc_normal {elt : E} {tg : Tgt} {it : I} {cond : Option E} {scope : Scope} {p : Pos} {σ : L2.St} {H : Hp} {Q : VK} {K : PySem.W.Frag} {G : Hp} {ρ : List Addr} {M : List Cell} {s : En} (I : SI K lk G H ρ M) (e : EnvR K G ρ σ s) (g : Good K lk EX G H ρ (ev C (.lc elt tg it cond scope p) s M) (Rw K) Q)
    (hnd : ∀ r M1, evI C it s M = .ok r M1 → r.1 = false) : tLc (tEvI K lk EX C it) (gTgt K tg) (tEvC K lk noEX C cond) (tEv K lk noEX C elt) (tg.own.map (·.2)) σ H Q := by
  rw [ev_lc] at g
  refine ⟨G, ρ, M, s, I, e, ?_⟩
  unfold bnd at g
  unfold evIn bnd
  cases h1 : evI C it s M with
  | no => rw [h1] at g; exact g
  | exc c m => rw [h1] at g; exact g
  | ok r M1 =>
    rw [h1] at g
    have hr := hnd r M1 h1
    obtain ⟨d, items⟩ := r
    simp only at hr
    subst hr
    simp only [Bool.false_eq_true, if_false] at g ⊢
    intro J G1 H1 ρ1 s1 I1 hit D hD
    by_cases hl : items.length ≤ sizeLine
    · rw [if_pos hl] at g
      exact lc_loop (te := tEv K lk noEX C elt) (tt := tEvC K lk noEX C cond) (fun _ _ _ h => h) (fun _ _ _ h => h) hit I1 (e.step s1) hl hD (Good.step s1 g)
    · rw [if_neg hl] at g
      exact (show False from g).elim
theorem evI_dict {it : I} {s : En} {M M1 : List Cell} {r : Bool × List D} (h : evI C it s M = .ok r M1) (hr : r.1 = true) : ∃ i y p ks, it = .seq (.var i y p) ∧ C.lk = false ∧ r.2 = ks.map Dk ∧ ∃ w d, get1 s i = some w ∧ vl w M = .ok d M1 ∧ dictKs d = some ks := by
  cases it with
  | seq e =>
    simp only [evI] at h
    obtain ⟨w, Ma, h1, h⟩ := bnd_ok h
    obtain ⟨d, Mb, h2, h⟩ := bnd_ok h
    cases hk : dictKs d with
    | none =>
      simp only [hk] at h
      obtain ⟨ds, Mc, h3, h⟩ := bnd_ok h
      cases h
      cases hr
    | some ks =>
      simp only [hk] at h
      split at h
      · rename_i hc
        cases h
        cases e with
        | var i y p =>
          simp only [ev] at h1
          obtain ⟨h4, rfl⟩ := opt_ok h1
          exact ⟨i, y, p, ks, rfl, hc.2, rfl, w, d, h4, h2, hk⟩
        | _ => exact absurd hc.1 (by simp [isVar])
      · cases h
  | rng es pf p =>
    simp only [evI] at h
    obtain ⟨w, Ma, h1, h⟩ := bnd_ok h
    obtain ⟨d, Mb, h2, h⟩ := bnd_ok h
    cases h
    cases hr
  | zip a b pf p =>
    simp only [evI] at h
    obtain ⟨w, Ma, h1, h⟩ := bnd_ok h
    obtain ⟨d, Mb, h2, h⟩ := bnd_ok h
    obtain ⟨d, Mb, h2, h⟩ := bnd_ok h
    obtain ⟨d, Mb, h2, h⟩ := bnd_ok h
    obtain ⟨d, Mb, h2, h⟩ := bnd_ok h
    cases h
    cases hr
  | enu a pf p =>
    simp only [evI] at h
    obtain ⟨w, Ma, h1, h⟩ := bnd_ok h
    obtain ⟨d, Mb, h2, h⟩ := bnd_ok h
    obtain ⟨d, Mb, h2, h⟩ := bnd_ok h
    cases h
    cases hr
theorem lc_locked {elt : E} {tg : Tgt} {i : Nat} {y : Str} {py : Pos} {cond : Option E} {scope : Scope} {p : Pos} {σ : L2.St} {H : Hp} {Q : VK} {K : PySem.W.Frag} {G : Hp} {ρ : List Addr} {M M1 : List Cell} {s : En} {r : Bool × List D} (hlk : lk = none) (I : SI K lk G H ρ M) (e : EnvR K G ρ σ s)
    (g : Good K lk EX G H ρ (ev C (.lc elt tg (.seq (.var i y py)) cond scope p) s M) (Rw K) Q) (h1 : evI C (.seq (.var i y py)) s M = .ok r M1) (hr : r.1 = true) :
    tLockE (tLc (iKeys (tVar i)) (gTgt K tg) (fun σ H Q => ∃ a, tEvC K (some a) noEX C.locked cond σ H Q) (fun σ H Q => ∃ a, tEv K (some a) noEX C.locked elt σ H Q) (tg.own.map (·.2))) σ H Q := by
  subst hlk
  rw [ev_lc] at g
  obtain ⟨i', y', p', ks, e1, e2, e3, w, d, e4, e5, e6⟩ := evI_dict h1 hr
  cases e1
  unfold bnd at g
  rw [h1] at g
  obtain ⟨rb, items⟩ := r
  simp only at hr e3
  subst hr e3
  simp only [if_true] at g
  obtain ⟨v, ev1, rw1⟩ := e.get i w e4
  obtain ⟨G1, s1, I1, r1⟩ := vl_ok I rw1 e5
  cases d with
  | dict ks' ds =>
    simp only [dictKs, Option.some.injEq] at e6
    subst e6
    obtain ⟨a, kvs, rfl, hg, rfl, rv⟩ := r1
    have hh : H a = some (.dK kvs) := by
      rcases I1.sub a _ hg with z | ⟨z, _⟩
      · exact z
      · cases z
    refine ⟨a, .dK kvs, hh, trivial, fun od => ?_⟩
    have IL := I1.lock hg od
    refine ⟨.ref a, ev1, a, od, rfl, .inl ⟨kvs, upd_same, fun D hD => ?_⟩⟩
    by_cases hl : (List.map Dk (kvs.map (·.1))).length ≤ sizeLine
    · rw [if_pos hl] at g
      have hit : ItOk K (some a) G1 (upd H a (.frz od (.dK kvs))) ρ (List.map Dk (kvs.map (·.1))) (Itk a od kvs) := by
        refine ⟨_, _, walk_mono' (walk_keys (d := a) (o := od) (kvs := kvs)) (by simp) fun _ _ _ _ h => h, fun G' H' ρ' M' st I' => st.h a _ upd_same (.inr ⟨_, hg⟩), fun k dk ek G' H' ρ' M' x H'' st I' ⟨q1, kk, vv, q2, q3⟩ => ?_⟩
        subst q1 q3
        refine ⟨G', Step.refl _ _ _, I', ?_⟩
        rw [List.getElem?_map, List.getElem?_map, q2] at ek
        cases ek
        exact rep_key kk
      refine lc_loop (K := K) (lk := some a) (EX := noEX) (C := C.locked) (te := fun σ H Q => ∃ a, tEv K (some a) noEX C.locked elt σ H Q) (tt := fun σ H Q => ∃ a, tEvC K (some a) noEX C.locked cond σ H Q) (Q := fun v H' => H' a = some (.frz od (.dK kvs)) ∧ Q v (upd H' a (.dK kvs))) (fun _ _ _ h => ⟨a, h⟩) (fun _ _ _ h => ⟨a, h⟩) hit IL ⟨e.len, fun j u z => by obtain ⟨v, z1, z2⟩ := e.get j u z; exact ⟨v, z1, RepW.step s1 z2⟩⟩ hl hD ?_
      unfold bnd
      cases e7 : lcLoop (lcBody C.locked elt tg cond s) (List.map Dk (kvs.map (·.1))) M1 with
      | no => rw [e7] at g; exact g
      | exc c m => exact absurd e7 (lcLoop_noexc _ _ _ _)
      | ok ds M2 =>
        rw [e7] at g
        intro b G' H' ρ' st I' rb
        obtain ⟨st2, z⟩ := st.unlock hg hh
        exact ⟨z, g b G' (upd H' a (.dK kvs)) ρ' (s1.trans st2) (I'.unlock (st.g _ _ hg)) rb⟩
    · rw [if_neg hl] at g
      exact (show False from g).elim
  | _ => cases e6
theorem s_lc (x : XOk bl N sc n exA EX X) (c : CallsOk X.prog X.w X.K X.mg X.base exA n lk C) {elt : E} {tg : Tgt} {it : I} {cond : Option E} {scope : Scope} {p : Pos} (hblk : blkC N sc scope tg.own = true) (htg : tg.okB N (lclB scope) = true)
    (hit : PI X tg.toExpr it.toExpr (tEvI X.K lk EX C it)) (hvar : ∀ i y q, it = .seq (.var i y q) → wfE bl N sc (.var i y q) = true)
    (he : ∀ (lk' : Option Addr) (C' : Calls), CallsOk X.prog X.w X.K X.mg X.base exA n lk' C' → ∀ (s : Shared) (H : Hp) (Cc : Addr) (cl : List (Str × Addr)) (fp : List Addr), PE (X.blk s H scope (compEnvC scope cl Cc X.env) fp) elt.toExpr (tEv X.K lk' noEX C' elt))
    (hc : ∀ (lk' : Option Addr) (C' : Calls), CallsOk X.prog X.w X.K X.mg X.base exA n lk' C' → ∀ (s : Shared) (H : Hp) (Cc : Addr) (cl : List (Str × Addr)) (fp : List Addr), PTs (X.blk s H scope (compEnvC scope cl Cc X.env) fp) (E.toC cond) (tEvC X.K lk' noEX C' cond)) :
    PE X (E.lc elt tg it cond scope p).toExpr (tEv X.K lk EX C (.lc elt tg it cond scope p)) := by
  simp only [E.toExpr]
  have ok : BlkOk X.N X.env.scope scope tg.own := by rw [x.hN, x.sc]; exact blkOk_by hblk
  have hg : ∀ (s : Shared) (H : Hp) (Cc : Addr) (cl : List (Str × Addr)) (fp : List Addr), PG (X.blk s H scope (compEnvC scope cl Cc X.env) fp) tg.toExpr (gTgt X.K tg) := by
    intro s H Cc cl fp
    refine pg_tgt (X := X.blk s H scope (compEnvC scope cl Cc X.env) fp) x.hN x.nd x.calm fun q hq => ?_
    have h1 := (Bool.and_eq_true _ _).mp (List.all_eq_true.mp htg q hq)
    have h2 : scope.names.lookup q.1 = some .local := by
      have := h1.2
      unfold lclB at this
      split at this
      · assumption
      · cases this
    have h3 : (relabel scope X.env).names.lookup q.1 = some .local := lookup_relabel_local h2
    exact ⟨of_decide_eq_true h1.1, .inl h3, .inr h3⟩
  have hnS : ∀ z, foldedSetIterable it.toExpr X.env z = pure z := by
    intro z
    cases it with
    | seq e => simp only [I.toExpr]; exact noSet e _ _
    | rng es pf p => simp only [I.toExpr]; rfl
    | zip a b pf p => simp only [I.toExpr]; rfl
    | enu a pf p => simp only [I.toExpr]; rfl
  have nd : X.N.Nodup := by rw [x.hN]; exact x.nd
  have norm := pe_lc (pos := p) x.calm nd hit ok hg (hc lk C c) (he lk C c) hnS
  cases hv : it with
  | seq e =>
    cases e with
    | var i y q =>
      subst hv
      have hw := hvar i y q rfl
      have hw1 := (Bool.and_eq_true _ _).mp hw
      obtain ⟨v1, v2, v3⟩ := vis_of x hw1.2
      have pvv : PE X (.Name y q) (tVar i) := pe_var (by rw [x.hN]; exact of_decide_eq_true hw1.1) v1 v2 v3
      have locked := pe_lock (pe_lc (pos := p) x.calm nd (pi_keys (tg := tg.toExpr) pvv) ok hg (fun s H Cc cl fp => PTs.ex fun a => hc (some a) C.locked (c.locked) s H Cc cl fp) (fun s H Cc cl fp => PE.ex fun a => he (some a) C.locked (c.locked) s H Cc cl fp) (by simpa only [I.toExpr, E.toExpr] using hnS))
      simp only [I.toExpr, E.toExpr] at norm ⊢
      refine PE.weak (PE.or norm locked) fun σ H Q ⟨G, ρ, M, s, I, e, g⟩ => ?_
      by_cases hd : ∃ r M1, evI C (.seq (.var i y q)) s M = .ok r M1 ∧ r.1 = true
      · obtain ⟨r, M1, h1, h2⟩ := hd
        obtain ⟨_, _, _, _, _, e2, _⟩ := evI_dict h1 h2
        exact .inr (lc_locked (c.lko e2) I e g h1 h2)
      · refine .inl (lc_normal I e g fun r M1 h1 => ?_)
        cases hr : r.1 with
        | false => rfl
        | true => exact absurd ⟨r, M1, h1, hr⟩ hd
    | _ =>
      rw [← hv]
      refine PE.weak norm fun σ H Q ⟨G, ρ, M, s, I, e, g⟩ => lc_normal I e g fun r M1 h1 => ?_
      cases hr : r.1 with
      | false => rfl
      | true =>
        obtain ⟨_, _, _, _, e1, _⟩ := evI_dict h1 hr
        rw [hv] at e1
        cases e1
  | _ =>
    rw [← hv]
    refine PE.weak norm fun σ H Q ⟨G, ρ, M, s, I, e, g⟩ => lc_normal I e g fun r M1 h1 => ?_
    cases hr : r.1 with
    | false => rfl
    | true =>
      obtain ⟨_, _, _, _, e1, _⟩ := evI_dict h1 hr
      rw [hv] at e1
      cases e1
end
end G9

set_option Elab.async false
set_option linter.all false
set_option maxRecDepth 100000
set_option maxHeartbeats 1000000
namespace G9
open PySem PySem.Spec PyProof.Rows L2
section
variable {K : PySem.W.Frag} {lk : Option Addr} {G H : Hp} {ρ : List Addr} {M : List Cell} {n : Nat} {a : Addr}
/-- a cell is stored -/
theorem SI.setCell (I : SI K lk G H ρ M) (h1 : ρ[n]? = some a) (hg : G a = none) {c : Cell} {o : HO} (hn : n < M.length) (hc : CellOk K G (upd H a o) a c) : SI K lk G (upd H a o) ρ (M.set n c) ∧ (∀ q, H a = some q → Step G H ρ G (upd H a o) ρ) := by
  have mem : a ∈ ρ := List.mem_of_getElem? h1
  refine ⟨⟨fun b u q => ?_, I.nd, by rw [List.length_set]; exact I.len, fun k b c' e1 e2 => ?_⟩, fun q hq => ⟨fun _ _ z => z, ⟨[], by simp⟩, fun b u z e => ?_, fun b u z => .inl ⟨u, z⟩, fun b z => .inl z, fun b z => ?_⟩⟩
  · have ne : b ≠ a := fun z => by subst z; rw [hg] at q; cases q
    rw [upd_ne ne]; exact I.sub b u q
  · by_cases e : k = n
    · subst e
      rw [h1] at e1; cases e1
      rw [List.getElem?_set_self hn] at e2
      cases e2
      exact hc
    · rw [List.getElem?_set_ne (Ne.symm e)] at e2
      have ne : b ≠ a := fun z => e (L2.nd_ix I.nd e1 (z ▸ h1))
      have c0 := I.cell k b c' e1 e2
      cases c' with
      | lst ds => obtain ⟨z1, vs, z2, z3⟩ := c0; exact ⟨z1, vs, by rw [upd_ne ne]; exact z2, z3⟩
      | dict ks ds => obtain ⟨z1, vs, z2, z3, z4⟩ := c0; exact ⟨z1, vs, by rw [upd_ne ne]; exact z2, z3, z4⟩
      | frz d => exact c0
  · have ne : b ≠ a := fun y => by
      subst y
      rcases e with e | ⟨w, e⟩
      · exact e mem
      · rw [hg] at e; cases e
    rw [upd_ne ne]; exact z
  · by_cases e : b = a
    · subst e; rw [upd_same] at z; cases z
    · rw [upd_ne e] at z; exact z
theorem SI.cellL (I : SI K lk G H ρ M) {xs : List D} (h1 : ρ[n]? = some a) (h2 : M[n]? = some (.lst xs)) : G a = none ∧ ∃ vs, H a = some (.lst vs) ∧ RepL K G xs vs := I.cell n a _ h1 h2
theorem last_get {ds : List D} {vs : List V} (r : RepL K G ds vs) {d : D} (h : ds.getLast? = some d) : ∃ v, vs[vs.length - 1]? = some v ∧ Rep K G d v := by
  rw [List.getLast?_eq_getElem?] at h
  rw [← r.length]
  exact r.get' h
theorem RepL.dropLast {ds : List D} {vs : List V} (r : RepL K G ds vs) : RepL K G ds.dropLast vs.dropLast := by
  rw [List.dropLast_eq_take, List.dropLast_eq_take, r.length]
  exact r.take _
def rMt (K : PySem.W.Frag) : Mt → V → List V → Hp → VK → Prop
  | .find => fun x xs H Q => ∃ a b, x = .str a ∧ xs = [.str b] ∧ Q (.int (Txt.find a b)) H
  | .join => fun x xs H Q => ∃ a p, ∃ ys : List Str, x = .str a ∧ xs = [.ref p] ∧ (SqL K H p (ys.map V.str) ∨ SqT K H p (ys.map V.str)) ∧ (ys.map (·.length)).sum + ys.length * a.length ≤ 16777216 ∧ Q (.str (Txt.join a ys)) H
  | .split => fun x xs H Q => ∃ a b, x = .str a ∧ xs = [.str b] ∧ (b.length == 0) = false ∧ a.length + 2 ≤ sizeLine ∧ rNewStrs (Txt.split a b) H Q
  | .index => rIndex K
  | .append => rAppend
  | .extend => rExtend
  | _ => fun _ _ _ _ => False
theorem index_find {y : D} {v : V} (h2 : ShR K G H y v) (f2 : flatD y = true) : ∀ {xs : List D} {vs : List V} {i : Nat}, RepL K G xs vs → xs.all flatD = true → (xs.findIdx? fun z => deq z y) = some i →
    ∃ z, vs[i]? = some z ∧ eqV z v = true ∧ ∀ (m : Nat) (z' : V), m < i → vs[m]? = some z' → eqV z' v = false
  | [], vs, i, r, f, h => by simp at h
  | d :: ds, vs, i, r, f, h => by
    obtain ⟨w, vs', rfl, r1, r2⟩ := r
    have f' : flatD d = true ∧ ds.all flatD = true := by simpa using f
    rw [List.findIdx?_cons] at h
    have e := deq_flat r1 h2 f'.1 f2
    split at h
    · rename_i c
      cases h
      exact ⟨w, rfl, by rw [e]; exact c, fun m z' hm => absurd hm (Nat.not_lt_zero _)⟩
    · rename_i c
      simp only [Option.map_eq_some_iff] at h
      obtain ⟨j, h3, rfl⟩ := h
      obtain ⟨z, q1, q2, q3⟩ := index_find h2 f2 r2 f'.2 h3
      refine ⟨z, by simpa using q1, q2, fun m z' hm hz => ?_⟩
      cases m with
      | zero => simp at hz; subst hz; rw [e]; simpa using c
      | succ m => exact q3 m z' (by omega) (by simpa using hz)
theorem mth_ok (I : SI K lk G H ρ M) {m : Mt} {d r : D} {ds : List D} {v : V} {vs : List V} {Q : VK} (hm : m = .find ∨ m = .join ∨ m = .split ∨ m = .index) (hd : ShR K G H d v) (hs : RepL K G ds vs) (h : opMth m d ds = some r) (q : ∀ z G' H', Step G H ρ G' H' ρ → SI K lk G' H' ρ M → Rep K G' r z → Q z H') : rMt K m v vs H Q := by
  have q0 : ∀ z, Rep K G r z → Q z H := fun z hz => q z G H (Step.refl _ _ _) I hz
  unfold opMth at h
  split at h
  · rcases hm with h | h | h | h <;> cases h
  · rcases hm with h | h | h | h <;> cases h
  · cases h
    obtain ⟨w, vs', rfl, r1, r2⟩ := hs
    cases hd; cases r1; cases r2
    exact ⟨_, _, rfl, rfl, q0 _ rfl⟩
  · obtain ⟨w, vs', rfl, r1, r2⟩ := hs
    cases hd; cases r2
    obtain ⟨p, ws, rfl, h1, h2⟩ := r1
    cases e : strsD _ with
    | none => rw [e] at h; cases h
    | some ys =>
      rw [e] at h
      have h' : (if joinOk _ ys = true then some (D.str (Txt.join _ ys)) else none) = some r := h
      split at h'
      · rename_i hj
        cases h'
        rw [strsD_eq e] at h2
        exact ⟨_, p, ys, rfl, rfl, .inl (SqL.of (by rw [← h2.strs]; exact I.rdL h1)), of_decide_eq_true hj, q0 _ rfl⟩
      · cases h'
  · split at h
    · rename_i hj
      cases h
      obtain ⟨w, vs', rfl, r1, r2⟩ := hs
      cases hd; cases r1; cases r2
      exact ⟨_, _, rfl, rfl, hj.1, hj.2, new_lst I (RepL.of_strs _) q⟩
    · cases h
  · rcases hm with h | h | h | h <;> cases h
  · split at h
    · rename_i hj
      simp only [Option.map_eq_some_iff] at h
      obtain ⟨i, h1, rfl⟩ := h
      have f := (Bool.and_eq_true _ _).mp hj
      obtain ⟨a, ws, rfl, h2, h3⟩ := hd
      obtain ⟨w, vs', rfl, r1, r2⟩ := hs
      cases r2
      obtain ⟨z, z1, z2, z3⟩ := index_find (I.shr r1) f.1 h3 f.2 h1
      exact ⟨a, ws, w, i, z, rfl, rfl, SqL.of h2, (I.shr r1).flat f.1, h3.flat f.2, z1, z2, z3, q0 _ rfl⟩
    · cases h
  · cases h
end
section
variable {X : Cx} {bl N : List Str} {sc : Scope} {n : Nat} {exA : Str → Option Addr} {EX : Str → Hp → Prop} {C : Calls} {lk : Option Addr}
theorem few_of (es : List E) (h : es.length < 20) (env : Env) (p : Pos) : ((backTo p (starEach (E.toL es) env)).all (fun x => !x.1) && (backToKw p (keywordEach [] env)).all (fun x => x.1.isSome)
      && decide ((E.toL es).length + ([] : List Keyword).length + (if ([] : List Keyword).isEmpty then 0 else 1) < 30)) = true := by
  rw [star_all, len_toL]
  simp [keywordEach, backToKw]
  omega
theorem mth_imp {o : E} {m : Mt} {pa p : Pos} {es : List E} {T : String} {σ : L2.St} {H : Hp} {Q : VK} (hm : m = .find ∨ m = .join ∨ m = .split ∨ m = .index) (hT : ∀ {G H d v}, kindM m d = true → ShR X.K G H d v → tyV X.K T v H)
    (h : tEv X.K lk EX C (.mth o m pa es p) σ H Q) : tBM X.K T (rMt X.K m) (tEv X.K lk EX C o) (tEvL X.K lk EX C es) σ H Q := by
  obtain ⟨G, ρ, M, s, I, e, g⟩ := h
  simp only [ev] at g
  refine ⟨G, ρ, M, s, I, e, (good_bnd _ g).imp fun x H1 ⟨G1, ρ1, M1, w1, s1, I1, r1, g1⟩ => ?_⟩
  obtain ⟨d0, hd0, g2⟩ := good_rd I1 r1 g1
  split at g2
  · rename_i hk
    refine ⟨hT hk hd0, G1, ρ1, M1, s, I1, e.step s1, (good_bnd (fun G _ _ ds vs => RepL X.K G ds vs) g2).imp fun vs H2 ⟨G2, ρ2, M2, ds, s2, I2, r2, g3⟩ => ?_⟩
    have hmut : m.mut = false := by rcases hm with h | h | h | h <;> subst h <;> rfl
    rw [hmut] at g3
    simp only [Bool.false_eq_true, if_false] at g3
    obtain ⟨d, hd, g4⟩ := good_rd I2 (RepW.step s2 r1) g3
    obtain ⟨r, hr, g5⟩ := good_val? g4
    exact mth_ok I2 hm hd r2 hr fun z G' H' st I' rz => good_ret g5 st I' rz
  · exact (show False from g2).elim
theorem ty_str {K : PySem.W.Frag} {G H : Hp} {d : D} {v : V} {m : Mt} (hm : m = .find ∨ m = .join ∨ m = .split) (hk : kindM m d = true) (h : ShR K G H d v) : tyV K "str" v H := by
  cases d with
  | str z => cases h; rfl
  | _ => rcases hm with h | h | h <;> subst h <;> cases hk
theorem ty_lst {K : PySem.W.Frag} {G H : Hp} {d : D} {v : V} {m : Mt} (hm : m = .index ∨ m = .append ∨ m = .extend ∨ m = .pop) (hk : kindM m d = true) (h : ShR K G H d v) : tyV K "list" v H := by
  cases d with
  | lst z => obtain ⟨a, vs, rfl, h1, _⟩ := h; exact .inl ⟨rfl, vs, SqL.of h1⟩
  | _ => rcases hm with h | h | h | h <;> subst h <;> cases hk
theorem mutM_cases (m : Mt) (k : Nat) (ds : List D) (M : List Cell) : mutM m k ds M = .no ∨ (∃ xs d, M[k]? = some (.lst xs) ∧ m = .append ∧ ds = [d] ∧ xs.length < sizeLine ∧ mutM m k ds M = .ok (.val .non) (M.set k (.lst (xs ++ [d])))) ∨
    (∃ xs ys, M[k]? = some (.lst xs) ∧ m = .extend ∧ ds = [.lst ys] ∧ xs.length + ys.length ≤ sizeLine ∧ mutM m k ds M = .ok (.val .non) (M.set k (.lst (xs ++ ys)))) ∨
    (∃ xs y, M[k]? = some (.lst xs) ∧ m = .pop ∧ ds = [] ∧ xs.getLast? = some y ∧ mutM m k ds M = .ok (.val y) (M.set k (.lst xs.dropLast))) := by
  unfold mutM
  split
  · split
    · exact .inr (.inl ⟨_, _, by assumption, rfl, rfl, by assumption, rfl⟩)
    · exact .inl rfl
  · split
    · exact .inr (.inr (.inl ⟨_, _, by assumption, rfl, rfl, by assumption, rfl⟩))
    · exact .inl rfl
  · split
    · exact .inr (.inr (.inr ⟨_, _, by assumption, rfl, rfl, by assumption, rfl⟩))
    · exact .inl rfl
  · exact .inl rfl
theorem mut_imp {o : E} {m : Mt} {pa p : Pos} {es : List E} {σ : L2.St} {H : Hp} {Q : VK} (hm : m = .append ∨ m = .extend) (h : tEv X.K lk EX C (.mth o m pa es p) σ H Q) : tBM X.K "list" (rMt X.K m) (tEv X.K lk EX C o) (tEvL X.K lk EX C es) σ H Q := by
  obtain ⟨G, ρ, M, s, I, e, g⟩ := h
  simp only [ev] at g
  refine ⟨G, ρ, M, s, I, e, (good_bnd _ g).imp fun x H1 ⟨G1, ρ1, M1, w1, s1, I1, r1, g1⟩ => ?_⟩
  obtain ⟨d0, hd0, g2⟩ := good_rd I1 r1 g1
  split at g2
  · rename_i hk
    refine ⟨ty_lst (m := m) (by rcases hm with h | h <;> subst h <;> simp) hk hd0, G1, ρ1, M1, s, I1, e.step s1, (good_bnd (fun G _ _ ds vs => RepL X.K G ds vs) g2).imp fun vs H2 ⟨G2, ρ2, M2, ds, s2, I2, r2, g3⟩ => ?_⟩
    have hmut : m.mut = true := by rcases hm with h | h <;> subst h <;> rfl
    rw [hmut] at g3
    simp only [if_true] at g3
    cases w1 with
    | val d => exact (show False from g3).elim
    | loc k =>
      obtain ⟨a, e1, rfl⟩ := RepW.step s2 r1
      have g4 : Good X.K lk EX G2 H2 ρ2 (mutM m k ds M2) (Rw X.K) Q := g3
      rcases mutM_cases m k ds M2 with h0 | ⟨xs, d, hM, rfl, rfl, hl, h0⟩ | ⟨xs, ys, hM, rfl, rfl, hl, h0⟩ | ⟨xs, y, hM, rfl, rfl, hl, h0⟩
      · rw [h0] at g4; exact g4.elim
      · rw [h0] at g4
        obtain ⟨c1, ws, c2, c3⟩ := I2.cellL e1 hM
        obtain ⟨v, r, rfl, q1, q2⟩ := r2
        cases q2
        have hk := (List.getElem?_eq_some_iff.mp hM).1
        obtain ⟨I3, st⟩ := I2.setCell (o := .lst (ws ++ [v])) (c := .lst (xs ++ [d])) e1 c1 hk ⟨c1, ws ++ [v], upd_same, c3.append ⟨v, [], rfl, q1, rfl⟩⟩
        exact ⟨a, ws, v, rfl, rfl, c2, by rw [← c3.length]; exact hl, g4 .non _ _ _ (st _ c2) I3 rfl⟩
      · rw [h0] at g4
        obtain ⟨c1, ws, c2, c3⟩ := I2.cellL e1 hM
        obtain ⟨v, r, rfl, ⟨b, zs, rfl, q1, q3⟩, q2⟩ := r2
        cases q2
        have hk := (List.getElem?_eq_some_iff.mp hM).1
        obtain ⟨I3, st⟩ := I2.setCell (o := .lst (ws ++ zs)) (c := .lst (xs ++ ys)) e1 c1 hk ⟨c1, ws ++ zs, upd_same, c3.append q3⟩
        exact ⟨a, b, ws, zs, rfl, rfl, c2, I2.rdL q1, by rw [← c3.length, ← q3.length]; exact hl, g4 .non _ _ _ (st _ c2) I3 rfl⟩
      · rcases hm with h | h <;> cases h
  · exact (show False from g2).elim
theorem pop_imp {o : E} {pa p : Pos} {σ : L2.St} {H : Hp} {Q : VK} (h : tEv X.K lk EX C (.mth o .pop pa [] p) σ H Q) : tBM0 X.K "list" rPop (tEv X.K lk EX C o) σ H Q := by
  obtain ⟨G, ρ, M, s, I, e, g⟩ := h
  simp only [ev] at g
  refine ⟨G, ρ, M, s, I, e, (good_bnd _ g).imp fun x H1 ⟨G1, ρ1, M1, w1, s1, I1, r1, g1⟩ => ?_⟩
  obtain ⟨d0, hd0, g2⟩ := good_rd I1 r1 g1
  split at g2
  · rename_i hk
    refine ⟨ty_lst (m := .pop) (by simp) hk hd0, ?_⟩
    have g3 : Good X.K lk EX G1 H1 ρ1 (mutW .pop w1 [] M1) (Rw X.K) Q := g2
    cases w1 with
    | val d => exact (show False from g3).elim
    | loc k =>
      obtain ⟨a, e1, rfl⟩ := r1
      have g4 : Good X.K lk EX G1 H1 ρ1 (mutM .pop k [] M1) (Rw X.K) Q := g3
      rcases mutM_cases .pop k [] M1 with h0 | ⟨xs, d, hM, h1, h2, hl, h0⟩ | ⟨xs, ys, hM, h1, h2, hl, h0⟩ | ⟨xs, y, hM, _, _, hl, h0⟩
      · rw [h0] at g4; exact g4.elim
      · cases h1
      · cases h1
      · rw [h0] at g4
        obtain ⟨c1, ws, c2, c3⟩ := I1.cellL e1 hM
        have hk := (List.getElem?_eq_some_iff.mp hM).1
        obtain ⟨v, q1, q2⟩ := last_get c3 hl
        obtain ⟨I3, st⟩ := I1.setCell (o := .lst ws.dropLast) (c := .lst xs.dropLast) e1 c1 hk ⟨c1, _, upd_same, c3.dropLast⟩
        exact ⟨a, ws, v, rfl, rfl, c2, q1, g4 v _ _ _ (st _ c2) I3 q2⟩
  · exact (show False from g2).elim
theorem get1_imp {o e1 : E} {pa p : Pos} {σ : L2.St} {H : Hp} {Q : VK} (h : tEv X.K lk EX C (.mth o .get pa [e1] p) σ H Q) : tDGet1 (tEv X.K lk EX C o) (tEv X.K lk EX C e1) σ H Q := by
  obtain ⟨G, ρ, M, s, I, e, g⟩ := h
  simp only [ev] at g
  refine ⟨G, ρ, M, s, I, e, (good_bnd _ g).imp fun x H1 ⟨G1, ρ1, M1, w1, s1, I1, r1, g1⟩ => ?_⟩
  obtain ⟨d0, hd0, g2⟩ := good_rd I1 r1 g1
  split at g2
  · rename_i hk
    cases d0 with
    | dict ks vs =>
      obtain ⟨a, kvs, rfl, q1, q2, q3⟩ := hd0
      simp only [Mt.mut, Bool.false_eq_true, if_false, evL, bnd_assoc] at g2
      refine ⟨a, rfl, .inl ⟨kvs, q1⟩, G1, ρ1, M1, s, I1, e.step s1, (good_bnd _ g2).imp fun y H2 ⟨G2, ρ2, M2, w2, s2, I2, r2, g3⟩ => ?_⟩
      obtain ⟨k, G3, M3, s3, I3, r3, g4⟩ := good_vl I2 r2 g3
      obtain ⟨d, hd, g5⟩ := good_rd I3 (RepW.step s3 (RepW.step s2 r1)) g4
      obtain ⟨r, hr, g6⟩ := good_val? g5
      cases d with
      | dict ks' ds' =>
        obtain ⟨b, kvs', eb, p1, rfl, p3⟩ := hd
        cases eb
        simp only [opMth, Option.map_eq_some_iff] at hr
        obtain ⟨k', hk', rfl⟩ := hr
        refine ⟨valV kvs' k', .inl ⟨kvs', k', p1, key_ok (I3.shr r3) hk', rfl⟩, good_ret g6 (Step.refl _ _ _) I3 ?_⟩
        have := get_ok k' p3
        cases eg : getK k' (kvs'.map (·.1)) ds' with
        | none => rw [eg] at this; rw [this]; exact rfl
        | some z => rw [eg] at this; obtain ⟨zv, z1, z2⟩ := this; rw [z1]; exact z2
      | _ => simp [opMth] at hr
    | _ => cases hk
  · exact (show False from g2).elim
theorem get2_imp {o e1 e2 : E} {pa p : Pos} {σ : L2.St} {H : Hp} {Q : VK} (h : tEv X.K lk EX C (.mth o .get pa [e1, e2] p) σ H Q) : tDGet2 (tEv X.K lk EX C o) (tEv X.K lk EX C e1) (tEv X.K lk EX C e2) σ H Q := by
  obtain ⟨G, ρ, M, s, I, e, g⟩ := h
  simp only [ev] at g
  refine ⟨G, ρ, M, s, I, e, (good_bnd _ g).imp fun x H1 ⟨G1, ρ1, M1, w1, s1, I1, r1, g1⟩ => ?_⟩
  obtain ⟨d0, hd0, g2⟩ := good_rd I1 r1 g1
  split at g2
  · rename_i hk
    cases d0 with
    | dict ks vs =>
      obtain ⟨a, kvs, rfl, q1, q2, q3⟩ := hd0
      simp only [Mt.mut, Bool.false_eq_true, if_false, evL, bnd_assoc] at g2
      refine ⟨a, rfl, .inl ⟨kvs, q1⟩, G1, ρ1, M1, s, I1, e.step s1, (good_bnd _ g2).imp fun y H2 ⟨G2, ρ2, M2, w2, s2, I2, r2, g3⟩ => ?_⟩
      obtain ⟨k, G3, M3, s3, I3, r3, g4⟩ := good_vl I2 r2 g3
      refine ⟨G3, ρ2, M3, s, I3, ((e.step s1).step s2).step s3, (good_bnd _ g4).imp fun z H4 ⟨G4, ρ4, M4, w4, s4, I4, r4, g5⟩ => ?_⟩
      obtain ⟨k2, G5, M5, s5, I5, r5, g6⟩ := good_vl I4 r4 g5
      obtain ⟨d, hd, g7⟩ := good_rd I5 (RepW.step s5 (RepW.step s4 (RepW.step s3 (RepW.step s2 r1)))) g6
      obtain ⟨r, hr, g8⟩ := good_val? g7
      cases d with
      | dict ks' ds' =>
        obtain ⟨b, kvs', eb, p1, rfl, p3⟩ := hd
        cases eb
        simp only [opMth, Option.map_eq_some_iff] at hr
        obtain ⟨k', hk', rfl⟩ := hr
        refine ⟨valV kvs' k', .inl ⟨kvs', k', p1, key_ok (I5.shr (Rep.sub s5.g (Rep.sub s4.g r3))) hk', rfl⟩, good_ret g8 (Step.refl _ _ _) I5 ?_⟩
        have := get_ok k' p3
        cases eg : getK k' (kvs'.map (·.1)) ds' with
        | none => rw [eg] at this; rw [this]; exact r5
        | some z => rw [eg] at this; obtain ⟨zv, z1, z2⟩ := this; rw [z1]; exact z2
      | _ => simp [opMth] at hr
    | _ => cases hk
  · exact (show False from g2).elim
theorem PE.stuckE {e : Expr} {t : TE} (h : ∀ σ H Q, ¬ t σ H Q) : PE X e t := ⟨fun pins s σ H Q I q => (h σ H Q q).elim⟩
theorem s_mth (x : XOk bl N sc n exA EX X) {o : E} {m : Mt} {pa p : Pos} {es : List E} (hb : baseB o = true) (hline : (pa.endLine == p.line) = true) (hfew : es.length < 20) (ho : PE X o.toExpr (tEv X.K lk EX C o)) (hs : PA X (E.toL es) (tEvL X.K lk EX C es))
    (hes : ∀ e ∈ es, PE X e.toExpr (tEv X.K lk EX C e)) (hw : mthB m es = true) : PE X (E.mth o m pa es p).toExpr (tEv X.K lk EX C (.mth o m pa es p)) := by
  have base : ∀ m' : Str, attributeBase o.toExpr m' X.env (eval o.toExpr X.env) = eval o.toExpr X.env := fun m' => base_of o hb m' X.env _
  cases m with
  | get =>
    have hu : X.A.units + 1 < cLine := by have := x.units; omega
    cases es with
    | nil => cases hw
    | cons e1 r => cases r with
      | nil =>
        simp only [E.toExpr, E.toL, Mt.name]
        exact PE.weak (pe_dget1 hu ho (hes e1 (by simp)) ⟨base _, few_of [e1] hfew X.env p, hline, by rw [star_of]; rfl⟩) fun σ H Q h => get1_imp h
      | cons e2 r => cases r with
        | nil =>
          simp only [E.toExpr, E.toL, Mt.name]
          exact PE.weak (pe_dget2 hu ho (hes e1 (by simp)) (hes e2 (by simp)) ⟨base _, few_of [e1, e2] hfew X.env p, hline, by rw [star_of, star_of]; rfl⟩) fun σ H Q h => get2_imp h
        | cons e3 r => simp [mthB] at hw
  | pop =>
    cases es with
    | nil =>
      simp only [E.toExpr, E.toL, Mt.name]
      exact PE.weak (pe_bm0 PySem.F.plainAttrs_list PySem.F.slot_list_pop PySem.F.type_list_pop mt_pop ho (base _) hline) fun σ H Q h => pop_imp h
    | cons e1 r => simp [mthB] at hw
  | upper => cases hw
  | count => cases hw
  | find =>
    cases es with
    | nil => cases hw
    | cons e1 r =>
      simp only [E.toExpr, E.toL, Mt.name] at hs ⊢
      exact PE.weak (pe_bm PySem.F.plainAttrs_str PySem.F.slot_str_find PySem.F.type_str_find mt_find ho hs (base _) (few_of (e1 :: r) hfew X.env p) hline (star_of _ _ _) (star_any _ _ _)) fun σ H Q h => mth_imp (m := .find) (by simp) (fun hk hd => ty_str (by simp) hk hd) h
  | join =>
    cases es with
    | nil => cases hw
    | cons e1 r =>
      simp only [E.toExpr, E.toL, Mt.name] at hs ⊢
      exact PE.weak (pe_bm PySem.F.plainAttrs_str PySem.F.slot_str_join PySem.F.type_str_join mt_join ho hs (base _) (few_of (e1 :: r) hfew X.env p) hline (star_of _ _ _) (star_any _ _ _)) fun σ H Q h => mth_imp (m := .join) (by simp) (fun hk hd => ty_str (by simp) hk hd) h
  | split =>
    cases es with
    | nil => cases hw
    | cons e1 r =>
      simp only [E.toExpr, E.toL, Mt.name] at hs ⊢
      exact PE.weak (pe_bm PySem.F.plainAttrs_str PySem.F.slot_str_split PySem.F.type_str_split mt_split ho hs (base _) (few_of (e1 :: r) hfew X.env p) hline (star_of _ _ _) (star_any _ _ _)) fun σ H Q h => mth_imp (m := .split) (by simp) (fun hk hd => ty_str (by simp) hk hd) h
  | index =>
    cases es with
    | nil => cases hw
    | cons e1 r =>
      simp only [E.toExpr, E.toL, Mt.name] at hs ⊢
      exact PE.weak (pe_bm PySem.F.plainAttrs_list PySem.F.slot_list_index PySem.F.type_list_index mt_index ho hs (base _) (few_of (e1 :: r) hfew X.env p) hline (star_of _ _ _) (star_any _ _ _)) fun σ H Q h => mth_imp (m := .index) (by simp) (fun hk hd => ty_lst (by simp) hk hd) h
  | append =>
    cases es with
    | nil => cases hw
    | cons e1 r =>
      simp only [E.toExpr, E.toL, Mt.name] at hs ⊢
      exact PE.weak (pe_bm PySem.F.plainAttrs_list PySem.F.slot_list_append PySem.F.type_list_append mt_append ho hs (base _) (few_of (e1 :: r) hfew X.env p) hline (star_of _ _ _) (star_any _ _ _)) fun σ H Q h => mut_imp (m := .append) (by simp) h
  | extend =>
    cases es with
    | nil => cases hw
    | cons e1 r =>
      simp only [E.toExpr, E.toL, Mt.name] at hs ⊢
      exact PE.weak (pe_bm PySem.F.plainAttrs_list PySem.F.slot_list_extend PySem.F.type_list_extend mt_extend ho hs (base _) (few_of (e1 :: r) hfew X.env p) hline (star_of _ _ _) (star_any _ _ _)) fun σ H Q h => mut_imp (m := .extend) (by simp) h
end
end G9

set_option Elab.async false
set_option linter.all false
set_option maxRecDepth 100000
set_option maxHeartbeats 3200000
namespace L2
open PySem PySem.Spec PyProof.Rows
section
variable {P : Program} {w : World} {A : Around} {E : Value → Shared → Prop} {s : Shared}
theorem call_set_listI {l : Addr} {items : Array Value} (ns : List Int) {Q : Value → Shared → Prop} (hh : A.handled = none) (hl : s.heap.IsList l items) (hit : IntsAre items.toList ns) (hb : ns.length + 1 < scanBound)
    (h : ∀ (h' : Heap) (tk c : Nat), SetR w h' s.heap.objs.size (fun j => decide (j ∈ ns)) c → c ≤ ns.length → (∀ b o, s.heap.get? b = some o → h'.get? b = some o) → Q (.ref s.heap.objs.size) { s with heap := h', toks := tk }) :
    wpAny (model P w) A (call (.type "set") [.ref l]) Q E s := by
  have hisz : items.size = ns.length := by
    have q := IntsAre.length hit
    rw [Array.length_toList] at q
    exact q
  obtain ⟨c, tl, hmro⟩ := F.called_set.mro
  have hmade := F.called_set.made
  have hsub := F.called_set.sub
  refine wpAny_call (codeAny_of_tree ?_)
  show wpAny _ _ (callAny (.type "set") _) _ _ _
  refine wpAny_pure ⟨Code.quiet_builtin _ (by decide +kernel), codeAny_builtin F.entry_type_call ?_⟩
  rw [Around.under_plain (weight_type_call_type "set" [.ref l] []) rfl]
  have h1 := F.called_set.notType
  have h2 := F.called_set.canCreate
  have hct := F.typeCall_set_1 (.ref l)
  repeat (any_goals (first | assumption | wp_step))

  refine codeAny_mono (code_set_led1 (.ref l) (E := E) (Q₁ := fun obj s₁ => obj = .ref s.heap.objs.size ∧ s₁ = { s with heap := s.heap.push { cls := .type "set", dict := none, data := .set #[] 0 (.fresh 0 0 (!w.params.followText "set-order")) } }) ⟨rfl, rfl⟩) fun r s₁ hr => ?_
  cases r with
  | error e => exact hr
  | ok fl =>
    cases fl with
    | ret obj =>
      obtain ⟨rfl, rfl⟩ := hr
      have hS : (s.heap.push { cls := .type "set", dict := none, data := .set #[] 0 (.fresh 0 0 (!w.params.followText "set-order")) }).get? s.heap.objs.size = some { cls := .type "set", dict := none, data := .set #[] 0 (.fresh 0 0 (!w.params.followText "set-order")) } := Heap.get?_push_size _ rfl
      have hT : Shared.TypeIs { s with heap := s.heap.push { cls := .type "set", dict := none, data := .set #[] 0 (.fresh 0 0 (!w.params.followText "set-order")) } } (.ref s.heap.objs.size) "set" := ⟨_, hS, rfl⟩
      have hli := F.called_set.init.lookup
      have hbi := F.called_set.init.bind (.ref s.heap.objs.size)
      repeat (any_goals (first | assumption | wp_step))

      refine codeAny_mono (codeAny_call_builtin (R := wants (fun r s₂ => r = .none ∧ ∃ h' tk c, s₂ = { s with heap := h', toks := tk } ∧ SetR w h' s.heap.objs.size (fun j => decide (j ∈ ns)) c ∧ c ≤ ns.length ∧
          (∀ b o, s.heap.get? b = some o → h'.get? b = some o)) E) F.called_set.init.plain F.entry_set_init (check_set_init_1 hT ?_)) fun r₂ s₂ hr₂ => ?_
      · obtain ⟨ol, hol, hcl, nl, hdl⟩ := hl
        obtain ⟨ocls, odict, odata, oslots⟩ := ol
        simp only at hcl hdl
        subst hcl; subst hdl
        have hol' : (s.heap.push { cls := .type "set", dict := none, data := .set #[] 0 (.fresh 0 0 (!w.params.followText "set-order")) }).get? l = some { cls := .type "list", dict := odict, data := .seq items nl, slots := oslots } := Heap.get?_push_of_some _ hol
        have hsls := F.sub_list_set
        have hslf := F.sub_list_frozenset
        have hne : (Value.type "list" == Value.type "dict") = false := by decide
        have hl1 : (s.heap.push { cls := .type "set", dict := none, data := .set #[] 0 (.fresh 0 0 (!w.params.followText "set-order")) }).IsList l items := ⟨_, hol', rfl, nl, rfl⟩
        unfold Builtin.«set.__init__» noKeywords Builtin.Frozenset.updateFrom
        generalize hPI : pyIter = PI
        wp_walk
        subst hPI

        refine wpAny_pyIter_list hl1 ?_
        refine wpAny_bind (wpAny_runValue ?_)
        have hlS : l < s.heap.objs.size := Heap.lt_size hol
        have hh3 : A.in1.in1.in1.handled = none := by simp [hh]
        have hz1 : (s.heap.push { cls := .type "set", dict := none, data := .set #[] 0 (.fresh 0 0 (!w.params.followText "set-order")) }).objs.size = s.heap.objs.size + 1 := Heap.size_push ..
        have hneI : l ≠ (s.heap.push { cls := .type "set", dict := none, data := .set #[] 0 (.fresh 0 0 (!w.params.followText "set-order")) }).objs.size := by
          rw [Heap.size_push]; exact Nat.ne_of_lt (Nat.lt_succ_of_lt hlS)
        have hSf : s.heap.objs.size ∉ [(s.heap.push { cls := .type "set", dict := none, data := .set #[] 0 (.fresh 0 0 (!w.params.followText "set-order")) }).objs.size, l] := by
          rw [Heap.size_push]; simp only [List.mem_cons, List.mem_singleton, List.not_mem_nil, or_false, not_or]
          exact ⟨Nat.ne_of_lt (Nat.lt_succ_self _), Nat.ne_of_gt hlS⟩
        have hval : ∀ (i : Nat) (v : Value), items[i]? = some v → ∃ k t, ns[i]? = some k ∧ v = .int k t := fun i v hv => by
          have hi : i < ns.length := by rw [← hisz]; exact (Array.getElem?_eq_some_iff.mp hv).1
          obtain ⟨t, e⟩ := PyProof.Rows.IntsAre.int_at hit i v (by rw [Array.getElem?_toList]; exact hv)
          refine ⟨ns[i], t, List.getElem?_eq_getElem hi, ?_⟩
          rw [e, List.getD_eq_getElem?_getD, List.getElem?_eq_getElem hi] <;> rfl
        refine set_update_ints ((Walks.list hh3 _ l hneI items).toS) s.heap.objs.size
          hSf ns hisz hb hval (items.size - 0) 0 _ (by omega) (Nat.zero_le _)
          ⟨⟨_, Heap.get?_push_size _ rfl, rfl, rfl⟩, (hl1.push _)⟩ ?hS0 ?hR
        case hS0 =>
          have hget : ((s.heap.push { cls := .type "set", dict := none, data := .set #[] 0 (.fresh 0 0 (!w.params.followText "set-order")) }).push { cls := .type "list_iterator", data := .fields #[.ref l, .int 0 0] }).get? s.heap.objs.size
              = some { cls := .type "set", dict := none, data := .set #[] 0 (.fresh 0 0 (!w.params.followText "set-order")) } := Heap.get?_push_of_some _ hS
          exact ⟨0, Nat.le_refl 0, setR_new_at hget⟩
        case hR =>
          intro s' c' hm hc' hS'
          obtain ⟨h', g2, d', tk', os'⟩ := s'
          have eg : g2 = s.gens := hm.gens
          have ed : d' = s.drawn := hm.drawn
          have eo : os' = s.os := hm.os
          subst eg; subst ed; subst eo
          show wpAny _ _ _ _ _ _
          refine wpAny_pure ?_
          show wpAny _ _ (ret Value.none) _ _ _
          rw [hisz] at hc'
          refine wpAny_pure ⟨rfl, h', tk', c', rfl, hS', hc', fun b o e => ?_⟩
          have hb0 : b < s.heap.objs.size := Heap.lt_size e
          have hb1 : b ≠ s.heap.objs.size := Nat.ne_of_lt hb0
          have hb2 : b ≠ (s.heap.push { cls := .type "set", dict := none, data := .set #[] 0 (.fresh 0 0 (!w.params.followText "set-order")) }).objs.size := by
            rw [Heap.size_push]; exact Nat.ne_of_lt (Nat.lt_succ_of_lt hb0)
          exact hm.heap b o (by simp only [List.mem_cons, List.mem_singleton, List.not_mem_nil, or_false, not_or]; exact ⟨hb1, hb2⟩) (Heap.get?_push_of_some _ (Heap.get?_push_of_some _ e))

      · cases r₂ with
        | error e => exact hr₂
        | ok fl₂ =>
          cases fl₂ with
          | ret r =>
            obtain ⟨rfl, h', tk, c', rfl, hS', hc', hk'⟩ := hr₂
            repeat (any_goals (first | assumption | wp_step))
            exact h _ _ _ hS' hc' hk'
          | _ => exact hr₂.elim
    | _ => exact hr.elim

end
end L2

set_option Elab.async false
set_option linter.all false
set_option maxRecDepth 100000
set_option maxHeartbeats 1000000
namespace G9
open PySem PySem.Spec PyProof.Rows L2
def rSetLI (K : PySem.W.Frag) (w : World) : List V → Hp → VK → Prop := fun xs H Q => ∃ (l : Addr) (ns : List Int), xs = [V.ref l] ∧ (SqL K H l (ns.map V.int) ∨ SqT K H l (ns.map V.int)) ∧ ns.length < 64 ∧
  ∀ a c, H a = none → c ≤ ns.length → Q (.ref a) (upd H a (SetO w a (fun j => decide (j ∈ ns)) c))
theorem cr_setLI {X : Cx} (hc : X.calm = true) : CallR X (.type "set") (rSetLI X.K X.w) := by
  intro pins s σ H xs us Q I r q
  obtain ⟨l, ns, ex, hq, h64, q⟩ := q
  subst ex
  obtain ⟨u, eu, rx⟩ := vals1 r
  subst eu
  cases rx
  have fin : ∀ (h' : Heap) (tk c : Nat), SetR X.w h' s.heap.objs.size (fun j => decide (j ∈ ns)) c → c ≤ ns.length → (∀ b o, s.heap.get? b = some o → h'.get? b = some o) → EP X pins σ Q (.ref s.heap.objs.size) { s with heap := h', toks := tk } := fun h' tk c R hc' k =>
    ⟨.ref s.heap.objs.size, _, I.laid (t' := tk) k (Nat.le_refl _) (setO_new R), rfl, q _ c (I.hok.fresh (Nat.le_refl _)) hc'⟩
  rcases hq with hq | hq
  · obtain ⟨its, rv, pl, hz⟩ := I.list hq
    exact call_set_listI ns (I.ok.hd hc) pl.isList (by simpa using rv.ints) (by unfold scanBound; omega) fin
  · obtain ⟨its, rv, pl, hz⟩ := I.tuple hq
    exact call_set_tupI ns (I.ok.hd hc) pl (by simpa using rv.ints) (by unfold scanBound; omega) fin
theorem dupI_mem : ∀ (xs : List Int) (k : Int), k ∈ dupI xs ↔ k ∈ xs
  | [], k => Iff.rfl
  | x :: r, k => by
    unfold dupI
    split
    · rename_i h
      obtain ⟨y, hy, e⟩ := List.any_eq_true.mp h
      have e' : y = x := beq_iff_eq.mp e
      rw [dupI_mem r k, List.mem_cons]
      constructor
      · exact .inr
      · rintro (rfl | z)
        · exact e' ▸ hy
        · exact z
    · rw [List.mem_cons, List.mem_cons, dupI_mem r k]
theorem dupI_nodup : ∀ xs : List Int, (dupI xs).Nodup
  | [] => List.nodup_nil
  | x :: r => by
    unfold dupI
    split
    · exact dupI_nodup r
    · rename_i h
      refine List.nodup_cons.mpr ⟨fun z => ?_, dupI_nodup r⟩
      rw [dupI_mem] at z
      exact h (List.any_eq_true.mpr ⟨x, z, beq_self_eq_true x⟩)
theorem srt_dup {ns ms : List Int} (hp : ms.Pairwise (· < ·)) (hm : ∀ k : Int, k ∈ ms ↔ decide (k ∈ ns) = true) : ms = srtI (dupI ns) := by
  refine srtI_eq ?_ (hp.imp fun h => Int.le_of_lt h)
  have nd : ms.Nodup := hp.imp fun h => Int.ne_of_lt h
  refine (List.perm_ext_iff_of_nodup nd (dupI_nodup ns)).mpr fun k => ?_
  rw [hm, dupI_mem]
  simp
section
variable {X : Cx} {bl N : List Str} {sc : Scope} {n : Nat} {exA : Str → Option Addr} {EX : Str → Hp → Prop} {C : Calls} {lk : Option Addr}
theorem s_sset (x : XOk bl N sc n exA EX X) {a : E} {p1 p2 p3 p4 : Pos} (h1 : bltB bl sc "sorted" = true) (h2 : bltB bl sc "set" = true) (ha : PE X a.toExpr (tEv X.K lk EX C a)) : PE X (E.sset a p1 p2 p3 p4).toExpr (tEv X.K lk EX C (.sset a p1 p2 p3 p4)) := by
  obtain ⟨g1, g2, g3, g4⟩ := blt_of x h1
  obtain ⟨k1, k2, k3, k4⟩ := blt_of x h2
  simp only [E.toExpr]
  have inner : PE X (.Call (.Name "set" p2) [a.toExpr] [] p3) _ := pe_callTy (cr_setLI x.calm) k1 k3 PyProof.Rows.boot_set (pa_cons ha pa_nil (star_of _ _ _)) k4 k2 (star_of _ _ _) rfl
  refine PE.weak (pe_callB (cr_sortedSet x.calm) g1 g3 (by decide +kernel) (pa_cons inner pa_nil rfl) g4 g2 rfl rfl) fun σ H Q ⟨G, ρ, M, s, I, e, g⟩ => ?_
  refine ⟨G, ρ, M, s, I, e, (good_bnd _ g).imp fun y H1 ⟨G1, ρ1, M1, w1, s1, I1, r1, g1⟩ => ?_⟩
  obtain ⟨d, hd, g2⟩ := good_rd I1 r1 g1
  obtain ⟨r, hr, g3⟩ := good_val? g2
  have key : ∃ l ns, y = V.ref l ∧ (SqL X.K H1 l (ns.map V.int) ∨ SqT X.K H1 l (ns.map V.int)) ∧ ns.length < 64 ∧ r = .lst ((srtI (dupI ns)).map .int) := by
    have go : ∀ xs, setD xs = some r → ∃ ns : List Int, xs = ns.map D.int ∧ ns.length < 64 ∧ r = .lst ((srtI (dupI ns)).map .int) := fun xs hx => by
      unfold setD at hx
      cases e5 : intsD xs with
      | none => rw [e5] at hx; cases hx
      | some ns =>
        rw [e5] at hx
        have hx : (if ns.length < 64 then some (D.lst ((srtI (dupI ns)).map .int)) else none) = some r := hx
        split at hx
        · cases hx; exact ⟨ns, intsD_eq e5, by assumption, rfl⟩
        · cases hx
    cases d with
    | lst xs =>
      obtain ⟨ns, rfl, h64, e6⟩ := go xs hr
      obtain ⟨l, vs, rfl, q1, q2⟩ := hd
      rw [q2.ints] at q1
      exact ⟨l, ns, rfl, .inl (SqL.of q1), h64, e6⟩
    | tup xs =>
      obtain ⟨ns, rfl, h64, e6⟩ := go xs hr
      obtain ⟨l, vs, rfl, q1, q2⟩ := hd
      rw [q2.ints] at q1
      exact ⟨l, ns, rfl, .inr (I1.sqt q1), h64, e6⟩
    | _ => cases hr
  obtain ⟨l, ns, rfl, hq, h64, rfl⟩ := key
  refine ⟨l, ns, rfl, hq, h64, fun sa c hsa hcn => ?_⟩
  refine ⟨sa, _, c, rfl, upd_same, by omega, fun ms p hp hm hl hfr => ?_⟩
  obtain ⟨I2, s2⟩ := I1.newH (u := SetO X.w sa (fun j => decide (j ∈ ns)) c) hsa
  have hr' := srt_dup hp hm
  rw [hr']
  exact new_lst I2 (RepL.of_ints _) (fun z G' H' s3 I3 rz => good_ret (a := Wv.val (.lst ((srtI (dupI ns)).map .int))) g3 (s2.trans s3) I3 rz) p hfr
theorem rg_rep {K : PySem.W.Frag} {G : Hp} (n : Int) : RepL K G (rngD 0 n) (rgV 0 n) := by
  have : ∀ l : List Nat, RepL K G (l.map fun (k : Nat) => D.int (0 + k)) (l.map fun (k : Nat) => V.int (0 + k)) := fun l => by
    induction l with
    | nil => exact rfl
    | cons a r ih => exact ⟨_, _, rfl, rfl, ih⟩
  exact this _
theorem s_trg (x : XOk bl N sc n exA EX X) {a : E} {p1 p2 p3 p4 : Pos} (h1 : bltB bl sc "tuple" = true) (h2 : bltB bl sc "range" = true) (ha : PE X a.toExpr (tEv X.K lk EX C a)) : PE X (E.trg a p1 p2 p3 p4).toExpr (tEv X.K lk EX C (.trg a p1 p2 p3 p4)) := by
  obtain ⟨g1, g2, g3, g4⟩ := blt_of x h1
  obtain ⟨k1, k2, k3, k4⟩ := blt_of x h2
  simp only [E.toExpr]
  refine PE.weak (pe_tupRg x.calm g1 g3 (prg_1 k1 k3 ha (star_of _ _ _)) rfl) fun σ H Q ⟨G, ρ, M, s, I, e, g⟩ => ?_
  refine ⟨G, ρ, M, s, I, e, (good_bnd _ g).imp fun y H1 ⟨G1, ρ1, M1, w1, s1, I1, r1, g1⟩ => ?_⟩
  obtain ⟨d, hd, g2⟩ := good_rd I1 r1 g1
  obtain ⟨r, hr, g3⟩ := good_val? g2
  cases d with
  | int m =>
    cases hd
    simp only [opTrg] at hr
    split at hr
    · rename_i hm
      cases hr
      exact ⟨m, rfl, ⟨by omega, by omega, by omega, by omega, by omega⟩, new_tup I1 (rg_rep m) fun z G' H' s2 I2 rz => good_ret (a := Wv.val (.tup (rngD 0 m))) g3 s2 I2 rz⟩
    · cases hr
  | _ => cases hr
end
end G9

set_option Elab.async false
set_option linter.all false
set_option maxRecDepth 100000
set_option maxHeartbeats 1000000
namespace G9
open PySem PySem.Spec PyProof.Rows L2
def Both (X : Cx) (lk : Option Addr) (EX : Str → Hp → Prop) (C : Calls) (e : E) : Prop := PE X e.toExpr (tEv X.K lk EX C e) ∧ PT X e.toExpr (tB (tEv X.K lk EX C e))
section
variable {X : Cx} {bl N : List Str} {sc : Scope} {n : Nat} {exA : Str → Option Addr} {EX : Str → Hp → Prop} {C : Calls} {lk : Option Addr}
theorem both_val {e : E} (h : plainT e = true) (ha : PE X e.toExpr (tEv X.K lk EX C e)) : Both X lk EX C e := ⟨ha, t_val h ha⟩
theorem all_L : ∀ {es : List E}, (∀ e ∈ es, Both X lk EX C e) → PA X (E.toL es) (tEvL X.K lk EX C es)
  | [], _ => l_nil
  | e :: es, h => l_cons (h e (by simp)).1 (all_L fun e' h' => h e' (by simp [h']))
theorem all_W : ∀ {es : List E}, (∀ e ∈ es, Both X lk EX C e) → PA X (E.toL es) (tEvW X.K lk EX C es)
  | [], _ => w_nil
  | e :: es, h => w_cons (h e (by simp)).1 (all_W fun e' h' => h e' (by simp [h']))
theorem all_B {op : BoolOp} {p : Pos} : ∀ {e : E} {es : List E}, (∀ e' ∈ e :: es, Both X lk EX C e') → PE X (.BoolOp op (E.toL (e :: es)) p) (tEvB X.K lk EX C op (e :: es)) ∧ PW X (.BoolOp op (E.toL (e :: es)) p) (tB (tEvB X.K lk EX C op (e :: es)))
  | e, [], h => ⟨b_one (h e (by simp)).1, bt_one (h e (by simp)).2⟩
  | e, e' :: es, h => by
    have ih := all_B (op := op) (p := p) (e := e') (es := es) fun x hx => h x (by simp at hx ⊢; exact .inr hx)
    exact ⟨b_cons (h e (by simp)).1 ih.1, bt_cons (h e (by simp)).2 ih.2⟩
theorem all_P {p : Pos} : ∀ {es : List E}, (∀ e ∈ es, Both X lk EX C e) → PPs X p (E.toKs es) (E.toVs es) (trsE X.K lk EX C es)
  | [], _ => by simp only [E.toKs, E.toVs, trsE]; exact pps_nil
  | [_], _ => by simp only [E.toKs, E.toVs, trsE]; exact pps_nil
  | k :: v :: r, h => by
    simp only [E.toKs, E.toVs, trsE]
    exact pps_cons (h k (by simp)).1 (h v (by simp)).1 (all_P fun e he => h e (by simp [he]))
theorem all_A : ∀ {es : List E}, (∀ e ∈ es, Both X lk EX C e) → PA X (E.toL es) (tEvP X.K lk EX C es)
  | [], _ => p_nil
  | e :: es, h => p_cons (h e (by simp)).1 (all_A fun e' h' => h e' (by simp [h']))
end
section
variable (P : Program) (w : World) (K : PySem.W.Frag) (mg : Str → Option Value) (base : Heap) (bl N : List Str) (n : Nat) (exA : Str → Option Addr)
def SndE (e : E) : Prop := ∀ (sc : Scope) (X : Cx) (EX : Str → Hp → Prop) (C : Calls) (lk : Option Addr), wfE bl N sc e = true → XOk bl N sc n exA EX X → CallsOk X.prog X.w X.K X.mg X.base exA n lk C → Both X lk EX C e
def SndL (es : List E) : Prop := ∀ (sc : Scope) (X : Cx) (EX : Str → Hp → Prop) (C : Calls) (lk : Option Addr), wfL bl N sc es = true → XOk bl N sc n exA EX X → CallsOk X.prog X.w X.K X.mg X.base exA n lk C → ∀ e ∈ es, Both X lk EX C e
def SndO (o : Option E) : Prop := ∀ (sc : Scope) (X : Cx) (EX : Str → Hp → Prop) (C : Calls) (lk : Option Addr), wfO bl N sc o = true → XOk bl N sc n exA EX X → CallsOk X.prog X.w X.K X.mg X.base exA n lk C → L2.PO X (E.toO o) (tEvO X.K lk EX C o) ∧ PTs X (E.toC o) (tEvC X.K lk EX C o)
def SndI (it : I) : Prop := ∀ (sc : Scope) (X : Cx) (EX : Str → Hp → Prop) (C : Calls) (lk : Option Addr) (tg : Tgt), wfI bl N sc tg.isTwo it = true → XOk bl N sc n exA EX X → CallsOk X.prog X.w X.K X.mg X.base exA n lk C → PI X tg.toExpr it.toExpr (tEvI X.K lk EX C it)
end
theorem and2 {a b : Bool} (h : (a && b) = true) : a = true ∧ b = true := (Bool.and_eq_true _ _).mp h
theorem two_tgt {tg : Tgt} (h : tg.isTwo = true) : ∃ elts kk tpos, tg.toExpr = .Tuple elts kk tpos := by
  cases tg with
  | one => cases h
  | two i x p j y q k tp => exact ⟨_, _, _, rfl⟩
section
variable {bl N : List Str} {n : Nat} {exA : Str → Option Addr}
mutual
theorem soundE : ∀ e : E, SndE bl N n exA e
  | .var i y p => fun sc X EX C lk h x c => both_val rfl (s_var x h)
  | .con k m p => fun sc X EX C lk h x c => both_val rfl s_con
  | .glb y p => fun sc X EX C lk h x c => both_val rfl (s_glb x c h)
  | .bin a op b p => fun sc X EX C lk h x c => by
    have h1 := and2 (by simpa only [wfE] using h)
    exact both_val rfl (s_bin (soundE a sc X EX C lk h1.1 x c).1 (soundE b sc X EX C lk h1.2 x c).1)
  | .neg a p => fun sc X EX C lk h x c => both_val rfl (s_neg (soundE a sc X EX C lk (by simpa only [wfE] using h) x c).1)
  | .nt a p => fun sc X EX C lk h x c => by
    have ih := soundE a sc X EX C lk (by simpa only [wfE] using h) x c
    exact ⟨s_nt ih.1, t_nt ih.2⟩
  | .bop op es p => fun sc X EX C lk h x c => by
    have h1 := and2 (by simpa only [wfE] using h)
    have ih := soundL es sc X EX C lk h1.1 x c
    cases es with
    | nil => cases h1.2
    | cons e es =>
      have k := all_B (op := op) (p := p) ih
      refine ⟨?_, ?_⟩
      · simp only [E.toExpr]
        exact PE.weak k.1 fun σ H Q ⟨G, ρ, M, s, I, en, g⟩ => ⟨G, ρ, M, s, I, en, by simpa only [ev] using g⟩
      · simp only [E.toExpr]
        exact PT.weak k.2.pt fun σ H Q ⟨G, ρ, M, s, I, en, g⟩ => ⟨G, ρ, M, s, I, en, by simpa only [ev] using g⟩
  | .cmp a op b p => fun sc X EX C lk h x c => by
    have h1 := and2 (by simpa only [wfE] using h)
    have i1 := (soundE a sc X EX C lk h1.1 x c).1
    have i2 := (soundE b sc X EX C lk h1.2 x c).1
    exact ⟨s_cmp x i1 i2, t_cmp x i1 i2⟩
  | .chn a op b op2 d p => fun sc X EX C lk h x c => by
    have h1 := and2 (by simpa only [wfE] using h)
    have h2 := and2 h1.1
    have i1 := (soundE a sc X EX C lk h2.1 x c).1
    have i2 := (soundE b sc X EX C lk h2.2 x c).1
    have i3 := (soundE d sc X EX C lk h1.2 x c).1
    exact ⟨s_chn x i1 i2 i3, t_chn x i1 i2 i3⟩
  | .tup es k p => fun sc X EX C lk h x c => by
    have h1 := and2 (by simpa only [wfE] using h)
    exact both_val rfl (s_tup (of_decide_eq_true h1.2) (all_L (soundL es sc X EX C lk h1.1 x c)))
  | .lst es p => fun sc X EX C lk h x c => by
    have h1 := and2 (by simpa only [wfE] using h)
    exact both_val rfl (s_lst (of_decide_eq_true h1.2) (all_L (soundL es sc X EX C lk h1.1 x c)))
  | .dic es p => fun sc X EX C lk h x c => by
    have h1 := and2 (by simpa only [wfE] using h)
    have h2 := and2 h1.1
    exact both_val rfl (s_dic (of_decide_eq_true h2.2) (of_decide_eq_true h1.2) (all_P (soundL es sc X EX C lk h2.1 x c)))
  | .idx a b p => fun sc X EX C lk h x c => by
    have h1 := and2 (by simpa only [wfE] using h)
    exact both_val rfl (s_idx x (soundE a sc X EX C lk h1.1 x c).1 (soundE b sc X EX C lk h1.2 x c).1)
  | .slc a lo hi p2 p => fun sc X EX C lk h x c => by
    have h1 := and2 (by simpa only [wfE] using h)
    have h2 := and2 h1.1
    exact both_val rfl (s_slc (soundE a sc X EX C lk h2.1 x c).1 (soundO lo sc X EX C lk h2.2 x c).1 (soundO hi sc X EX C lk h1.2 x c).1)
  | .rvs a p4 p3 p2 p k => fun sc X EX C lk h x c => both_val rfl (s_rvs (soundE a sc X EX C lk (by simpa only [wfE] using h) x c).1)
  | .blt f pf es p => fun sc X EX C lk h x c => by
    have h1 := and2 (by simpa only [wfE] using h)
    have h2 := and2 h1.1
    have ih := all_W (soundL es sc X EX C lk h2.1 x c)
    cases es with
    | nil => cases h1.2
    | cons e es => exact both_val rfl (s_blt x h2.2 ih)
  | .trg a p1 p2 p3 p4 => fun sc X EX C lk h x c => by
    have h1 := and2 (by simpa only [wfE] using h)
    have h2 := and2 h1.1
    exact both_val rfl (s_trg x h2.2 h1.2 (soundE a sc X EX C lk h2.1 x c).1)
  | .sset a p1 p2 p3 p4 => fun sc X EX C lk h x c => by
    have h1 := and2 (by simpa only [wfE] using h)
    have h2 := and2 h1.1
    exact both_val rfl (s_sset x h2.2 h1.2 (soundE a sc X EX C lk h2.1 x c).1)
  | .isi a t pf pt p => fun sc X EX C lk h x c => by
    have h1 := and2 (by simpa only [wfE] using h)
    have h2 := and2 h1.1
    exact both_val rfl (s_isi x h2.2 h1.2 (soundE a sc X EX C lk h2.1 x c).1)
  | .mth o m pa es p => fun sc X EX C lk h x c => by
    have h1 := and2 (by simpa only [wfE] using h)
    have h2 := and2 h1.1
    have h3 := and2 h2.1
    have h4 := and2 h3.1
    have h5 := and2 h4.1
    have ih := soundL es sc X EX C lk h5.2 x c
    exact both_val rfl (s_mth x h4.2 h3.2 (of_decide_eq_true h2.2) (soundE o sc X EX C lk h5.1 x c).1 (all_L ih) (fun e he => (ih e he).1) h1.2)
  | .cal f pf es p => fun sc X EX C lk h x c => by
    have h1 := and2 (by simpa only [wfE] using h)
    have h2 := and2 h1.1
    have ih := all_A (soundL es sc X EX C lk h2.1 x c)
    cases es with
    | nil => cases h1.2
    | cons e es => exact both_val rfl (s_cal x c h2.2 ih)
  | .cali f pf es p => fun sc X EX C lk h x c => by
    have h1 := and2 (by simpa only [wfE] using h)
    have h2 := and2 h1.1
    have ih := all_W (soundL es sc X EX C lk h2.1 x c)
    cases es with
    | nil => cases h1.2
    | cons e es => exact both_val rfl (s_cali x c h2.2 ih)
  | .lc elt tg it cond scope p => fun sc X EX C lk h x c => by
    have h1 := and2 (by simpa only [wfE] using h)
    have h2 := and2 h1.1
    have h3 := and2 h2.1
    have h4 := and2 h3.1
    refine both_val rfl (s_lc x c h4.2 h3.2 (soundI it sc X EX C lk tg h4.1 x c) (fun i y q e => by rw [e] at h4; simpa only [wfI] using h4.1) (fun lk' C' c' s H Cc cl fp => ?_) fun lk' C' c' s H Cc cl fp => ?_)
    · exact (soundE elt (relS scope sc) (X.blk s H scope (compEnvC scope cl Cc X.env) fp) noEX C' lk' h1.2 (x.blk s H scope cl Cc fp) c').1
    · exact (soundO cond (relS scope sc) (X.blk s H scope (compEnvC scope cl Cc X.env) fp) noEX C' lk' h2.2 (x.blk s H scope cl Cc fp) c').2
theorem soundL : ∀ es : List E, SndL bl N n exA es
  | [] => fun sc X EX C lk h x c e he => by cases he
  | e :: es => fun sc X EX C lk h x c e' he => by
    have h1 := and2 (by simpa only [wfL] using h)
    have i1 := soundE e sc X EX C lk h1.1 x c
    have i2 := soundL es sc X EX C lk h1.2 x c
    rcases List.mem_cons.mp he with q | q
    · subst q; exact i1
    · exact i2 e' q
theorem soundO : ∀ o : Option E, SndO bl N n exA o
  | none => fun sc X EX C lk h x c => ⟨s_none, c_none⟩
  | some e => fun sc X EX C lk h x c => by
    have i1 := soundE e sc X EX C lk (by simpa only [wfO] using h) x c
    exact ⟨s_some i1.1, c_some i1.2⟩
theorem soundI : ∀ it : I, SndI bl N n exA it
  | .seq e => fun sc X EX C lk tg h x c => i_seq (soundE e sc X EX C lk (by simpa only [wfI] using h) x c).1
  | .rng es pf p => fun sc X EX C lk tg h x c => by
    have h1 := and2 (by simpa only [wfI] using h)
    have h2 := and2 h1.1
    exact i_rng x h2.2 (by simpa using h1.2) (all_L (soundL es sc X EX C lk h2.1 x c))
  | .zip a b pf p => fun sc X EX C lk tg h x c => by
    have h1 := and2 (by simpa only [wfI] using h)
    have h2 := and2 h1.1
    have h3 := and2 h2.1
    obtain ⟨elts, kk, tpos, e⟩ := two_tgt h1.2
    rw [e]
    exact i_zip x h2.2 (soundE a sc X EX C lk h3.1 x c).1 (soundE b sc X EX C lk h3.2 x c).1
  | .enu a pf p => fun sc X EX C lk tg h x c => by
    have h1 := and2 (by simpa only [wfI] using h)
    have h2 := and2 h1.1
    obtain ⟨elts, kk, tpos, e⟩ := two_tgt h1.2
    rw [e]
    exact i_enu x h2.2 (soundE a sc X EX C lk h2.1 x c).1
end
end
end G9

set_option Elab.async false
set_option linter.all false
set_option maxRecDepth 100000
set_option maxHeartbeats 1000000
namespace G9
open PySem PySem.Spec PyProof.Rows L2
inductive FR where
  | nx (σ : L2.St) | bk (σ : L2.St) | ct (σ : L2.St) | rt (v : V)
def RlF (K : PySem.W.Frag) : Hp → Hp → List Addr → Fl → FR → Prop := fun G _ ρ f r => match f, r with
  | .nx s, .nx σ => EnvR K G ρ σ s
  | .bk s, .bk σ => EnvR K G ρ σ s
  | .ct s, .ct σ => EnvR K G ρ σ s
  | .rt w, .rt v => RepW K G ρ w v
  | _, _ => False
def QF (D : Ends) : FR → Hp → Prop
  | .nx σ, H => D.nx σ H
  | .bk σ, H => D.bk σ H
  | .ct σ, H => D.ct σ H
  | .rt v, H => D.rt v H
def tEx (K : PySem.W.Frag) (EX : Str → Hp → Prop) (C : Calls) (st : S) : TS := fun D σ H => ∃ G ρ M s, SI K none G H ρ M ∧ EnvR K G ρ σ s ∧ Good K none EX G H ρ (exec C st s M) (RlF K) (QF D)
def tExs (K : PySem.W.Frag) (EX : Str → Hp → Prop) (C : Calls) (st : List S) : TS := fun D σ H => ∃ G ρ M s, SI K none G H ρ M ∧ EnvR K G ρ σ s ∧ Good K none EX G H ρ (execs C st s M) (RlF K) (QF D)
structure SOk (X : Cx) : Prop where
  hp : PassesOwn (model X.prog X.w) X.A X.env X.xe
  fn : ∀ x, X.fn x = true
  kind : X.env.scope.kind = .function
def isLc : E → Bool
  | .lc .. => true
  | _ => false
def isTup : E → Bool
  | .tup .. => true
  | _ => false
theorem swaps_no (e : E) (h : isLc e = false) (t : Option Expr) (l : Nat) (env : Env) : swapsWith e.toExpr t l env = pure false := by
  cases e <;> first | (simp [isLc] at h; done) | (simp only [E.toExpr]; rfl)
theorem sole_no (e : E) (h : isLc e = false) (t : Expr) (l : Nat) (env : Env) : swapsWithSole [t] e.toExpr l env = pure false := swaps_no e h (some t) l env
theorem stores_no (e : E) (h : isTup e = false) (t : Expr) (env : Env) : swappedStores [t] e.toExpr env = pure none := by
  cases e <;> first | (simp [isTup] at h; done) | (simp only [E.toExpr]; cases t <;> rfl)
section
variable {X : Cx} {bl N : List Str} {sc : Scope} {n : Nat} {exA : Str → Option Addr} {EX : Str → Hp → Prop} {C : Calls}
theorem loc_of (x : XOk bl N sc n exA EX X) {y : Str} (h : locB sc y = true) : L2.Loc X.env.scope y := by
  rw [x.sc]
  unfold locB at h
  unfold L2.Loc
  cases e : sc.names.lookup y with
  | none => rw [e] at h; cases h
  | some k => cases k <;> rw [e] at h <;> simp at h ⊢
theorem ss_nil : PSs X (S.toL []) (tExs X.K EX C []) := by
  simp only [S.toL]
  refine PSs.weak pss_nil fun D σ H ⟨G, ρ, M, s, I, e, g⟩ => ?_
  exact good_ret (a := Fl.nx s) g (b := .nx σ) (Step.refl _ _ _) I e
theorem ss_cons {st : S} {r : List S} (h1 : PS X st.toStmt (tEx X.K EX C st)) (h2 : PSs X (S.toL r) (tExs X.K EX C r)) : PSs X (S.toL (st :: r)) (tExs X.K EX C (st :: r)) := by
  simp only [S.toL]
  refine PSs.weak (pss_cons h1 h2) fun D σ H ⟨G, ρ, M, s, I, e, g⟩ => ?_
  simp only [execs] at g
  refine ⟨G, ρ, M, s, I, e, (good_bnd (RlF X.K) g).imp fun f H1 ⟨G1, ρ1, M1, fl, s1, I1, r1, g1⟩ => ?_⟩
  cases f with
  | nx σ1 => cases fl with
    | nx s' => exact ⟨G1, ρ1, M1, s', I1, r1, g1⟩
    | _ => exact r1.elim
  | bk σ1 => cases fl with
    | bk s' => exact good_ret (a := Fl.bk s') g1 (b := .bk σ1) (Step.refl _ _ _) I1 r1
    | _ => exact r1.elim
  | ct σ1 => cases fl with
    | ct s' => exact good_ret (a := Fl.ct s') g1 (b := .ct σ1) (Step.refl _ _ _) I1 r1
    | _ => exact r1.elim
  | rt v => cases fl with
    | rt w => exact good_ret (a := Fl.rt w) g1 (b := .rt v) (Step.refl _ _ _) I1 r1
    | _ => exact r1.elim
theorem x_asg (x : XOk bl N sc n exA EX X) (so : SOk X) {i : Nat} {y : Str} {px p : Pos} {e : E} (hi : N[i]? = some y) (hy : locB sc y = true) (hl : isLc e = false) (he : PE X e.toExpr (tEv X.K none EX C e)) : PS X (S.asg i y px e p false).toStmt (tEx X.K EX C (.asg i y px e p false)) := by
  simp only [S.toStmt]
  refine PS.weak (ps_set (by rw [x.hN]; exact x.nd) (by rw [x.hN]; exact hi) (loc_of x hy) he (swaps_no e hl _ _ _) (.inl (so.fn y))) fun D σ H ⟨G, ρ, M, s, I, en, g⟩ => ?_
  simp only [exec] at g
  refine ⟨G, ρ, M, s, I, en, (good_bnd _ g).imp fun v H1 ⟨G1, ρ1, M1, w, s1, I1, r1, g1⟩ => ?_⟩
  exact good_ret (a := Fl.nx (s.set i (some w))) g1 (b := .nx (σ.set i (some v))) (Step.refl _ _ _) I1 ((en.step s1).set i r1)
theorem x_ex {e : E} {p : Pos} (hl : isLc e = false) (he : PE X e.toExpr (tEv X.K none EX C e)) : PS X (S.ex e p).toStmt (tEx X.K EX C (.ex e p)) := by
  simp only [S.toStmt]
  refine PS.weak (ps_expr he (swaps_no e hl _ _ _)) fun D σ H ⟨G, ρ, M, s, I, en, g⟩ => ?_
  simp only [exec] at g
  refine ⟨G, ρ, M, s, I, en, (good_bnd _ g).imp fun v H1 ⟨G1, ρ1, M1, w, s1, I1, r1, g1⟩ => ?_⟩
  exact good_ret (a := Fl.nx s) g1 (b := .nx σ) (Step.refl _ _ _) I1 (en.step s1)
theorem x_rt {e : E} {p : Pos} (he : PE X e.toExpr (tEv X.K none EX C e)) : PS X (S.rt e p).toStmt (tEx X.K EX C (.rt e p)) := by
  simp only [S.toStmt]
  refine PS.weak (ps_ret he) fun D σ H ⟨G, ρ, M, s, I, en, g⟩ => ?_
  simp only [exec] at g
  refine ⟨G, ρ, M, s, I, en, (good_bnd _ g).imp fun v H1 ⟨G1, ρ1, M1, w, s1, I1, r1, g1⟩ => ?_⟩
  exact good_ret (a := Fl.rt w) g1 (b := .rt v) (Step.refl _ _ _) I1 r1
theorem x_iff {c : E} {a b : List S} {p : Pos} (hc : PT X c.toExpr (tB (tEv X.K none EX C c))) (ha : PSs X (S.toL a) (tExs X.K EX C a)) (hb : PSs X (S.toL b) (tExs X.K EX C b)) : PS X (S.iff c a b p).toStmt (tEx X.K EX C (.iff c a b p)) := by
  simp only [S.toStmt]
  refine PS.weak (ps_if hc ha hb) fun D σ H ⟨G, ρ, M, s, I, en, g⟩ => ?_
  simp only [exec] at g
  refine ⟨G, ρ, M, s, I, en, (good_bnd _ g).imp fun v H1 ⟨G1, ρ1, M1, w, s1, I1, r1, g1⟩ => ?_⟩
  obtain ⟨t, rfl, g2⟩ := good_tst g1
  cases r1
  refine ⟨t, rfl, ?_⟩
  cases t with
  | true => exact ⟨G1, ρ1, M1, s, I1, en.step s1, g2⟩
  | false => exact ⟨G1, ρ1, M1, s, I1, en.step s1, g2⟩
theorem x_pas {p : Pos} : PS X (S.pas p).toStmt (tEx X.K EX C (.pas p)) := by
  simp only [S.toStmt]
  exact PS.weak ps_pass fun D σ H ⟨G, ρ, M, s, I, en, g⟩ => good_ret (a := Fl.nx s) g (b := .nx σ) (Step.refl _ _ _) I en
theorem x_brk {p : Pos} : PS X (S.brk p).toStmt (tEx X.K EX C (.brk p)) := by
  simp only [S.toStmt]
  exact PS.weak ps_break fun D σ H ⟨G, ρ, M, s, I, en, g⟩ => good_ret (a := Fl.bk s) g (b := .bk σ) (Step.refl _ _ _) I en
theorem x_cont {p : Pos} : PS X (S.cont p).toStmt (tEx X.K EX C (.cont p)) := by
  simp only [S.toStmt]
  exact PS.weak ps_continue fun D σ H ⟨G, ρ, M, s, I, en, g⟩ => good_ret (a := Fl.ct s) g (b := .ct σ) (Step.refl _ _ _) I en
theorem x_setI (x : XOk bl N sc n exA EX X) {o i e : E} {pt p : Pos} (hl : isLc e = false) (ho : PE X o.toExpr (tEv X.K none EX C o)) (hi : PE X i.toExpr (tEv X.K none EX C i)) (he : PE X e.toExpr (tEv X.K none EX C e)) : PS X (S.setI o i e pt p).toStmt (tEx X.K EX C (.setI o i e pt p)) := by
  simp only [S.toStmt]
  have hu : X.A.units + 1 < cLine := by have := x.units; omega
  refine PS.weak (ps_dput hu ho hi he (swaps_no e hl _ _ _)) fun D σ H ⟨G, ρ, M, s, I, en, g⟩ => ?_
  simp only [exec] at g
  refine ⟨G, ρ, M, s, I, en, (good_bnd _ g).imp fun v H1 ⟨G1, ρ1, M1, w, s1, I1, r1, g1⟩ => ?_⟩
  obtain ⟨d, G2, M2, s2, I2, r2, g2⟩ := good_vl I1 r1 g1
  have en2 := (en.step s1).step s2
  refine ⟨G2, ρ1, M2, s, I2, en2, (good_bnd _ g2).imp fun ov H3 ⟨G3, ρ3, M3, w3, s3, I3, r3, g3⟩ => ?_⟩
  refine ⟨G3, ρ3, M3, s, I3, en2.step s3, (good_bnd _ g3).imp fun kv H4 ⟨G4, ρ4, M4, w4, s4, I4, r4, g4⟩ => ?_⟩
  obtain ⟨kd, hk, g5⟩ := good_rd I4 r4 g4
  obtain ⟨k, hk2, g6⟩ := good_opt g5
  obtain ⟨m, hm, g7⟩ := good_opt g6
  have ek := key_ok hk hk2
  cases w3 with
  | val d => cases hm
  | loc m' =>
    cases hm
    obtain ⟨a, e1, rfl⟩ := RepW.step s4 r3
    unfold bnd at g7
    cases e2 : M4[m]? with
    | none => simp only [setC, e2] at g7; exact g7.elim
    | some c =>
      cases c with
      | dict ks ds =>
        by_cases hl : ks.length < sizeLine
        · simp only [setC, e2, if_pos hl] at g7
          obtain ⟨h1, kvs, h2, h3, h4⟩ := I4.cell m a _ e1 e2
          have hlen : ks.length = ds.length := by rw [h4.length, ← h3]; simp
          have hz1 : (ks.zip ds).map (·.1) = ks := by rw [List.map_fst_zip (by omega)]
          have hz2 : (ks.zip ds).map (·.2) = ds := by rw [List.map_snd_zip (by omega)]
          have rv : Rep X.K G4 d v := Rep.sub (s3.trans s4).g r2
          obtain ⟨p1, p2⟩ := put_ok k (acc := ks.zip ds) (av := kvs) rv (by rw [hz1]; exact h3) (by rw [hz2]; exact h4)
          have hm : m < M4.length := (List.getElem?_eq_some_iff.mp e2).1
          obtain ⟨I5, s5⟩ := I4.setCell (c := .dict ((putD (ks.zip ds) k d).map (·.1)) ((putD (ks.zip ds) k d).map (·.2))) (o := .dK (putK kvs k v)) e1 h1 hm ⟨h1, _, upd_same, p1, p2⟩
          have s5' := s5 _ h2
          have hkl : kvs.length < sizeLine := by
            have : kvs.length = ks.length := by rw [← h3]; simp
            omega
          refine ⟨a, _, rfl, ?_, good_ret (a := Fl.nx s) g7 (b := .nx σ) s5' I5 (((en2.step s3).step s4).step s5')⟩
          rw [ek]
          exact DPut.k h2 hkl
        · simp only [setC, e2, if_neg hl] at g7; exact g7.elim
      | lst ds => simp only [setC, e2] at g7; exact g7.elim
      | frz d => simp only [setC, e2] at g7; exact g7.elim
end
end G9

set_option Elab.async false
set_option linter.all false
set_option maxRecDepth 100000
set_option maxHeartbeats 1000000
namespace G9
open PySem PySem.Spec PyProof.Rows L2
section
variable {K : PySem.W.Frag} {lk : Option Addr} {G H : Hp} {ρ : List Addr} {M : List Cell} {p : Addr} {o : HO}
/-- a new cell -/
theorem SI.newCell (I : SI K lk G H ρ M) (hp : H p = none) {c : Cell} (hc : CellOk K G (upd H p o) p c) : SI K lk G (upd H p o) (ρ ++ [p]) (M ++ [c]) ∧ Step G H ρ G (upd H p o) (ρ ++ [p]) ∧ RepW K G (ρ ++ [p]) (.loc M.length) (.ref p) := by
  have fr := I.fresh hp
  refine ⟨⟨fun a u q => ?_, ?_, by simp [I.len], fun n a c' e1 e2 => ?_⟩, ⟨fun _ _ z => z, ⟨[p], rfl⟩, fun a u q _ => ?_, fun a u q => .inl ⟨u, q⟩, fun a q => ?_, fun a q => ?_⟩, p, ?_, rfl⟩
  · have ne : a ≠ p := fun z => I.there q (z ▸ hp)
    rw [upd_ne ne]; exact I.sub a u q
  · rw [List.nodup_append]
    refine ⟨I.nd, by simp, fun a ha b hb => ?_⟩
    rw [List.mem_singleton] at hb
    subst hb
    exact fun z => fr (z ▸ ha)
  · by_cases hn : n < ρ.length
    · rw [List.getElem?_append_left hn] at e1
      rw [List.getElem?_append_left (by rw [← I.len]; exact hn)] at e2
      have ne : a ≠ p := fun z => fr (z ▸ List.mem_of_getElem? e1)
      have c0 := I.cell n a c' e1 e2
      cases c' with
      | lst ds => obtain ⟨z1, vs, z2, z3⟩ := c0; exact ⟨z1, vs, by rw [upd_ne ne]; exact z2, z3⟩
      | dict ks ds => obtain ⟨z1, vs, z2, z3, z4⟩ := c0; exact ⟨z1, vs, by rw [upd_ne ne]; exact z2, z3, z4⟩
      | frz d => exact c0
    · have hl : n < (ρ ++ [p]).length := (List.getElem?_eq_some_iff.mp e1).1
      have en : n = ρ.length := by simp at hl; omega
      subst en
      rw [List.getElem?_append_right (Nat.le_refl _)] at e1
      rw [List.getElem?_append_right (by rw [I.len]; exact Nat.le_refl _)] at e2
      simp at e1
      rw [I.len] at e2
      simp at e2
      subst e1 e2
      exact hc
  · rw [upd_ne (ne_of_none q hp)]; exact q
  · rcases List.mem_append.mp q with z | z
    · exact .inl z
    · rw [List.mem_singleton] at z; subst z; exact .inr hp
  · by_cases e : a = p
    · subst e; exact hp
    · rw [upd_ne e] at q; exact q
  · rw [← I.len]; simp
end
def evNew (C : Calls) (e : E) (s : En) : R Nat := bnd (ev C e s) fun w => bnd (opt (cellOf w)) fun c => newCell c
def tNew (K : PySem.W.Frag) (EX : Str → Hp → Prop) (C : Calls) (e : E) : TE := fun σ H Q => ∃ G ρ M s, SI K none G H ρ M ∧ EnvR K G ρ σ s ∧ Good K none EX G H ρ (evNew C e s M) (fun G _ ρ n v => RepW K G ρ (.loc n) v) Q
section
variable {X : Cx} {bl N : List Str} {sc : Scope} {n : Nat} {exA : Str → Option Addr} {EX : Str → Hp → Prop} {C : Calls}
theorem n_lst {es : List E} {p : Pos} (hl : es.length ≤ 1000) (hs : PA X (E.toL es) (tEvL X.K none EX C es)) : PE X (E.lst es p).toExpr (tNew X.K EX C (.lst es p)) := by
  simp only [E.toExpr]
  refine PE.weak (pe_lst hs) fun σ H Q ⟨G, ρ, M, s, I, e, g⟩ => ?_
  have g : Good X.K none EX G H ρ (bnd (bnd (evL C es s) fun ds => ret (Wv.val (.lst ds))) (fun w => bnd (opt (cellOf w)) fun c => newCell c) M) (fun G _ ρ n v => RepW X.K G ρ (.loc n) v) Q := by simpa only [evNew, ev] using g
  rw [bnd_assoc] at g
  have g0 : Good X.K none EX G H ρ (evL C es s M) (fun G _ _ ds vs => RepL X.K G ds vs ∧ ds.length ≤ 1000) (fun b H1 => ∃ G1 ρ1 M1 a, Step G H ρ G1 H1 ρ1 ∧ SI X.K none G1 H1 ρ1 M1 ∧ (RepL X.K G1 a b ∧ a.length ≤ 1000) ∧ Good X.K none EX G1 H1 ρ1 (newCell (.lst a) M1) (fun G _ ρ n v => RepW X.K G ρ (.loc n) v) Q) := good_bnd _ g
  refine ⟨G, ρ, M, s, I, e, ?_⟩
  cases h1 : evL C es s M with
  | exc c m => rw [h1] at g0; exact g0
  | no => rw [h1] at g0; exact g0
  | ok ds M1 =>
    rw [h1] at g0
    have hds := evL_len es s M M1 ds h1
    intro vs G' H' ρ' st I' r
    obtain ⟨G1, ρ1, M2, a, s1, I1, ⟨r1, r2⟩, g1⟩ := g0 vs G' H' ρ' st I' ⟨r, by omega⟩
    refine ⟨small_le (by rw [← r1.length]; exact r2), fun q hq => ?_⟩
    obtain ⟨I2, s2, w2⟩ := I1.newCell (c := .lst a) (o := .lst vs) hq ⟨I1.gnone hq, vs, upd_same, r1⟩
    exact g1 _ _ _ _ s2 I2 w2
theorem n_dic {p : Pos} : PE X (E.dic [] p).toExpr (tNew X.K EX C (.dic [] p)) := by
  simp only [E.toExpr, E.toKs, E.toVs]
  refine PE.weak pe_dnewK fun σ H Q ⟨G, ρ, M, s, I, e, g⟩ => ?_
  intro q hq
  obtain ⟨I2, s2, w2⟩ := I.newCell (c := .dict [] []) (o := .dK []) hq ⟨I.gnone hq, [], upd_same, rfl, rfl⟩
  exact g _ _ _ _ s2 I2 w2
theorem x_new (x : XOk bl N sc n exA EX X) (so : SOk X) {i : Nat} {y : Str} {px p : Pos} {e : E} (hi : N[i]? = some y) (hy : locB sc y = true) (hl : isLc e = false) (hf : freshE e = true) (he : PE X e.toExpr (tNew X.K EX C e)) : PS X (S.asg i y px e p true).toStmt (tEx X.K EX C (.asg i y px e p true)) := by
  simp only [S.toStmt]
  refine PS.weak (ps_set (by rw [x.hN]; exact x.nd) (by rw [x.hN]; exact hi) (loc_of x hy) he (swaps_no e hl _ _ _) (.inl (so.fn y))) fun D σ H ⟨G, ρ, M, s, I, en, g⟩ => ?_
  simp only [exec, if_pos hf] at g
  have g' : Good X.K none EX G H ρ (bnd (evNew C e s) (fun n => ret (Fl.nx (s.set i (some (.loc n))))) M) (RlF X.K) (QF D) := by
    unfold evNew
    simp only [bnd_assoc]
    exact g
  refine ⟨G, ρ, M, s, I, en, (good_bnd _ g').imp fun v H1 ⟨G1, ρ1, M1, w, s1, I1, r1, g1⟩ => ?_⟩
  exact good_ret (a := Fl.nx (s.set i (some (.loc w)))) g1 (b := .nx (σ.set i (some v))) (Step.refl _ _ _) I1 ((en.step s1).set i r1)
theorem x_fr (x : XOk bl N sc n exA EX X) (so : SOk X) {tg : Tgt} {it : I} {body : List S} {p : Pos} (htg : tg.okB N (locB sc) = true) (hit : PI X tg.toExpr it.toExpr (tEvI X.K none EX C it)) (hb : PSs X (S.toL body) (tExs X.K EX C body)) : PS X (S.fr tg it body p).toStmt (tEx X.K EX C (.fr tg it body p)) := by
  simp only [S.toStmt]
  have hg : PG X tg.toExpr (gTgt X.K tg) := by
    refine pg_tgt x.hN x.nd x.calm fun q hq => ?_
    have h1 := (Bool.and_eq_true _ _).mp (List.all_eq_true.mp htg q hq)
    exact ⟨of_decide_eq_true h1.1, loc_of x h1.2, .inl (so.fn _)⟩
  have hnS : ∀ z, foldedSetIterable it.toExpr X.env z = pure z := by
    intro z
    cases it with
    | seq e => simp only [I.toExpr]; exact noSet e _ _
    | rng es pf p => simp only [I.toExpr]; rfl
    | zip a b pf p => simp only [I.toExpr]; rfl
    | enu a pf p => simp only [I.toExpr]; rfl
  refine PS.weak (ps_for so.hp x.calm hit hg hb hnS) fun D σ H ⟨G, ρ, M, s, I, en, g⟩ => ?_
  simp only [exec] at g
  refine ⟨G, ρ, M, s, I, en, (good_bnd (fun G H ρ items J => ItOk X.K none G H ρ items J) g).imp fun J H1 ⟨G1, ρ1, M1, items, s1, I1, hit, g1⟩ => ?_⟩
  obtain ⟨Gc, Y, w, hgc, hy⟩ := hit
  refine for_it w (fun i σ' H' => ∃ G' ρ' M' s', Step G1 H1 ρ1 G' H' ρ' ∧ SI X.K none G' H' ρ' M' ∧ EnvR X.K G' ρ' σ' s' ∧ Good X.K none EX G' H' ρ' (forLoop (fun d s' => bnd (opt (tg.bind d s')) fun s'' => execs C body s'') (items.drop i) s' M') (RlF X.K) (QF D)) ?_ ?_ ?_ ?_
  · exact ⟨G1, ρ1, M1, s, Step.refl _ _ _, I1, en.step s1, g1⟩
  · rintro i σ' H' _ ⟨G', ρ', M', s', st, I', e', g'⟩
    exact hgc G' H' ρ' M' st I'
  · rintro i xv σ' H' H'' hi ⟨G', ρ', M', s', st, I', e', g'⟩ hY
    have hd : items[i]? = some items[i] := List.getElem?_eq_getElem hi
    rw [List.drop_eq_getElem_cons hi] at g'
    simp only [forLoop, bnd_assoc] at g'
    obtain ⟨s2, hs2, g2⟩ := good_opt g'
    obtain ⟨G'', st2, I2, r2⟩ := hy i _ hd G' H' ρ' M' xv H'' st I' hY
    refine tgt_ok I2 r2 (e'.step st2) hs2 fun σ3 e3 _ => ?_
    refine ⟨G'', ρ', M', s2, I2, e3, (good_bnd (RlF X.K) (Good.step st2 g2)).imp fun f H3 ⟨G3, ρ3, M3, fl, s3, I3, r3, g3⟩ => ?_⟩
    have stT := (st.trans st2).trans s3
    cases f with
    | nx σ4 => cases fl with
      | nx s4 => exact ⟨G3, ρ3, M3, s4, stT, I3, r3, g3⟩
      | _ => exact r3.elim
    | ct σ4 => cases fl with
      | ct s4 => exact ⟨G3, ρ3, M3, s4, stT, I3, r3, g3⟩
      | _ => exact r3.elim
    | bk σ4 => cases fl with
      | bk s4 => exact good_ret (a := Fl.nx s4) g3 (b := .nx σ4) (Step.refl _ _ _) I3 r3
      | _ => exact r3.elim
    | rt v => cases fl with
      | rt w => exact good_ret (a := Fl.rt w) g3 (b := .rt v) (Step.refl _ _ _) I3 r3
      | _ => exact r3.elim
  · rintro σ' H' ⟨G', ρ', M', s', st, I', e', g'⟩
    rw [List.drop_length] at g'
    exact good_ret (a := Fl.nx s') g' (b := .nx σ') (Step.refl _ _ _) I' e'
theorem x_whl (x : XOk bl N sc n exA EX X) (so : SOk X) {c : E} {body : List S} {p : Pos} (hc : PT X c.toExpr (tB (tEv X.K none EX C c))) (hb : PSs X (S.toL body) (tExs X.K EX C body)) : PS X (S.whl c body p).toStmt (tEx X.K EX C (.whl c body p)) := by
  simp only [S.toStmt]
  refine PS.weak (ps_while so.hp hc hb) fun D σ H ⟨G, ρ, M, s, I, en, g⟩ => ?_
  simp only [exec] at g
  refine ⟨fun m σ' H' => ∃ G' ρ' M' s', SI X.K none G' H' ρ' M' ∧ EnvR X.K G' ρ' σ' s' ∧ Good X.K none EX G' H' ρ' (wLoop (fun s' => bnd (ev C c s') fun w => tst w) (fun s' => execs C body s') m s' M') (RlF X.K) (QF D), ⟨fuelW, G, ρ, M, s, I, en, g⟩, ?_⟩
  rintro m σ' H' ⟨G', ρ', M', s', I', e', g'⟩
  cases m with
  | zero => exact (show False from g').elim
  | succ m =>
    simp only [wLoop, bnd_assoc] at g'
    refine ⟨G', ρ', M', s', I', e', (good_bnd _ g').imp fun v H1 ⟨G1, ρ1, M1, w, s1, I1, r1, g1⟩ => ?_⟩
    obtain ⟨t, rfl, g2⟩ := good_tst g1
    cases r1
    refine ⟨t, rfl, ?_⟩
    cases t with
    | false => exact good_ret (a := Fl.nx s') g2 (b := .nx σ') (Step.refl _ _ _) I1 (e'.step s1)
    | true =>
      refine ⟨fun σ2 H2 => ∃ G' ρ' M' s', SI X.K none G' H2 ρ' M' ∧ EnvR X.K G' ρ' σ2 s' ∧ Good X.K none EX G' H2 ρ' (wLoop (fun s' => bnd (ev C c s') fun w => tst w) (fun s' => execs C body s') m s' M') (RlF X.K) (QF D), fun σ2 H2 h => ⟨m, by omega, h⟩, ?_⟩
      refine ⟨G1, ρ1, M1, s', I1, e'.step s1, (good_bnd (RlF X.K) g2).imp fun f H3 ⟨G3, ρ3, M3, fl, s3, I3, r3, g3⟩ => ?_⟩
      cases f with
      | nx σ4 => cases fl with
        | nx s4 => exact ⟨G3, ρ3, M3, s4, I3, r3, g3⟩
        | _ => exact r3.elim
      | ct σ4 => cases fl with
        | ct s4 => exact ⟨G3, ρ3, M3, s4, I3, r3, g3⟩
        | _ => exact r3.elim
      | bk σ4 => cases fl with
        | bk s4 => exact good_ret (a := Fl.nx s4) g3 (b := .nx σ4) (Step.refl _ _ _) I3 r3
        | _ => exact r3.elim
      | rt v => cases fl with
        | rt w => exact good_ret (a := Fl.rt w) g3 (b := .rt v) (Step.refl _ _ _) I3 r3
        | _ => exact r3.elim
end
end G9

set_option Elab.async false
set_option linter.all false
set_option maxRecDepth 100000
set_option maxHeartbeats 1000000
namespace G9
open PySem PySem.Spec PyProof.Rows L2
/-! ### a, b = x, y -/
def swpB (sc : Scope) (x y : Str) (px py : Pos) (a b : E) : Bool := lclB sc x && lclB sc y && (py.line == px.line) && (x != y) && !([a.toExpr, b.toExpr].all (foldedForSure 8)) && !([a.toExpr, b.toExpr].all (constantsAlone 8))
theorem star_no (e : E) : ∀ v p, e.toExpr ≠ .Starred v p := by
  intro v p
  cases e <;> simp only [E.toExpr] <;> exact fun h => by cases h
theorem notB {b : Bool} (h : (!b) = true) : b = false := by cases b <;> first | rfl | cases h
section
variable {X : Cx} {bl N : List Str} {sc : Scope} {n : Nat} {exA : Str → Option Addr} {EX : Str → Hp → Prop} {C : Calls}
theorem lcl_of (x : XOk bl N sc n exA EX X) {y : Str} (h : lclB sc y = true) : X.env.scope.names.lookup y = some .local := by
  rw [x.sc]
  unfold lclB at h
  split at h
  · assumption
  · cases h
theorem swp_of (x : XOk bl N sc n exA EX X) (so : SOk X) {y z : Str} {py pz pt pt2 : Pos} {kt k2 : Nat} {a b : E} (h : swpB sc y z py pz a b = true) : swappedStores [.Tuple [.Name y py, .Name z pz] kt pt] (.Tuple [a.toExpr, b.toExpr] k2 pt2) X.env = pure (some [y, z]) := by
  unfold swpB at h
  simp only [Bool.and_eq_true] at h
  obtain ⟨⟨⟨⟨⟨h1, h2⟩, h3⟩, h4⟩, h5⟩, h6⟩ := h
  have k1 : X.env.kindOf y = some .local := lcl_of x h1
  have k2 : X.env.kindOf z = some .local := lcl_of x h2
  have kb : X.env.blockKind = .function := by unfold Env.blockKind; rw [so.kind]; rfl
  have h3' : pz.line = py.line := by simpa using h3
  have h4' : y ≠ z := by simpa using h4
  have h5' := notB h5
  have h6' := notB h6
  have s1 := star_no a
  have s2 := star_no b
  have ed : [y, z].eraseDups.length = 2 := by simp [List.eraseDups_cons, Ne.symm h4']
  unfold swappedStores
  simp only [List.length_cons, List.length_nil]
  have any0 : ∀ f : Expr → Bool, (∀ e : Expr, (∀ v p, e ≠ .Starred v p) → f e = false) → ([a.toExpr, b.toExpr].any f) = false := fun f hf => by
    rw [List.any_cons, List.any_cons, hf _ s1, hf _ s2]; rfl
  have fm : ∀ g : Expr → Option Str, g (.Name y py) = some y → g (.Name z pz) = some z → [Expr.Name y py, Expr.Name z pz].filterMap g = [y, z] := fun g g1 g2 => by
    simp [List.filterMap, g1, g2]
  rw [any0 _ (fun e he => by cases e <;> first | rfl | exact absurd rfl (he _ _))]
  rw [fm _ (by simp [k1, Expr.pos]) (by simp [k2, Expr.pos, h3'])]
  rw [kb, h5', h6', ed]
  rfl
/-- not swapped: a name that is no plain local -/
def nswB (sc : Scope) (x y : Str) : Bool := !(lclB sc x && lclB sc y)
theorem nsw_of (x : XOk bl N sc n exA EX X) {y z : Str} {py pz pt pt2 : Pos} {kt k2 : Nat} {a b : E} (h : nswB sc y z = true) : swappedStores [.Tuple [.Name y py, .Name z pz] kt pt] (.Tuple [a.toExpr, b.toExpr] k2 pt2) X.env = pure none := by
  have s1 := star_no a
  have s2 := star_no b
  have kk : ∀ v, lclB sc v = false → (X.env.kindOf v == some .local) = false := fun v hv => by
    have : X.env.kindOf v = sc.names.lookup v := by unfold Env.kindOf; rw [x.sc]
    rw [this]
    unfold lclB at hv
    split at hv
    · cases hv
    · rename_i h2
      cases e : sc.names.lookup v with
      | none => rfl
      | some k => cases k <;> first | rfl | exact absurd e h2
  unfold swappedStores
  simp only [List.length_cons, List.length_nil]
  have any0 : ∀ f : Expr → Bool, (∀ e : Expr, (∀ v p, e ≠ .Starred v p) → f e = false) → ([a.toExpr, b.toExpr].any f) = false := fun f hf => by
    rw [List.any_cons, List.any_cons, hf _ s1, hf _ s2]; rfl
  have fm : ∀ g : Expr → Option Str, (g (.Name y py) = none ∨ g (.Name z pz) = none) → (([Expr.Name y py, Expr.Name z pz].filterMap g).length != 0 + 1 + 1) = true := fun g hg => by
    rcases hg with hg | hg
    · cases e : g (.Name z pz) <;> simp [List.filterMap, hg, e]
    · cases e : g (.Name y py) <;> simp [List.filterMap, hg, e]
  rw [any0 _ (fun e he => by cases e <;> first | rfl | exact absurd rfl (he _ _))]
  have hor : lclB sc y = false ∨ lclB sc z = false := by
    have := notB h
    cases e1 : lclB sc y with
    | false => exact .inl rfl
    | true => rw [e1] at this; exact .inr (by simpa using this)
  rw [fm _ (by rcases hor with e | e
               · exact .inl (by simp [kk y e])
               · exact .inr (by simp [kk z e]))]
  cases X.env.blockKind <;> rfl
theorem good_w2 {K : PySem.W.Frag} {lk : Option Addr} {G H : Hp} {ρ : List Addr} {α' β' : Type} {Rl : Hp → Hp → List Addr → α' → β' → Prop} {Q : β' → Hp → Prop} {s : En} {M : List Cell} {a b : E} {f : Wv → Wv → R α'} (h : Good K lk EX G H ρ (bnd (ev C a s) (fun x => bnd (ev C b s) fun y => f x y) M) Rl Q) :
    Good K lk EX G H ρ (evW C [a, b] s M) (fun G _ ρ ws vs => Paired (RepW K G ρ) ws vs) (fun vs H1 => ∃ G1 ρ1 M1 x y v w, Step G H ρ G1 H1 ρ1 ∧ SI K lk G1 H1 ρ1 M1 ∧ vs = [v, w] ∧ RepW K G1 ρ1 x v ∧ RepW K G1 ρ1 y w ∧ Good K lk EX G1 H1 ρ1 (f x y M1) Rl Q) := by
  have e : bnd (ev C a s) (fun x => bnd (ev C b s) fun y => f x y) = bnd (evW C [a, b] s) fun ws => match ws with | [x, y] => f x y | _ => stuck := by
    funext m
    simp only [evW, bnd_assoc, bnd, ret]
    cases ev C a s m with
    | ok x m1 => simp only; cases ev C b s m1 <;> rfl
    | exc c m1 => rfl
    | no => rfl
  rw [e] at h
  refine (good_bnd (fun G _ ρ ws vs => Paired (RepW K G ρ) ws vs) h).imp fun vs H1 ⟨G1, ρ1, M1, ws, s1, I1, r1, g1⟩ => ?_
  cases r1 with
  | nil => exact (show False from g1).elim
  | cons r1 r2 =>
    cases r2 with
    | nil => exact (show False from g1).elim
    | cons r2 r3 =>
      cases r3 with
      | nil => exact ⟨G1, ρ1, M1, _, _, _, _, s1, I1, rfl, r1, r2, g1⟩
      | cons _ _ => exact (show False from g1).elim
theorem x_par (x : XOk bl N sc n exA EX X) (so : SOk X) {i j : Nat} {y z : Str} {py pz tp p2 p : Pos} {k k2 : Nat} {a b : E} (hi : N[i]? = some y) (hj : N[j]? = some z) (hij : i ≠ j) (hy : locB sc y = true) (hz : locB sc z = true) (hs : swpB sc y z py pz a b = true ∨ nswB sc y z = true)
    (ha : PE X a.toExpr (tEv X.K none EX C a)) (hb : PE X b.toExpr (tEv X.K none EX C b)) : PS X (S.par i y py j z pz k tp a b k2 p2 p).toStmt (tEx X.K EX C (.par i y py j z pz k tp a b k2 p2 p)) := by
  simp only [S.toStmt]
  have hab : PA X [a.toExpr, b.toExpr] (tEvW X.K none EX C [a, b]) := by
    have := w_cons ha (w_cons hb w_nil)
    simpa only [E.toL] using this
  have nd : X.N.Nodup := by rw [x.hN]; exact x.nd
  have hi' : X.N[i]? = some y := by rw [x.hN]; exact hi
  have hj' : X.N[j]? = some z := by rw [x.hN]; exact hj
  rcases hs with hs | hs
  · have hs' := hs
    unfold swpB at hs'
    simp only [Bool.and_eq_true] at hs'
    refine PS.weak (ps_par x.calm nd hi' hj' hij (lcl_of x hs'.1.1.1.1.1) (lcl_of x hs'.1.1.1.1.2) hab (swp_of x so hs)) fun D σ H ⟨G, ρ, M, s, I, en, g⟩ => ?_
    simp only [exec] at g
    refine ⟨G, ρ, M, s, I, en, (good_w2 g).imp fun vs H1 ⟨G1, ρ1, M1, u, w, v1, v2, s1, I1, e1, r1, r2, g1⟩ => ?_⟩
    subst e1
    exact ⟨v1, v2, rfl, good_ret (a := Fl.nx ((s.set i (some u)).set j (some w))) g1 (b := .nx ((σ.set i (some v1)).set j (some v2))) (Step.refl _ _ _) I1 (((en.step s1).set i r1).set j r2)⟩
  · refine PS.weak (ps_asg (pe_tup hab) (pg_tup x.calm (pgs_cons (pg_name nd hi' (loc_of x hy) (.inl (so.fn y))) (pgs_cons (pg_name nd hj' (loc_of x hz) (.inl (so.fn z))) pgs_nil))) rfl (nsw_of x hs) rfl) fun D σ H ⟨G, ρ, M, s, I, en, g⟩ => ?_
    simp only [exec] at g
    refine ⟨G, ρ, M, s, I, en, (good_w2 g).imp fun vs H1 ⟨G1, ρ1, M1, u, w, v1, v2, s1, I1, e1, r1, r2, g1⟩ => ?_⟩
    subst e1
    refine ⟨small_le (by simp), fun q hq => ?_⟩
    obtain ⟨I2, s2⟩ := I1.newH (u := .tup [v1, v2]) hq
    refine ⟨q, [v1, v2], rfl, .inl (.inl upd_same), rfl, v1, _, rfl, v2, _, rfl, rfl, ?_⟩
    exact good_ret (a := Fl.nx ((s.set i (some u)).set j (some w))) g1 (b := .nx ((σ.set i (some v1)).set j (some v2))) s2 I2 ((((en.step s1).step s2).set i (RepW.step s2 r1)).set j (RepW.step s2 r2))
/-! ### (a, b, ..) = x -/
def gTs : List (Nat × Str × Pos) → TGs
  | [] => gNil
  | (i, _, _) :: r => gCons (gName i) (gTs r)
theorem each_names (env : Env) : ∀ ts : List (Nat × Str × Pos), (assignEach (tNames ts) env).length = ts.length ∧ (assignEach (tNames ts) env).findIdx? (·.1) = none
  | [] => ⟨rfl, rfl⟩
  | (i, y, p) :: r => by
    obtain ⟨h1, h2⟩ := each_names env r
    have e : assignEach (tNames ((i, y, p) :: r)) env = (false, assign (.Name y p) env) :: assignEach (tNames r) env := rfl
    rw [e]
    exact ⟨by rw [List.length_cons, h1, List.length_cons], by rw [List.findIdx?_cons]; simp [h2]⟩
theorem pgs_names (x : XOk bl N sc n exA EX X) (so : SOk X) : ∀ ts : List (Nat × Str × Pos), (ts.all fun t => decide (N[t.1]? = some t.2.1) && locB sc t.2.1) = true → PGs X (tNames ts) (gTs ts)
  | [], _ => pgs_nil
  | (i, y, p) :: r, h => by
    rw [List.all_cons, Bool.and_eq_true, Bool.and_eq_true] at h
    exact pgs_cons (pg_name (by rw [x.hN]; exact x.nd) (by rw [x.hN]; exact of_decide_eq_true h.1.1) (loc_of x h.1.2) (.inl (so.fn y))) (pgs_names x so r h.2) rfl
theorem bind_ok {K : PySem.W.Frag} {G : Hp} {ρ : List Addr} {H : Hp} {Q : L2.St → Hp → Prop} : ∀ {ts : List (Nat × Str × Pos)} {ds : List D} {vs : List V} {s s' : En} {σ : L2.St}, bindAll ts ds s = some s' → RepL K G ds vs → EnvR K G ρ σ s → (∀ σ', EnvR K G ρ σ' s' → Q σ' H) → gTs ts vs σ H Q
  | [], [], vs, s, s', σ, h, r, e, q => by
    cases h
    exact ⟨r, q σ e⟩
  | (i, y, p) :: ts, d :: ds, vs, s, s', σ, h, r, e, q => by
    obtain ⟨v, r', rfl, h1, h2⟩ := r
    exact ⟨v, r', rfl, bind_ok (ts := ts) h h2 (e.set i (w := .val d) h1) q⟩
  | [], _ :: _, _, _, _, _, h, _, _, _ => by cases h
  | _ :: _, [], _, _, _, _, h, _, _, _ => by cases h
theorem bind_len : ∀ {ts : List (Nat × Str × Pos)} {ds : List D} {s s' : En}, bindAll ts ds s = some s' → ds.length = ts.length
  | [], [], _, _, _ => rfl
  | _ :: ts, _ :: ds, s, s', h => by rw [List.length_cons, List.length_cons, bind_len (ts := ts) (ds := ds) h]
  | [], _ :: _, _, _, h => by cases h
  | _ :: _, [], _, _, h => by cases h
theorem x_tasg (x : XOk bl N sc n exA EX X) (so : SOk X) {ts : List (Nat × Str × Pos)} {k : Nat} {tp p : Pos} {e : E} (ht : (ts.all fun t => decide (N[t.1]? = some t.2.1) && locB sc t.2.1) = true) (hl : isLc e = false) (hu : isTup e = false) (he : PE X e.toExpr (tEv X.K none EX C e)) : PS X (S.tasg ts k tp e p).toStmt (tEx X.K EX C (.tasg ts k tp e p)) := by
  simp only [S.toStmt]
  refine PS.weak (ps_asg he (pg_tup (n := ts.length) x.calm (pgs_names x so ts ht) (each_names _ _).1 (each_names _ _).2) (sole_no e hl _ _ _) (stores_no e hu _ _) rfl) fun D σ H ⟨G, ρ, M, s, I, en, g⟩ => ?_
  simp only [exec] at g
  refine ⟨G, ρ, M, s, I, en, (good_bnd _ g).imp fun v H1 ⟨G1, ρ1, M1, w, s1, I1, r1, g1⟩ => ?_⟩
  obtain ⟨d, G2, M2, s2, I2, r2, g2⟩ := good_vl I1 r1 g1
  obtain ⟨ds, hds, g3⟩ := good_opt g2
  obtain ⟨s', hs', g4⟩ := good_opt g3
  cases d with
  | tup xs =>
    cases hds
    obtain ⟨a, vs, rfl, q1, q2⟩ := r2
    refine ⟨a, vs, rfl, I2.sqt q1, by rw [← q2.length]; exact bind_len hs', ?_⟩
    exact bind_ok hs' q2 ((en.step s1).step s2) fun σ' e' => good_ret (a := Fl.nx s') g4 (b := .nx σ') (Step.refl _ _ _) I2 e'
  | _ => cases hds
/-! ### cells of dict(x), list(x) -/
theorem blt_newC {K : PySem.W.Frag} {lk : Option Addr} {G H : Hp} {ρ : List Addr} {M : List Cell} {Q : VK} (I : SI K lk G H ρ M) {f : Blt} (hf : f = .dict ∨ f = .list) {ds : List D} {vs : List V} {r : D} {c : Cell} (hd : Paired (ShR K G H) ds vs) (h : opBlt f ds = some r) (hc : cellOf (.val r) = some c)
    (q : ∀ p o, H p = none → CellOk K G (upd H p o) p c → Q (.ref p) (upd H p o)) : rBlt K f vs H Q := by
  have key : ∀ ks : List (Key × V), RepL K G ((ks.map (·.1)).map Dk) (ks.map fun kv => kV kv.1) := fun kvs => by
    induction kvs with
    | nil => exact rfl
    | cons a r ih => exact ⟨_, _, rfl, rep_key a.1, ih⟩
  cases hd with
  | nil => rcases hf with rfl | rfl <;> simp [opBlt] at h
  | cons hv ht =>
    rename_i d v dr vr
    cases ht with
    | cons _ _ => rcases hf with rfl | rfl <;> simp [opBlt] at h
    | nil =>
      rcases hf with rfl | rfl
      · cases d with
        | dict ks es =>
          simp only [opBlt, Option.some.injEq] at h
          subst h
          simp only [cellOf, Option.some.injEq] at hc
          subst hc
          obtain ⟨a, kvs, rfl, h1, e1, r1⟩ := hv
          exact .inl ⟨a, kvs, rfl, h1, fun p hp => q p (.dK kvs) hp ⟨I.gnone hp, kvs, upd_same, e1, r1⟩⟩
        | _ => simp [opBlt] at h
      · cases d with
        | lst xs =>
          simp only [opBlt, Option.some.injEq] at h
          subst h
          simp only [cellOf, Option.some.injEq] at hc
          subst hc
          obtain ⟨a, ws, rfl, h1, r1⟩ := hv
          exact .inl ⟨a, ws, rfl, .inl (SqL.of h1), fun p hp => q p (.lst ws) hp ⟨I.gnone hp, ws, upd_same, r1⟩⟩
        | tup xs =>
          simp only [opBlt, Option.some.injEq] at h
          subst h
          simp only [cellOf, Option.some.injEq] at hc
          subst hc
          obtain ⟨a, ws, rfl, h1, r1⟩ := hv
          exact .inl ⟨a, ws, rfl, .inr (I.sqt h1), fun p hp => q p (.lst ws) hp ⟨I.gnone hp, ws, upd_same, r1⟩⟩
        | dict ks es =>
          simp only [opBlt, Option.some.injEq] at h
          subst h
          simp only [cellOf, Option.some.injEq] at hc
          subst hc
          obtain ⟨a, kvs, rfl, h1, rfl, r1⟩ := hv
          exact .inr ⟨a, kvs, rfl, h1, fun p hp => q p (.lst (kvs.map fun kv => kV kv.1)) hp ⟨I.gnone hp, _, upd_same, key kvs⟩⟩
        | _ => simp [opBlt] at h
theorem dictp_new {K : PySem.W.Frag} {lk : Option Addr} {G H : Hp} {ρ : List Addr} {M : List Cell} {Q : VK} (I : SI K lk G H ρ M) {ps : List D} {kvs : List (Key × D)} {v : V} {c : Cell} (hv : Rep K G (.ptp ps) v) (e : pairsD ps = some kvs) (hc : cellOf (.val (dictD (mergeD [] kvs))) = some c)
    (q : ∀ p o, H p = none → CellOk K G (upd H p o) p c → Q (.ref p) (upd H p o)) : rBlt K .dict [v] H Q := by
  obtain ⟨a, ws, rfl, ⟨o, ho, h1⟩, r1⟩ := hv
  obtain ⟨ps, kv, rfl, p1, p2, p3⟩ := pairs_ok I e r1
  obtain ⟨m1, m2⟩ := merge_ok (acc := []) (av := []) p2 p3 rfl rfl
  have h2 : H a = some (.frz o (.tup (ps.map V.ref))) := by
    rcases I.sub a _ h1 with z | ⟨_, o', kvs', e', _⟩
    · exact z
    · cases e'
  simp only [dictD, cellOf, Option.some.injEq] at hc
  subst hc
  exact .inr ⟨a, ps, kv, rfl, ⟨o, ho, h2⟩, p1, fun p hp => q p _ hp ⟨I.gnone hp, _, upd_same, m1, m2⟩⟩
theorem n_blt (x : XOk bl N sc n exA EX X) {f : Blt} (hf : f = .dict ∨ f = .list) {pf : Pos} {e1 : E} {es : List E} {p : Pos} (hb : bltB bl sc f.name = true) (hs : PA X (E.toL (e1 :: es)) (tEvW X.K none EX C (e1 :: es))) : PE X (E.blt f pf (e1 :: es) p).toExpr (tNew X.K EX C (.blt f pf (e1 :: es) p)) := by
  obtain ⟨g1, g2, g3, g4⟩ := blt_of x hb
  have key : PE X (.Call (.Name f.name pf) (e1.toExpr :: E.toL es) [] p) (tCB (rBlt X.K f) (tEvW X.K none EX C (e1 :: es))) := by
    have hb := blt_boot f
    have hc := call_blt x.calm f
    simp only [E.toL] at hs
    have h1 := star_of e1 (E.toL es) X.env
    have h2 := star_any es X.env p
    rcases hf with rfl | rfl
    · exact pe_callTy hc g1 g3 hb hs g4 g2 h1 h2
    · exact pe_callTy hc g1 g3 hb hs g4 g2 h1 h2
  simp only [E.toExpr, E.toL]
  refine PE.weak key fun σ H Q ⟨G, ρ, M, s, I, e, g⟩ => ?_
  have g : Good X.K none EX G H ρ (bnd (evW C (e1 :: es) s) (fun ws => bnd (match plArg f ws with
    | some ps => val? ((pairsD ps).map fun kvs => dictD (mergeD [] kvs))
    | none => bnd (rdL ws) fun ds => val? (opBlt f ds)) fun w => bnd (opt (cellOf w)) fun c => newCell c) M) (fun G _ ρ n v => RepW X.K G ρ (.loc n) v) Q := by
    have e0 : evNew C (.blt f pf (e1 :: es) p) s = bnd (evW C (e1 :: es) s) (fun ws => bnd (match plArg f ws with
    | some ps => val? ((pairsD ps).map fun kvs => dictD (mergeD [] kvs))
    | none => bnd (rdL ws) fun ds => val? (opBlt f ds)) fun w => bnd (opt (cellOf w)) fun c => newCell c) := by
      unfold evNew
      simp only [ev, bnd_assoc] <;> rfl
    rw [← e0]
    exact g
  refine ⟨G, ρ, M, s, I, e, (good_bnd (fun G _ ρ ws vs => Paired (RepW X.K G ρ) ws vs) g).imp fun xs H1 ⟨G1, ρ1, M1, ws, s1, I1, r1, g1⟩ => ?_⟩
  have vbnd : ∀ {o : Option D} {k : Wv → G9.R Nat}, Good X.K none EX G1 H1 ρ1 (bnd (val? o) k M1) (fun G _ ρ n v => RepW X.K G ρ (.loc n) v) Q → ∃ d, o = some d ∧ Good X.K none EX G1 H1 ρ1 (k (.val d) M1) (fun G _ ρ n v => RepW X.K G ρ (.loc n) v) Q := fun {o k} h => by
    cases o with
    | none => exact (show False from h).elim
    | some d => exact ⟨d, rfl, h⟩
  cases hp : plArg f ws with
  | none =>
    rw [hp] at g1
    simp only [bnd_assoc] at g1
    obtain ⟨ds, hd, g2⟩ := good_rdL I1 r1 g1
    obtain ⟨r, hr, g3⟩ := vbnd g2
    obtain ⟨c, hc, g4⟩ := good_opt g3
    refine blt_newC I1 hf hd hr hc fun q o hq hk => ?_
    obtain ⟨I2, s2, w2⟩ := I1.newCell hq hk
    exact g4 _ _ _ _ s2 I2 w2
  | some ps =>
    rw [hp] at g1
    unfold plArg at hp
    split at hp
    · cases hp
      obtain ⟨r, hr, g3⟩ := vbnd g1
      simp only [Option.map_eq_some_iff] at hr
      obtain ⟨kvs, e5, rfl⟩ := hr
      obtain ⟨c, hc, g4⟩ := good_opt g3
      cases r1 with
      | cons rv rn =>
        cases rn
        refine dictp_new I1 rv e5 hc fun q o hq hk => ?_
        obtain ⟨I2, s2, w2⟩ := I1.newCell hq hk
        exact g4 _ _ _ _ s2 I2 w2
    · cases hp
end
end G9

set_option Elab.async false
set_option linter.all false
set_option maxRecDepth 100000
set_option maxHeartbeats 1000000
namespace G9
open PySem PySem.Spec PyProof.Rows L2
def okNew : E → Bool
  | .lst .. => true
  | .dic [] _ => true
  | .blt .dict _ (_ :: _) _ => true
  | .blt .list _ (_ :: _) _ => true
  | _ => false
mutual
def wfS (bl N : List Str) (sc : Scope) : S → Bool
  | .asg i x _ e _ false => decide (N[i]? = some x) && locB sc x && !isLc e && wfE bl N sc e
  | .asg i x _ e _ true => decide (N[i]? = some x) && locB sc x && okNew e && wfE bl N sc e
  | .par i x px j y py _ _ a b _ _ _ => decide (N[i]? = some x) && decide (N[j]? = some y) && (i != j) && locB sc x && locB sc y && (swpB sc x y px py a b || nswB sc x y) && wfE bl N sc a && wfE bl N sc b
  | .tasg ts _ _ e _ => (ts.all fun t => decide (N[t.1]? = some t.2.1) && locB sc t.2.1) && !isLc e && !isTup e && wfE bl N sc e
  | .setI o i e _ _ => !isLc e && wfE bl N sc o && wfE bl N sc i && wfE bl N sc e
  | .ex e _ => !isLc e && wfE bl N sc e
  | .iff c a b _ => wfE bl N sc c && wfSs bl N sc a && wfSs bl N sc b
  | .fr tg it body _ => tg.okB N (locB sc) && wfI bl N sc tg.isTwo it && wfSs bl N sc body
  | .whl c body _ => wfE bl N sc c && wfSs bl N sc body
  | .rt e _ => wfE bl N sc e
  | .pas _ => true
  | .brk _ => true
  | .cont _ => true
  | _ => false
def wfSs (bl N : List Str) (sc : Scope) : List S → Bool
  | [] => true
  | s :: r => wfS bl N sc s && wfSs bl N sc r
end
section
variable {X : Cx} {bl N : List Str} {sc : Scope} {n : Nat} {exA : Str → Option Addr} {EX : Str → Hp → Prop} {C : Calls}
mutual
theorem soundS (x : XOk bl N sc n exA EX X) (so : SOk X) (c : CallsOk X.prog X.w X.K X.mg X.base exA n none C) : ∀ st : S, wfS bl N sc st = true → PS X st.toStmt (tEx X.K EX C st)
  | .asg i y px e p false, h => by
    have h1 := and2 (by simpa only [wfS] using h)
    have h2 := and2 h1.1
    have h3 := and2 h2.1
    exact x_asg x so (of_decide_eq_true h3.1) h3.2 (notB h2.2) (soundE e sc X EX C none h1.2 x c).1
  | .asg i y px e p true, h => by
    have h1 := and2 (by simpa only [wfS] using h)
    have h2 := and2 h1.1
    have h3 := and2 h2.1
    cases e with
    | lst es q =>
      have k1 := and2 (by simpa only [wfE] using h1.2)
      exact x_new x so (of_decide_eq_true h3.1) h3.2 rfl rfl (n_lst (of_decide_eq_true k1.2) (all_L (soundL es sc X EX C none k1.1 x c)))
    | dic es q =>
      cases es with
      | nil => exact x_new x so (of_decide_eq_true h3.1) h3.2 rfl rfl n_dic
      | cons a b => cases h2.2
    | blt f pf es q =>
      have k1 := and2 (by simpa only [wfE] using h1.2)
      have k2 := and2 k1.1
      have ih := all_W (soundL es sc X EX C none k2.1 x c)
      cases es with
      | nil => cases k1.2
      | cons e es =>
        cases f with
        | dict => exact x_new x so (of_decide_eq_true h3.1) h3.2 rfl rfl (n_blt x (.inl rfl) k2.2 ih)
        | list => exact x_new x so (of_decide_eq_true h3.1) h3.2 rfl rfl (n_blt x (.inr rfl) k2.2 ih)
        | _ => cases h2.2
    | _ => cases h2.2
  | .setI o i e pt p, h => by
    have h1 := and2 (by simpa only [wfS] using h)
    have h2 := and2 h1.1
    have h3 := and2 h2.1
    exact x_setI x (notB h3.1) (soundE o sc X EX C none h3.2 x c).1 (soundE i sc X EX C none h2.2 x c).1 (soundE e sc X EX C none h1.2 x c).1
  | .ex e p, h => by
    have h1 := and2 (by simpa only [wfS] using h)
    exact x_ex (notB h1.1) (soundE e sc X EX C none h1.2 x c).1
  | .iff e a b p, h => by
    have h1 := and2 (by simpa only [wfS] using h)
    have h2 := and2 h1.1
    exact x_iff (soundE e sc X EX C none h2.1 x c).2 (soundSs x so c a h2.2) (soundSs x so c b h1.2)
  | .fr tg it body p, h => by
    have h1 := and2 (by simpa only [wfS] using h)
    have h2 := and2 h1.1
    exact x_fr x so h2.1 (soundI it sc X EX C none tg h2.2 x c) (soundSs x so c body h1.2)
  | .whl e body p, h => by
    have h1 := and2 (by simpa only [wfS] using h)
    exact x_whl x so (soundE e sc X EX C none h1.1 x c).2 (soundSs x so c body h1.2)
  | .rt e p, h => x_rt (soundE e sc X EX C none (by simpa only [wfS] using h) x c).1
  | .pas p, h => x_pas
  | .brk p, h => x_brk
  | .cont p, h => x_cont
  | .tasg ts k tp e p, h => by
    have h1 := and2 (by simpa only [wfS] using h)
    have h2 := and2 h1.1
    have h3 := and2 h2.1
    exact x_tasg x so h3.1 (notB h3.2) (notB h2.2) (soundE e sc X EX C none h1.2 x c).1
  | .par i y px j z py k tp a b k2 p2 p, h => by
    have h1 := and2 (by simpa only [wfS] using h)
    have h2 := and2 h1.1
    have h3 := and2 h2.1
    have h4 := and2 h3.1
    have h5 := and2 h4.1
    have h6 := and2 h5.1
    have h7 := and2 h6.1
    exact x_par x so (of_decide_eq_true h7.1) (of_decide_eq_true h7.2) (by simpa using h6.2) h5.2 h4.2 ((Bool.or_eq_true _ _).mp h3.2) (soundE a sc X EX C none h2.2 x c).1 (soundE b sc X EX C none h1.2 x c).1
  | .setL .., h => by simp [wfS] at h
theorem soundSs (x : XOk bl N sc n exA EX X) (so : SOk X) (c : CallsOk X.prog X.w X.K X.mg X.base exA n none C) : ∀ st : List S, wfSs bl N sc st = true → PSs X (S.toL st) (tExs X.K EX C st)
  | [], _ => ss_nil
  | s :: r, h => by
    have h1 := and2 (by simpa only [wfSs] using h)
    exact ss_cons (soundS x so c s h1.1) (soundSs x so c r h1.2)
end
end
/-! ### defs -/
section
variable {P : Program} {w : World} {K : PySem.W.Frag} {mg : Str → Option Value} {base : Heap}
/-- a def of the table stands in the program -/
structure DefOk (K : PySem.W.Frag) (mg : Str → Option Value) (bl : List Str) (f : Str) (d : Def) (a : Addr) (fd : FuncData) : Prop where
  ns : mg f = some (.ref a)
  bi : Binds K fd d.ps []
  fn : ∃ st, Fun K f f st a fd ∧ FnScope d.N d.ps (defScope st) ∧ defScope st = d.sc ∧ defBody st = S.toL d.body
  wf : wfSs bl d.N d.sc d.body = true
  le : d.ps.length ≤ d.N.length
structure TabOk (K : PySem.W.Frag) (mg : Str → Option Value) (bl : List Str) (exA : Str → Option Addr) (T TI : Str → Option Def) (gl : Str → Option D) : Prop where
  fn : ∀ f d, T f = some d → ∃ a fd, DefOk K mg bl f d a fd
  fnI : ∀ f d, TI f = some d → ∃ a fd, DefOk K mg bl f d a fd
  bl : ∀ x ∈ bl, mg x = none
  glo : ∀ x d, gl x = some d → ∃ v u, mg x = some u ∧ RelV v u ∧ ∀ G, Rep K G d v
  exc : ∀ c, ∃ a, exA c = some a
@[reducible] def mkC (T TI : Str → Option Def) (gl : Str → Option D) (n : Nat) : Calls := ⟨callP T TI gl n, false, gl, fun f => (T f).isSome, callI T TI gl n, fun f => (TI f).isSome⟩
theorem env_okW {K : PySem.W.Frag} {G : Hp} {ρ : List Addr} {N : List Str} {ws : List Wv} {vs : List V} (r : Paired (RepW K G ρ) ws vs) (h : ws.length ≤ N.length) : EnvR K G ρ (L2.start N vs) (ws.map some ++ List.replicate (N.length - ws.length) none) := by
  have hl := paired_len r
  refine ⟨?_, fun i w e => ?_⟩
  · simp [L2.start]
    omega
  · unfold get1 at e
    by_cases hi : i < ws.length
    · rw [List.getElem?_append_left (by simpa using hi), List.getElem?_map, List.getElem?_eq_getElem hi] at e
      simp at e
      subst e
      have get : ∀ {ws : List Wv} {vs : List V} (i : Nat) (hi : i < ws.length), Paired (RepW K G ρ) ws vs → ∃ v, vs[i]? = some v ∧ RepW K G ρ ws[i] v := by
        intro ws
        induction ws with
        | nil => intro vs i hi _; simp at hi
        | cons a r ih =>
          intro vs i hi p
          cases p with
          | cons h t =>
            cases i with
            | zero => exact ⟨_, rfl, h⟩
            | succ i => exact ih i (by simpa using hi) t
      obtain ⟨v, h1, h2⟩ := get i hi r
      refine ⟨v, ?_, h2⟩
      have hv : i < vs.length := by omega
      unfold L2.start
      rw [List.getElem?_append_left (by simpa using hv), List.getElem?_map, h1]
      rfl
    · rw [List.getElem?_append_right (by simpa using Nat.le_of_not_lt hi)] at e
      rw [List.getElem?_replicate] at e
      split at e <;> simp at e
theorem env_ok {G : Hp} {N : List Str} {ds : List D} {vs : List V} (r : RepL K G ds vs) (h : ds.length ≤ N.length) : EnvR K G [] (L2.start N vs) (ds.map (fun d => some (Wv.val d)) ++ List.replicate (N.length - ds.length) none) := by
  refine ⟨?_, fun i w e => ?_⟩
  · have := r.length
    simp [L2.start]
    omega
  · unfold get1 at e
    by_cases hi : i < ds.length
    · rw [List.getElem?_append_left (by simpa using hi), List.getElem?_map, List.getElem?_eq_getElem hi] at e
      simp at e
      subst e
      obtain ⟨v, h1, h2⟩ := r.get' (List.getElem?_eq_getElem hi)
      refine ⟨v, ?_, h2⟩
      have hv : i < vs.length := by rw [← r.length]; exact hi
      unfold L2.start
      rw [List.getElem?_append_left (by simpa using hv), List.getElem?_map, h1]
      rfl
    · rw [List.getElem?_append_right (by simpa using Nat.le_of_not_lt hi)] at e
      rw [List.getElem?_replicate] at e
      split at e <;> simp at e
theorem step_p {G H G' H' : Hp} {ρ' : List Addr} {M' : List Cell} (s : Step G H [] G' H' ρ') (I : SI K none G' H' ρ' M') : PStep G H G' H' :=
  ⟨s.g, fun a u h => (I.sub a u h).elim id (fun z => by cases z.1), fun a o h => s.h a o h (.inl (by simp)), fun a u h => (s.gn a u h).elim .inl fun z => z.elim .inr (fun z => by cases z)⟩
theorem fn_ok {bl : List Str} {exA : Str → Option Addr} {T TI : Str → Option Def} {gl : Str → Option D} (t : TabOk K mg bl exA T TI gl) :
    ∀ (n : Nat) (f : Str) (d : Def) (a : Addr) (fd : FuncData), DefOk K mg bl f d a fd → (T f = some d → FnOk P w K mg base (L2.CX P w) n a fd d.ps (spP K exA d.ps.length (callP T TI gl n f))) ∧ (TI f = some d → FnOk P w K mg base (L2.CX P w) n a fd d.ps (spI K exA d.ps.length (callI T TI gl n f)))
  | 0, f, d, a, fd, hd => by
    have no : ∀ vs H Q E, ¬ spP K exA d.ps.length (callP T TI gl 0 f) vs H Q E := fun vs H Q E h => by
      obtain ⟨_, G, ds, _, _, h⟩ := h
      exact h
    have no2 : ∀ vs H Q E, ¬ spI K exA d.ps.length (callI T TI gl 0 f) vs H Q E := fun vs H Q E h => by
      obtain ⟨_, G, ρ, M, ws, _, _, h⟩ := h
      exact h
    exact ⟨fun _ => ⟨fun vs H Q E h => absurd h (no vs H Q E), fun A outer s H args us vs Q E _ _ _ _ h => absurd h (no vs H Q E)⟩, fun _ => ⟨fun vs H Q E h => absurd h (no2 vs H Q E), fun A outer s H args us vs Q E _ _ _ _ h => absurd h (no2 vs H Q E)⟩⟩
  | n + 1, f, d, a, fd, hd => by
    obtain ⟨st, F, FS, hsc, hb⟩ := hd.fn
    have C0 : CallsOk P w K mg base exA n none (mkC T TI gl n) := by
      refine ⟨fun z => absurd rfl z, fun _ => rfl, fun g hg => ?_, t.glo, fun g es c e => t.exc c, fun z => absurd rfl z, fun g hg => ?_, fun g ws M c M' e => t.exc c⟩
      · cases e : T g with
        | none => simp [e] at hg
        | some d' =>
          obtain ⟨a', fd', hd'⟩ := t.fn g d' e
          obtain ⟨st', F', _⟩ := hd'.fn
          refine ⟨a', fd', d'.ps, hd'.ns, F'.kp, hd'.bi, (fn_ok t n g d' a' fd' hd').1 e, fun es he => ?_⟩
          cases n with
          | zero => exact absurd rfl he
          | succ m =>
            have he : callP T TI gl (m + 1) g es ≠ .no := he
            rw [callP_S e] at he
            simp only [runB] at he
            split at he
            · assumption
            · exact absurd rfl he
      · cases e : TI g with
        | none => simp [e] at hg
        | some d' =>
          obtain ⟨a', fd', hd'⟩ := t.fnI g d' e
          obtain ⟨st', F', _⟩ := hd'.fn
          refine ⟨a', fd', d'.ps, hd'.ns, F'.kp, hd'.bi, (fn_ok t n g d' a' fd' hd').2 e, fun ws M he => ?_⟩
          cases n with
          | zero => exact absurd rfl he
          | succ m =>
            have he : callI T TI gl (m + 1) g ws M ≠ .no := he
            rw [callI_S e] at he
            simp only [runI] at he
            split at he
            · assumption
            · exact absurd rfl he
    have x0 : ∀ (cdv : Value) (A : Around) (outer : List Env) (s : Shared) (H : Hp) (E : XK), Room n (A.deeper (envOfC f (defScope st) s.heap.objs.size a cdv)) → XOk bl d.N d.sc n exA (fun c H => ∃ a, exA c = some a ∧ E (.ref a) none H) (cxOf (L2.CX P w) P w K mg base d.N f (defScope st) a cdv A outer s H E) := by
      intro cdv A outer s H E hr
      refine ⟨rfl, FS.nd, hsc, rfl, ?_, t.bl, takes_mono (takes_of rfl rfl rfl rfl) fun cls dd σ H' ⟨c, a1, h1, h2, h3, a2, h4, h5⟩ => ?_⟩
      · exact hr
      · rw [h1] at h4; cases h4; subst h2 h3; exact h5
    have s0 : ∀ (cdv : Value) (A : Around) (outer : List Env) (s : Shared) (H : Hp) (E : XK), SOk (cxOf (L2.CX P w) P w K mg base d.N f (defScope st) a cdv A outer s H E) := fun cdv A outer s H E => ⟨passes_of rfl, fun _ => rfl, FS.kind⟩
    constructor
    · intro ht
      refine F.okX FS (fun vs H Q E h => h.1) fun cdv A outer s H vs Q E hr h => ?_
      obtain ⟨hl, G, ds, hsub, rds, hm⟩ := h
      have hdl : ds.length = d.ps.length := by rw [rds.length]; exact hl
      rw [hb]
      refine ⟨_, soundSs (x0 cdv A outer s H E hr) (s0 cdv A outer s H E) C0 d.body hd.wf, G, [], [], d.env ds, ⟨fun a u h => .inl (hsub a u h), by simp, rfl, fun n a c e => by simp at e⟩, env_ok rds (by rw [hdl]; exact hd.le), ?_⟩
      have hc : callP T TI gl (n + 1) f ds = flPO (G9.execs (mkC T TI gl n) d.body (d.env ds) []) := by
        rw [callP_S ht]
        simp only [runB, if_pos hdl]
      rw [hc] at hm
      show Good K none _ G H [] (G9.execs (mkC T TI gl n) d.body (d.env ds) []) (RlF K) _
      cases h1 : G9.execs (mkC T TI gl n) d.body (d.env ds) [] with
      | no => rw [h1] at hm; exact hm
      | exc c m =>
        rw [h1] at hm
        obtain ⟨a1, h2, h3⟩ := hm
        exact fun G' H' ρ' s I => ⟨a1, h2, h3 G' H' (step_p s I)⟩
      | ok fl m =>
        rw [h1] at hm
        intro b G' H' ρ' s I r
        cases fl with
        | nx s' =>
          cases b with
          | nx σ => exact hm .non G' H' (step_p s I) rfl
          | _ => exact r.elim
        | bk s' => exact hm.elim
        | ct s' => exact hm.elim
        | rt w' =>
          cases b with
          | rt v =>
            simp only [flPO] at hm
            cases h2 : vp w' m with
            | no => rw [h2] at hm; exact hm.elim
            | exc c m => rw [h2] at hm; exact hm.elim
            | ok d' m' =>
              rw [h2] at hm
              obtain ⟨G1, s1, I1, r1⟩ := vp_ok I r h2
              exact hm v G1 H' (step_p (s.trans s1) I1) r1
          | _ => exact r.elim
    · intro ht
      refine F.okX FS (fun vs H Q E h => h.1) fun cdv A outer s H vs Q E hr h => ?_
      obtain ⟨hl, G, ρ, M, ws, I0, rws, hm⟩ := h
      have hdl : ws.length = d.ps.length := by rw [paired_len rws]; exact hl
      rw [hb]
      refine ⟨_, soundSs (x0 cdv A outer s H E hr) (s0 cdv A outer s H E) C0 d.body hd.wf, G, ρ, M, d.envW ws, I0, env_okW rws (by rw [hdl]; exact hd.le), ?_⟩
      have hc : callI T TI gl (n + 1) f ws M = flW (G9.execs (mkC T TI gl n) d.body (d.envW ws) M) := by
        rw [callI_S ht]
        simp only [runI, if_pos hdl]
      rw [hc] at hm
      show Good K none _ G H ρ (G9.execs (mkC T TI gl n) d.body (d.envW ws) M) (RlF K) _
      cases h1 : G9.execs (mkC T TI gl n) d.body (d.envW ws) M with
      | no => rw [h1] at hm; exact hm
      | exc c m => rw [h1] at hm; exact hm
      | ok fl m =>
        rw [h1] at hm
        intro b G' H' ρ' s I r
        cases fl with
        | nx s' =>
          cases b with
          | nx σ => exact hm .non G' H' ρ' s I rfl
          | _ => exact r.elim
        | bk s' => exact hm.elim
        | ct s' => exact hm.elim
        | rt w' =>
          cases b with
          | rt v => exact hm v G' H' ρ' s I r
          | _ => exact r.elim
end
end G9

set_option Elab.async false
set_option linter.all false
set_option maxRecDepth 100000
set_option maxHeartbeats 1000000
namespace G9
open PySem PySem.Spec PyProof.Rows L2
theorem mem_lookup {β : Type} {f : Str} {d : β} : ∀ {l : List (Str × β)}, l.lookup f = some d → (f, d) ∈ l
  | [], h => by cases h
  | (g, e) :: r, h => by
    rw [List.lookup_cons] at h
    cases hb : f == g with
    | true =>
      rw [hb] at h
      have : f = g := eq_of_beq hb
      cases h
      subst this
      exact List.mem_cons_self
    | false =>
      rw [hb] at h
      exact List.mem_cons_of_mem _ (mem_lookup h)
theorem law_sp {K : PySem.W.Frag} {H : Hp} {a : Addr} {ns : List Int} {exA : Str → Option Addr} {m : List D → PO} (h : m [.scr ns] = .ok (.bl true)) (hS : SqL K H a (ns.map V.int)) : spP K exA 1 m [.ref a] H (fun v _ => v = .bl true) fun _ _ _ => False := by
  refine ⟨rfl, H, [.scr ns], fun _ _ z => z, ⟨.ref a, [], rfl, ⟨a, rfl, hS⟩, rfl⟩, ?_⟩
  rw [h]
  exact fun v G' H' _ r => r
theorem cx_no {P : Program} {w : World} {H : Hp} {s : Shared} {e : Value} {s' : Shared} (z : L2.CX P w [] H s (fun _ _ _ => False) e s') : False := by
  obtain ⟨_, _, _, _, _, _, _, _, _, _, _, _, z⟩ := z
  exact z
end G9

set_option Elab.async false
set_option linter.all false
set_option maxRecDepth 100000
set_option maxHeartbeats 4000000
namespace G9
open PySem L2 G9
theorem nr1 : nrm .non = .non := rfl
theorem nr2 (b : Bool) : nrm (.bl b) = .bl b := rfl
theorem nr3 (i : Int) : nrm (.int i) = .int i := rfl
theorem nr4 (x : Str) : nrm (.str x) = .str x := rfl
theorem nr5 (xs : List D) : nrm (.tup xs) = .tup xs := rfl
theorem nr6 (xs : List D) : nrm (.lst xs) = .lst xs := rfl
theorem nr7 (ks : List Key) (vs : List D) : nrm (.dict ks vs) = .dict ks vs := rfl
theorem nr8 (ns : List Int) : nrm (.scr ns) = .scr ns := rfl
theorem nr9 (xs : List D) : nrm (.ptp xs) = .tup xs := rfl
theorem cut1 (x : D) (xs : List D) : opSlc (.tup (x :: xs)) (some 1) none = some (.tup xs) := by
  simp only [opSlc, cutD, HT.sIx]
  simp
theorem cut01 (x : D) (xs : List D) : opSlc (.tup (x :: xs)) none (some 1) = some (.tup [x]) := by
  simp only [opSlc, cutD, HT.sIx]
  simp
theorem atN {α : Type} (xs : List α) (n : Nat) : atI xs (n : Int) = xs[n]? := by
  unfold atI ixN
  by_cases h : (n : Int) < xs.length
  · rw [if_pos (by omega), if_pos h]
    simp
  · rw [if_pos (by omega), if_neg h, List.getElem?_eq_none (by omega)]
    rfl
theorem at0 {α : Type} (xs : List α) : atI xs 0 = xs[0]? := atN xs 0
theorem at1 {α : Type} (xs : List α) : atI xs 1 = xs[1]? := atN xs 1
theorem at2 {α : Type} (xs : List α) : atI xs 2 = xs[2]? := atN xs 2
theorem at3 {α : Type} (xs : List α) : atI xs 3 = xs[3]? := atN xs 3
theorem eqDs (x y : Str) : eqD (.str x) (.str y) = some (decide (x = y)) := rfl
theorem eqDn (x y : Int) : eqD (.int x) (.int y) = some (decide (x = y)) := rfl
theorem eqDb (x y : Bool) : eqD (.bl x) (.bl y) = some (decide (x = y)) := rfl
theorem sz (n : Nat) (h : n ≤ 1000) : n ≤ sizeLine := by
  have : 1000 ≤ sizeLine := by decide
  omega
theorem sz1 : (1 ≤ sizeLine) = True := by simp [sz]
theorem sz2 : (2 ≤ sizeLine) = True := by simp [sz]
theorem sz3 : (3 ≤ sizeLine) = True := by simp [sz]
theorem sz4 : (4 ≤ sizeLine) = True := by simp [sz]
end G9
namespace G9
open PySem L2 G9
def frB (C : Calls) (tg : Tgt) (body : List S) (d : D) (s' : En) : R Fl := bnd (opt (tg.bind d s')) fun s'' => G9.execs C body s''
theorem exec_fr {C : Calls} {tg : Tgt} {it : I} {body : List S} {p : Pos} {s : En} : G9.exec C (.fr tg it body p) s = bnd (evIn C it s) fun items => forLoop (frB C tg body) items s := by
  simp only [G9.exec]
  rfl
theorem ev_lcB {C : Calls} {elt : E} {tg : Tgt} {it : I} {cond : Option E} {sc : Scope} {p : Pos} {s : En} : ev C (.lc elt tg it cond sc p) s = bnd (evI C it s) fun r => if r.2.length ≤ sizeLine then bnd (lcLoop (lcBody (if r.1 = true then C.locked else C) elt tg cond s) r.2) fun ds => G9.ret (.val (.lst ds)) else stuck := by
  simp only [ev]
  rfl
def bodyAt (b : List S) (i : Nat) : List S := match b[i]? with
  | some (.fr _ _ b _) => b
  | _ => []
def tgtAt (b : List S) (i : Nat) : Tgt := match b[i]? with
  | some (.fr tg _ _ _) => tg
  | _ => .one 0 "" ⟨0, 0, 0, 0⟩
theorem dict0 : dictD (mergeD [] []) = .dict [] [] := rfl
theorem lcLoop_none {f : D → R (Option D)} {M : List Cell} : ∀ {ds : List D}, (∀ d ∈ ds, f d M = .ok none M) → lcLoop f ds M = .ok [] M
  | [], _ => rfl
  | d :: ds, h => by
    simp only [lcLoop, bnd]
    rw [h d (by simp)]
    simp only
    rw [lcLoop_none fun d' h' => h d' (by simp [h'])]
    rfl
end G9

set_option Elab.async false
set_option linter.all false
set_option maxRecDepth 100000
set_option maxHeartbeats 4000000
namespace K13
open PySem L2 G9
def top (i : Nat) : Stmt := PySem.Challenge.pw_sortwell_k13_whole_settled_in_turn.main.body.getD i (.Pass ⟨0, 0, 0, 0⟩)
def b_settled_by : List S := [
  (.iff (.cmp (.idx (.var 0 "sort" ⟨3, 7, 3, 11⟩) (.con (.int 0) 0 ⟨3, 12, 3, 13⟩) ⟨3, 7, 3, 14⟩) .Eq (.con (.str "unknown") 0 ⟨3, 18, 3, 27⟩) ⟨3, 7, 3, 27⟩) [(.rt (.mth (.var 1 "places" ⟨4, 15, 4, 21⟩) .get ⟨4, 15, 4, 25⟩ [(.idx (.var 0 "sort" ⟨4, 26, 4, 30⟩) (.con (.int 1) 0 ⟨4, 31, 4, 32⟩) ⟨4, 26, 4, 33⟩), (.var 0 "sort" ⟨4, 35, 4, 39⟩)] ⟨4, 15, 4, 40⟩) ⟨4, 8, 4, 40⟩)] [] ⟨3, 4, 4, 40⟩)
  , (.rt (.bin (.tup [(.idx (.var 0 "sort" ⟨5, 12, 5, 16⟩) (.con (.int 0) 0 ⟨5, 17, 5, 18⟩) ⟨5, 12, 5, 19⟩)] 0 ⟨5, 11, 5, 21⟩) .Add (.blt .tuple ⟨5, 24, 5, 29⟩ [(.lc (.cal "settled_by" ⟨5, 31, 5, 41⟩ [(.var 2 "part" ⟨5, 42, 5, 46⟩), (.var 1 "places" ⟨5, 48, 5, 54⟩)] ⟨5, 31, 5, 55⟩) (.one 2 "part" ⟨5, 60, 5, 64⟩) (.seq (.slc (.var 0 "sort" ⟨5, 68, 5, 72⟩) (some (.con (.int 1) 0 ⟨5, 73, 5, 74⟩)) none ⟨5, 73, 5, 75⟩ ⟨5, 68, 5, 76⟩)) none { kind := .function, names := [(PySem.Str.ofString ".0", .local), (PySem.Str.ofString "part", .local), (PySem.Str.ofString "settled_by", .globalImplicit), (PySem.Str.ofString "places", .free)], isGenerator := false, isCoroutine := false, more := [] } ⟨5, 30, 5, 77⟩)] ⟨5, 24, 5, 78⟩) ⟨5, 11, 5, 78⟩) ⟨5, 4, 5, 78⟩)
  ]
def d_settled_by : Def := ⟨["sort", "places"], ["sort", "places", "part"], L2.defScope (top 1), b_settled_by⟩
def b_settled : List S := [
  (.rt (.cal "settled_by" ⟨7, 11, 7, 21⟩ [(.var 0 "sort" ⟨7, 22, 7, 26⟩), (.blt .dict ⟨7, 28, 7, 32⟩ [(.var 1 "settling" ⟨7, 33, 7, 41⟩)] ⟨7, 28, 7, 42⟩)] ⟨7, 11, 7, 43⟩) ⟨7, 4, 7, 43⟩)
  ]
def d_settled : Def := ⟨["sort", "settling"], ["sort", "settling"], L2.defScope (top 2), b_settled⟩
def b_unknowns_from : List S := [
  (.iff (.cmp (.idx (.var 0 "sort" ⟨9, 7, 9, 11⟩) (.con (.int 0) 0 ⟨9, 12, 9, 13⟩) ⟨9, 7, 9, 14⟩) .Eq (.con (.str "unknown") 0 ⟨9, 18, 9, 27⟩) ⟨9, 7, 9, 27⟩) [(.rt (.lst [(.idx (.var 0 "sort" ⟨10, 16, 10, 20⟩) (.con (.int 1) 0 ⟨10, 21, 10, 22⟩) ⟨10, 16, 10, 23⟩)] ⟨10, 15, 10, 24⟩) ⟨10, 8, 10, 24⟩)] [] ⟨9, 4, 10, 24⟩)
  , (.asg 1 "found" ⟨11, 4, 11, 9⟩ (.lst [] ⟨11, 12, 11, 14⟩) ⟨11, 4, 11, 14⟩ true)
  , (.fr (.one 2 "part" ⟨12, 8, 12, 12⟩) (.seq (.slc (.var 0 "sort" ⟨12, 16, 12, 20⟩) (some (.con (.int 1) 0 ⟨12, 21, 12, 22⟩)) none ⟨12, 21, 12, 23⟩ ⟨12, 16, 12, 24⟩)) [(.ex (.mth (.var 1 "found" ⟨13, 8, 13, 13⟩) .extend ⟨13, 8, 13, 20⟩ [(.cal "unknowns_from" ⟨13, 21, 13, 34⟩ [(.var 2 "part" ⟨13, 35, 13, 39⟩)] ⟨13, 21, 13, 40⟩)] ⟨13, 8, 13, 41⟩) ⟨13, 8, 13, 41⟩)] ⟨12, 4, 13, 41⟩)
  , (.rt (.var 1 "found" ⟨14, 11, 14, 16⟩) ⟨14, 4, 14, 16⟩)
  ]
def d_unknowns_from : Def := ⟨["sort"], ["sort", "found", "part"], L2.defScope (top 3), b_unknowns_from⟩
def b_unknowns : List S := [
  (.rt (.blt .tuple ⟨16, 11, 16, 16⟩ [(.sset (.cal "unknowns_from" ⟨16, 28, 16, 41⟩ [(.var 0 "sort" ⟨16, 42, 16, 46⟩)] ⟨16, 28, 16, 47⟩) ⟨16, 17, 16, 23⟩ ⟨16, 24, 16, 27⟩ ⟨16, 24, 16, 48⟩ ⟨16, 17, 16, 49⟩)] ⟨16, 11, 16, 50⟩) ⟨16, 4, 16, 50⟩)
  ]
def d_unknowns : Def := ⟨["sort"], ["sort"], L2.defScope (top 4), b_unknowns⟩
def b_counted : List S := [
  (.asg 1 "places" ⟨18, 4, 18, 10⟩ (.dic [] ⟨18, 13, 18, 15⟩) ⟨18, 4, 18, 15⟩ true)
  , (.fr (.one 2 "number" ⟨19, 8, 19, 14⟩) (.seq (.cal "unknowns_from" ⟨19, 18, 19, 31⟩ [(.var 0 "sort" ⟨19, 32, 19, 36⟩)] ⟨19, 18, 19, 37⟩)) [(.iff (.cmp (.var 2 "number" ⟨20, 11, 20, 17⟩) .NotIn (.var 1 "places" ⟨20, 25, 20, 31⟩) ⟨20, 11, 20, 31⟩) [(.setI (.var 1 "places" ⟨21, 12, 21, 18⟩) (.var 2 "number" ⟨21, 19, 21, 25⟩) (.tup [(.con (.str "unknown") 0 ⟨21, 30, 21, 39⟩), (.blt .len ⟨21, 41, 21, 44⟩ [(.var 1 "places" ⟨21, 45, 21, 51⟩)] ⟨21, 41, 21, 52⟩)] 0 ⟨21, 29, 21, 53⟩) ⟨21, 12, 21, 26⟩ ⟨21, 12, 21, 53⟩)] [] ⟨20, 8, 21, 53⟩)] ⟨19, 4, 21, 53⟩)
  , (.rt (.cal "settled_by" ⟨22, 11, 22, 21⟩ [(.var 0 "sort" ⟨22, 22, 22, 26⟩), (.var 1 "places" ⟨22, 28, 22, 34⟩)] ⟨22, 11, 22, 35⟩) ⟨22, 4, 22, 35⟩)
  ]
def d_counted : Def := ⟨["sort"], ["sort", "places", "number"], L2.defScope (top 5), b_counted⟩
def b_fit_from : List S := [
  (.iff (.cmp (.idx (.var 0 "general" ⟨24, 7, 24, 14⟩) (.con (.int 0) 0 ⟨24, 15, 24, 16⟩) ⟨24, 7, 24, 17⟩) .Eq (.con (.str "unknown") 0 ⟨24, 21, 24, 30⟩) ⟨24, 7, 24, 30⟩) [(.iff (.cmp (.idx (.var 0 "general" ⟨25, 11, 25, 18⟩) (.con (.int 1) 0 ⟨25, 19, 25, 20⟩) ⟨25, 11, 25, 21⟩) .NotIn (.var 2 "places" ⟨25, 29, 25, 35⟩) ⟨25, 11, 25, 35⟩) [(.setI (.var 2 "places" ⟨26, 12, 26, 18⟩) (.idx (.var 0 "general" ⟨26, 19, 26, 26⟩) (.con (.int 1) 0 ⟨26, 27, 26, 28⟩) ⟨26, 19, 26, 29⟩) (.var 1 "special" ⟨26, 33, 26, 40⟩) ⟨26, 12, 26, 30⟩ ⟨26, 12, 26, 40⟩)] [] ⟨25, 8, 26, 40⟩), (.rt (.cmp (.idx (.var 2 "places" ⟨27, 15, 27, 21⟩) (.idx (.var 0 "general" ⟨27, 22, 27, 29⟩) (.con (.int 1) 0 ⟨27, 30, 27, 31⟩) ⟨27, 22, 27, 32⟩) ⟨27, 15, 27, 33⟩) .Eq (.var 1 "special" ⟨27, 37, 27, 44⟩) ⟨27, 15, 27, 44⟩) ⟨27, 8, 27, 44⟩)] [] ⟨24, 4, 27, 44⟩)
  , (.iff (.cmp (.idx (.var 0 "general" ⟨28, 7, 28, 14⟩) (.con (.int 0) 0 ⟨28, 15, 28, 16⟩) ⟨28, 7, 28, 17⟩) .NotEq (.idx (.var 1 "special" ⟨28, 21, 28, 28⟩) (.con (.int 0) 0 ⟨28, 29, 28, 30⟩) ⟨28, 21, 28, 31⟩) ⟨28, 7, 28, 31⟩) [(.rt (.con (.bool false) 0 ⟨29, 15, 29, 20⟩) ⟨29, 8, 29, 20⟩)] [] ⟨28, 4, 29, 20⟩)
  , (.rt (.blt .all ⟨30, 11, 30, 14⟩ [(.lc (.cali "fit_from" ⟨30, 16, 30, 24⟩ [(.var 3 "one" ⟨30, 25, 30, 28⟩), (.var 4 "other" ⟨30, 30, 30, 35⟩), (.var 2 "places" ⟨30, 37, 30, 43⟩)] ⟨30, 16, 30, 44⟩) (.two 3 "one" ⟨30, 49, 30, 52⟩ 4 "other" ⟨30, 54, 30, 59⟩ 0 ⟨30, 49, 30, 59⟩) (.zip (.slc (.var 0 "general" ⟨30, 67, 30, 74⟩) (some (.con (.int 1) 0 ⟨30, 75, 30, 76⟩)) none ⟨30, 75, 30, 77⟩ ⟨30, 67, 30, 78⟩) (.slc (.var 1 "special" ⟨30, 80, 30, 87⟩) (some (.con (.int 1) 0 ⟨30, 88, 30, 89⟩)) none ⟨30, 88, 30, 90⟩ ⟨30, 80, 30, 91⟩) ⟨30, 63, 30, 66⟩ ⟨30, 63, 30, 92⟩) none { kind := .function, names := [(PySem.Str.ofString ".0", .local), (PySem.Str.ofString "one", .local), (PySem.Str.ofString "other", .local), (PySem.Str.ofString "fit_from", .globalImplicit), (PySem.Str.ofString "places", .free)], isGenerator := false, isCoroutine := false, more := [] } ⟨30, 15, 30, 93⟩)] ⟨30, 11, 30, 94⟩) ⟨30, 4, 30, 94⟩)
  ]
def d_fit_from : Def := ⟨["general", "special", "places"], ["general", "special", "places", "one", "other"], L2.defScope (top 6), b_fit_from⟩
def b_fits : List S := [
  (.asg 2 "places" ⟨32, 4, 32, 10⟩ (.dic [] ⟨32, 13, 32, 15⟩) ⟨32, 4, 32, 15⟩ true)
  , (.iff (.nt (.cali "fit_from" ⟨33, 11, 33, 19⟩ [(.var 0 "general" ⟨33, 20, 33, 27⟩), (.var 1 "special" ⟨33, 29, 33, 36⟩), (.var 2 "places" ⟨33, 38, 33, 44⟩)] ⟨33, 11, 33, 45⟩) ⟨33, 7, 33, 45⟩) [(.rt (.con (.none) 0 ⟨34, 15, 34, 19⟩) ⟨34, 8, 34, 19⟩)] [] ⟨33, 4, 34, 19⟩)
  , (.rt (.blt .tuple ⟨35, 11, 35, 16⟩ [(.lc (.tup [(.var 3 "number" ⟨35, 19, 35, 25⟩), (.idx (.var 2 "places" ⟨35, 27, 35, 33⟩) (.var 3 "number" ⟨35, 34, 35, 40⟩) ⟨35, 27, 35, 41⟩)] 0 ⟨35, 18, 35, 42⟩) (.one 3 "number" ⟨35, 47, 35, 53⟩) (.seq (.blt .sorted ⟨35, 57, 35, 63⟩ [(.var 2 "places" ⟨35, 64, 35, 70⟩)] ⟨35, 57, 35, 71⟩)) none { kind := .function, names := [(PySem.Str.ofString ".0", .local), (PySem.Str.ofString "number", .local), (PySem.Str.ofString "places", .free)], isGenerator := false, isCoroutine := false, more := [] } ⟨35, 17, 35, 72⟩)] ⟨35, 11, 35, 73⟩) ⟨35, 4, 35, 73⟩)
  ]
def d_fits : Def := ⟨["general", "special"], ["general", "special", "places", "number"], L2.defScope (top 7), b_fits⟩
def b__law_cell_at : List S := [
  (.iff (.cmp (.var 1 "_law_k" ⟨38, 7, 38, 13⟩) .Lt (.blt .len ⟨38, 16, 38, 19⟩ [(.var 0 "_law_script" ⟨38, 20, 38, 31⟩)] ⟨38, 16, 38, 32⟩) ⟨38, 7, 38, 32⟩) [(.rt (.idx (.var 0 "_law_script" ⟨39, 15, 39, 26⟩) (.var 1 "_law_k" ⟨39, 27, 39, 33⟩) ⟨39, 15, 39, 34⟩) ⟨39, 8, 39, 34⟩)] [] ⟨38, 4, 39, 34⟩)
  , (.rt (.con (.int 0) 0 ⟨40, 11, 40, 12⟩) ⟨40, 4, 40, 12⟩)
  ]
def d__law_cell_at : Def := ⟨["_law_script", "_law_k"], ["_law_script", "_law_k"], L2.defScope (top 9), b__law_cell_at⟩
def b__law_mixed : List S := [
  (.asg 2 "_law_drawn_here" ⟨42, 4, 42, 19⟩ (.bin (.bin (.bin (.bin (.cal "_law_cell_at" ⟨42, 23, 42, 35⟩ [(.var 0 "_law_script" ⟨42, 36, 42, 47⟩), (.var 1 "_law_k" ⟨42, 49, 42, 55⟩)] ⟨42, 23, 42, 56⟩) .Add (.bin (.con (.int 7919) 0 ⟨42, 59, 42, 63⟩) .Mult (.var 1 "_law_k" ⟨42, 66, 42, 72⟩) ⟨42, 59, 42, 72⟩) ⟨42, 23, 42, 72⟩) .Add (.con (.int 1) 0 ⟨42, 75, 42, 76⟩) ⟨42, 23, 42, 76⟩) .Mult (.con (.int 48271) 0 ⟨42, 80, 42, 85⟩) ⟨42, 22, 42, 85⟩) .Mod (.con (.int 2147483647) 0 ⟨42, 88, 42, 98⟩) ⟨42, 22, 42, 98⟩) ⟨42, 4, 42, 98⟩ false)
  , (.rt (.bin (.bin (.bin (.bin (.var 2 "_law_drawn_here" ⟨43, 12, 43, 27⟩) .Mult (.var 2 "_law_drawn_here" ⟨43, 30, 43, 45⟩) ⟨43, 12, 43, 45⟩) .Add (.bin (.con (.int 7) 0 ⟨43, 48, 43, 49⟩) .Mult (.var 2 "_law_drawn_here" ⟨43, 52, 43, 67⟩) ⟨43, 48, 43, 67⟩) ⟨43, 12, 43, 67⟩) .Add (.var 1 "_law_k" ⟨43, 70, 43, 76⟩) ⟨43, 12, 43, 76⟩) .Mod (.con (.int 2147483629) 0 ⟨43, 80, 43, 90⟩) ⟨43, 11, 43, 90⟩) ⟨43, 4, 43, 90⟩)
  ]
def d__law_mixed : Def := ⟨["_law_script", "_law_k"], ["_law_script", "_law_k", "_law_drawn_here"], L2.defScope (top 10), b__law_mixed⟩
def b__law_drawn : List S := [
  (.asg 2 "_law_drawn_here" ⟨45, 4, 45, 19⟩ (.bin (.bin (.bin (.bin (.var 0 "_law_number" ⟨45, 23, 45, 34⟩) .Add (.bin (.con (.int 104729) 0 ⟨45, 37, 45, 43⟩) .Mult (.var 1 "_law_k" ⟨45, 46, 45, 52⟩) ⟨45, 37, 45, 52⟩) ⟨45, 23, 45, 52⟩) .Add (.con (.int 17) 0 ⟨45, 55, 45, 57⟩) ⟨45, 23, 45, 57⟩) .Mult (.con (.int 69621) 0 ⟨45, 61, 45, 66⟩) ⟨45, 22, 45, 66⟩) .Mod (.con (.int 2147483647) 0 ⟨45, 69, 45, 79⟩) ⟨45, 22, 45, 79⟩) ⟨45, 4, 45, 79⟩ false)
  , (.rt (.bin (.bin (.bin (.bin (.var 2 "_law_drawn_here" ⟨46, 12, 46, 27⟩) .Mult (.var 2 "_law_drawn_here" ⟨46, 30, 46, 45⟩) ⟨46, 12, 46, 45⟩) .Add (.bin (.con (.int 3) 0 ⟨46, 48, 46, 49⟩) .Mult (.var 2 "_law_drawn_here" ⟨46, 52, 46, 67⟩) ⟨46, 48, 46, 67⟩) ⟨46, 12, 46, 67⟩) .Add (.var 1 "_law_k" ⟨46, 70, 46, 76⟩) ⟨46, 12, 46, 76⟩) .Mod (.con (.int 2147483629) 0 ⟨46, 80, 46, 90⟩) ⟨46, 11, 46, 90⟩) ⟨46, 4, 46, 90⟩)
  ]
def d__law_drawn : Def := ⟨["_law_number", "_law_k"], ["_law_number", "_law_k", "_law_drawn_here"], L2.defScope (top 11), b__law_drawn⟩
def b__law_sort : List S := [
  (.asg 3 "_law_kind" ⟨48, 4, 48, 13⟩ (.bin (.var 0 "_law_number" ⟨48, 16, 48, 27⟩) .Mod (.con (.int 8) 0 ⟨48, 30, 48, 31⟩) ⟨48, 16, 48, 31⟩) ⟨48, 4, 48, 31⟩ false)
  , (.iff (.bop .Or [(.cmp (.var 1 "_law_deep" ⟨49, 7, 49, 16⟩) .Eq (.con (.int 0) 0 ⟨49, 20, 49, 21⟩) ⟨49, 7, 49, 21⟩), (.cmp (.var 3 "_law_kind" ⟨49, 25, 49, 34⟩) .Lt (.con (.int 3) 0 ⟨49, 37, 49, 38⟩) ⟨49, 25, 49, 38⟩)] ⟨49, 7, 49, 38⟩) [(.iff (.cmp (.bin (.var 3 "_law_kind" ⟨50, 11, 50, 20⟩) .Mod (.con (.int 3) 0 ⟨50, 23, 50, 24⟩) ⟨50, 11, 50, 24⟩) .Lt (.var 2 "_law_wild" ⟨50, 27, 50, 36⟩) ⟨50, 11, 50, 36⟩) [(.rt (.tup [(.con (.str "unknown") 0 ⟨51, 20, 51, 29⟩), (.bin (.bin (.var 0 "_law_number" ⟨51, 31, 51, 42⟩) .FloorDiv (.con (.int 8) 0 ⟨51, 46, 51, 47⟩) ⟨51, 31, 51, 47⟩) .Mod (.con (.int 4) 0 ⟨51, 50, 51, 51⟩) ⟨51, 31, 51, 51⟩)] 0 ⟨51, 19, 51, 52⟩) ⟨51, 12, 51, 52⟩)] [] ⟨50, 8, 51, 52⟩), (.rt (.idx (.lst [(.tup [(.con (.str "number") 0 ⟨52, 17, 52, 25⟩)] 0 ⟨52, 16, 52, 27⟩), (.tup [(.con (.str "truth") 0 ⟨52, 30, 52, 37⟩)] 0 ⟨52, 29, 52, 39⟩)] ⟨52, 15, 52, 40⟩) (.bin (.bin (.var 0 "_law_number" ⟨52, 41, 52, 52⟩) .FloorDiv (.con (.int 8) 0 ⟨52, 56, 52, 57⟩) ⟨52, 41, 52, 57⟩) .Mod (.con (.int 2) 0 ⟨52, 60, 52, 61⟩) ⟨52, 41, 52, 61⟩) ⟨52, 15, 52, 62⟩) ⟨52, 8, 52, 62⟩)] [] ⟨49, 4, 52, 62⟩)
  , (.asg 4 "_law_one" ⟨53, 4, 53, 12⟩ (.cal "_law_sort" ⟨53, 15, 53, 24⟩ [(.cal "_law_drawn" ⟨53, 25, 53, 35⟩ [(.var 0 "_law_number" ⟨53, 36, 53, 47⟩), (.con (.int 1) 0 ⟨53, 49, 53, 50⟩)] ⟨53, 25, 53, 51⟩), (.bin (.var 1 "_law_deep" ⟨53, 53, 53, 62⟩) .Sub (.con (.int 1) 0 ⟨53, 65, 53, 66⟩) ⟨53, 53, 53, 66⟩), (.var 2 "_law_wild" ⟨53, 68, 53, 77⟩)] ⟨53, 15, 53, 78⟩) ⟨53, 4, 53, 78⟩ false)
  , (.iff (.cmp (.var 3 "_law_kind" ⟨54, 7, 54, 16⟩) .Eq (.con (.int 7) 0 ⟨54, 20, 54, 21⟩) ⟨54, 7, 54, 21⟩) [(.rt (.tup [(.con (.str "row") 0 ⟨55, 16, 55, 21⟩), (.var 4 "_law_one" ⟨55, 23, 55, 31⟩)] 0 ⟨55, 15, 55, 32⟩) ⟨55, 8, 55, 32⟩)] [] ⟨54, 4, 55, 32⟩)
  , (.rt (.tup [(.idx (.lst [(.con (.str "way") 0 ⟨56, 13, 56, 18⟩), (.con (.str "way") 0 ⟨56, 20, 56, 25⟩), (.con (.str "pair") 0 ⟨56, 27, 56, 33⟩), (.con (.str "pair") 0 ⟨56, 35, 56, 41⟩)] ⟨56, 12, 56, 42⟩) (.bin (.var 3 "_law_kind" ⟨56, 43, 56, 52⟩) .Sub (.con (.int 3) 0 ⟨56, 55, 56, 56⟩) ⟨56, 43, 56, 56⟩) ⟨56, 12, 56, 57⟩), (.var 4 "_law_one" ⟨56, 59, 56, 67⟩), (.cal "_law_sort" ⟨56, 69, 56, 78⟩ [(.cal "_law_drawn" ⟨56, 79, 56, 89⟩ [(.var 0 "_law_number" ⟨56, 90, 56, 101⟩), (.con (.int 2) 0 ⟨56, 103, 56, 104⟩)] ⟨56, 79, 56, 105⟩), (.bin (.var 1 "_law_deep" ⟨56, 107, 56, 116⟩) .Sub (.con (.int 1) 0 ⟨56, 119, 56, 120⟩) ⟨56, 107, 56, 120⟩), (.var 2 "_law_wild" ⟨56, 122, 56, 131⟩)] ⟨56, 69, 56, 132⟩)] 0 ⟨56, 11, 56, 133⟩) ⟨56, 4, 56, 133⟩)
  ]
def d__law_sort : Def := ⟨["_law_number", "_law_deep", "_law_wild"], ["_law_number", "_law_deep", "_law_wild", "_law_kind", "_law_one"], L2.defScope (top 12), b__law_sort⟩
def b__law_settling : List S := [
  (.asg 2 "_law_found" ⟨58, 4, 58, 14⟩ (.lst [] ⟨58, 17, 58, 19⟩) ⟨58, 4, 58, 19⟩ true)
  , (.fr (.one 3 "_law_k" ⟨59, 8, 59, 14⟩) (.rng [(.con (.int 5) 0 ⟨59, 24, 59, 25⟩)] ⟨59, 18, 59, 23⟩ ⟨59, 18, 59, 26⟩) [(.iff (.cmp (.bin (.cal "_law_drawn" ⟨60, 11, 60, 21⟩ [(.var 0 "_law_number" ⟨60, 22, 60, 33⟩), (.var 3 "_law_k" ⟨60, 35, 60, 41⟩)] ⟨60, 11, 60, 42⟩) .Mod (.con (.int 3) 0 ⟨60, 45, 60, 46⟩) ⟨60, 11, 60, 46⟩) .Gt (.con (.int 0) 0 ⟨60, 49, 60, 50⟩) ⟨60, 11, 60, 50⟩) [(.ex (.mth (.var 2 "_law_found" ⟨61, 12, 61, 22⟩) .append ⟨61, 12, 61, 29⟩ [(.tup [(.var 3 "_law_k" ⟨61, 31, 61, 37⟩), (.cal "_law_sort" ⟨61, 39, 61, 48⟩ [(.cal "_law_drawn" ⟨61, 49, 61, 59⟩ [(.var 0 "_law_number" ⟨61, 60, 61, 71⟩), (.bin (.con (.int 20) 0 ⟨61, 73, 61, 75⟩) .Add (.var 3 "_law_k" ⟨61, 78, 61, 84⟩) ⟨61, 73, 61, 84⟩)] ⟨61, 49, 61, 85⟩), (.var 1 "_law_deep" ⟨61, 87, 61, 96⟩), (.con (.int 1) 0 ⟨61, 98, 61, 99⟩)] ⟨61, 39, 61, 100⟩)] 0 ⟨61, 30, 61, 101⟩)] ⟨61, 12, 61, 102⟩) ⟨61, 12, 61, 102⟩)] [] ⟨60, 8, 61, 102⟩)] ⟨59, 4, 61, 102⟩)
  , (.rt (.blt .tuple ⟨62, 11, 62, 16⟩ [(.var 2 "_law_found" ⟨62, 17, 62, 27⟩)] ⟨62, 11, 62, 28⟩) ⟨62, 4, 62, 28⟩)
  ]
def d__law_settling : Def := ⟨["_law_number", "_law_deep"], ["_law_number", "_law_deep", "_law_found", "_law_k"], L2.defScope (top 13), b__law_settling⟩
def b__law_only : List S := [
  (.rt (.blt .tuple ⟨64, 11, 64, 16⟩ [(.lc (.var 2 "_law_pair" ⟨64, 18, 64, 27⟩) (.one 2 "_law_pair" ⟨64, 32, 64, 41⟩) (.seq (.var 0 "_law_settling_here" ⟨64, 45, 64, 63⟩)) (some (.cmp (.idx (.var 2 "_law_pair" ⟨64, 67, 64, 76⟩) (.con (.int 0) 0 ⟨64, 77, 64, 78⟩) ⟨64, 67, 64, 79⟩) .In (.var 1 "_law_some" ⟨64, 83, 64, 92⟩) ⟨64, 67, 64, 92⟩)) { kind := .function, names := [(PySem.Str.ofString ".0", .local), (PySem.Str.ofString "_law_pair", .local), (PySem.Str.ofString "_law_some", .free)], isGenerator := false, isCoroutine := false, more := [] } ⟨64, 17, 64, 93⟩)] ⟨64, 11, 64, 94⟩) ⟨64, 4, 64, 94⟩)
  ]
def d__law_only : Def := ⟨["_law_settling_here", "_law_some"], ["_law_settling_here", "_law_some", "_law_pair"], L2.defScope (top 14), b__law_only⟩
def b__law_counted_well : List S := [
  (.par 3 "_law_here" ⟨66, 4, 66, 13⟩ 4 "_law_mine" ⟨66, 15, 66, 24⟩ 0 ⟨66, 4, 66, 24⟩ (.cal "settled" ⟨66, 28, 66, 35⟩ [(.var 0 "_law_sort_here" ⟨66, 36, 66, 50⟩), (.var 2 "_law_first" ⟨66, 52, 66, 62⟩)] ⟨66, 28, 66, 63⟩) (.cal "unknowns" ⟨66, 65, 66, 73⟩ [(.var 0 "_law_sort_here" ⟨66, 74, 66, 88⟩)] ⟨66, 65, 66, 89⟩) 0 ⟨66, 27, 66, 90⟩ ⟨66, 4, 66, 90⟩)
  , (.asg 5 "_law_plain" ⟨67, 4, 67, 14⟩ (.cal "counted" ⟨67, 17, 67, 24⟩ [(.var 0 "_law_sort_here" ⟨67, 25, 67, 39⟩)] ⟨67, 17, 67, 40⟩) ⟨67, 4, 67, 40⟩ false)
  , (.iff (.bop .Or [(.cmp (.cal "counted" ⟨68, 7, 68, 14⟩ [(.var 5 "_law_plain" ⟨68, 15, 68, 25⟩)] ⟨68, 7, 68, 26⟩) .NotEq (.var 5 "_law_plain" ⟨68, 30, 68, 40⟩) ⟨68, 7, 68, 40⟩), (.cmp (.cal "fits" ⟨68, 44, 68, 48⟩ [(.var 5 "_law_plain" ⟨68, 49, 68, 59⟩), (.var 0 "_law_sort_here" ⟨68, 61, 68, 75⟩)] ⟨68, 44, 68, 76⟩) .Is (.con (.none) 0 ⟨68, 80, 68, 84⟩) ⟨68, 44, 68, 84⟩), (.cmp (.cal "fits" ⟨68, 88, 68, 92⟩ [(.var 0 "_law_sort_here" ⟨68, 93, 68, 107⟩), (.var 5 "_law_plain" ⟨68, 109, 68, 119⟩)] ⟨68, 88, 68, 120⟩) .Is (.con (.none) 0 ⟨68, 124, 68, 128⟩) ⟨68, 88, 68, 128⟩)] ⟨68, 7, 68, 128⟩) [(.rt (.con (.bool false) 0 ⟨69, 15, 69, 20⟩) ⟨69, 8, 69, 20⟩)] [] ⟨68, 4, 69, 20⟩)
  , (.iff (.bop .Or [(.cmp (.cal "unknowns" ⟨70, 7, 70, 15⟩ [(.var 5 "_law_plain" ⟨70, 16, 70, 26⟩)] ⟨70, 7, 70, 27⟩) .NotEq (.trg (.blt .len ⟨70, 43, 70, 46⟩ [(.var 4 "_law_mine" ⟨70, 47, 70, 56⟩)] ⟨70, 43, 70, 57⟩) ⟨70, 31, 70, 36⟩ ⟨70, 37, 70, 42⟩ ⟨70, 37, 70, 58⟩ ⟨70, 31, 70, 59⟩) ⟨70, 7, 70, 59⟩), (.cmp (.cmp (.var 4 "_law_mine" ⟨70, 64, 70, 73⟩) .Eq (.tup [] 0 ⟨70, 77, 70, 79⟩) ⟨70, 64, 70, 79⟩) .NotEq (.bop .And [(.cmp (.var 5 "_law_plain" ⟨70, 85, 70, 95⟩) .Eq (.var 0 "_law_sort_here" ⟨70, 99, 70, 113⟩) ⟨70, 85, 70, 113⟩), (.cmp (.var 4 "_law_mine" ⟨70, 118, 70, 127⟩) .Eq (.tup [] 0 ⟨70, 131, 70, 133⟩) ⟨70, 118, 70, 133⟩)] ⟨70, 85, 70, 133⟩) ⟨70, 63, 70, 134⟩)] ⟨70, 7, 70, 134⟩) [(.rt (.con (.bool false) 0 ⟨71, 15, 71, 20⟩) ⟨71, 8, 71, 20⟩)] [] ⟨70, 4, 71, 20⟩)
  , (.asg 6 "_law_near" ⟨72, 4, 72, 13⟩ (.cal "fits" ⟨72, 16, 72, 20⟩ [(.var 0 "_law_sort_here" ⟨72, 21, 72, 35⟩), (.var 1 "_law_other" ⟨72, 37, 72, 47⟩)] ⟨72, 16, 72, 48⟩) ⟨72, 4, 72, 48⟩ false)
  , (.iff (.bop .And [(.cmp (.var 6 "_law_near" ⟨73, 7, 73, 16⟩) .IsNot (.con (.none) 0 ⟨73, 24, 73, 28⟩) ⟨73, 7, 73, 28⟩), (.cmp (.cal "settled" ⟨73, 33, 73, 40⟩ [(.var 0 "_law_sort_here" ⟨73, 41, 73, 55⟩), (.var 6 "_law_near" ⟨73, 57, 73, 66⟩)] ⟨73, 33, 73, 67⟩) .NotEq (.var 1 "_law_other" ⟨73, 71, 73, 81⟩) ⟨73, 33, 73, 81⟩)] ⟨73, 7, 73, 81⟩) [(.rt (.con (.bool false) 0 ⟨74, 15, 74, 20⟩) ⟨74, 8, 74, 20⟩)] [] ⟨73, 4, 74, 20⟩)
  , (.iff (.bop .And [(.cmp (.var 6 "_law_near" ⟨75, 7, 75, 16⟩) .IsNot (.con (.none) 0 ⟨75, 24, 75, 28⟩) ⟨75, 7, 75, 28⟩), (.cmp (.cal "fits" ⟨75, 33, 75, 37⟩ [(.var 1 "_law_other" ⟨75, 38, 75, 48⟩), (.var 0 "_law_sort_here" ⟨75, 50, 75, 64⟩)] ⟨75, 33, 75, 65⟩) .IsNot (.con (.none) 0 ⟨75, 73, 75, 77⟩) ⟨75, 33, 75, 77⟩), (.cmp (.cal "counted" ⟨75, 83, 75, 90⟩ [(.var 0 "_law_sort_here" ⟨75, 91, 75, 105⟩)] ⟨75, 83, 75, 106⟩) .NotEq (.cal "counted" ⟨75, 110, 75, 117⟩ [(.var 1 "_law_other" ⟨75, 118, 75, 128⟩)] ⟨75, 110, 75, 129⟩) ⟨75, 83, 75, 129⟩)] ⟨75, 7, 75, 130⟩) [(.rt (.con (.bool false) 0 ⟨76, 15, 76, 20⟩) ⟨76, 8, 76, 20⟩)] [] ⟨75, 4, 76, 20⟩)
  , (.iff (.cmp (.cal "settled" ⟨77, 7, 77, 14⟩ [(.tup [(.con (.str "pair") 0 ⟨77, 16, 77, 22⟩), (.var 0 "_law_sort_here" ⟨77, 24, 77, 38⟩), (.var 1 "_law_other" ⟨77, 40, 77, 50⟩)] 0 ⟨77, 15, 77, 51⟩), (.var 2 "_law_first" ⟨77, 53, 77, 63⟩)] ⟨77, 7, 77, 64⟩) .NotEq (.tup [(.con (.str "pair") 0 ⟨77, 69, 77, 75⟩), (.var 3 "_law_here" ⟨77, 77, 77, 86⟩), (.cal "settled" ⟨77, 88, 77, 95⟩ [(.var 1 "_law_other" ⟨77, 96, 77, 106⟩), (.var 2 "_law_first" ⟨77, 108, 77, 118⟩)] ⟨77, 88, 77, 119⟩)] 0 ⟨77, 68, 77, 120⟩) ⟨77, 7, 77, 120⟩) [(.rt (.con (.bool false) 0 ⟨78, 15, 78, 20⟩) ⟨78, 8, 78, 20⟩)] [] ⟨77, 4, 78, 20⟩)
  , (.rt (.cmp (.cal "unknowns" ⟨79, 11, 79, 19⟩ [(.tup [(.con (.str "way") 0 ⟨79, 21, 79, 26⟩), (.var 0 "_law_sort_here" ⟨79, 28, 79, 42⟩), (.var 1 "_law_other" ⟨79, 44, 79, 54⟩)] 0 ⟨79, 20, 79, 55⟩)] ⟨79, 11, 79, 56⟩) .Eq (.blt .tuple ⟨79, 60, 79, 65⟩ [(.sset (.bin (.var 4 "_law_mine" ⟨79, 77, 79, 86⟩) .Add (.cal "unknowns" ⟨79, 89, 79, 97⟩ [(.var 1 "_law_other" ⟨79, 98, 79, 108⟩)] ⟨79, 89, 79, 109⟩) ⟨79, 77, 79, 109⟩) ⟨79, 66, 79, 72⟩ ⟨79, 73, 79, 76⟩ ⟨79, 73, 79, 110⟩ ⟨79, 66, 79, 111⟩)] ⟨79, 60, 79, 112⟩) ⟨79, 11, 79, 112⟩) ⟨79, 4, 79, 112⟩)
  ]
def d__law_counted_well : Def := ⟨["_law_sort_here", "_law_other", "_law_first"], ["_law_sort_here", "_law_other", "_law_first", "_law_here", "_law_mine", "_law_plain", "_law_near"], L2.defScope (top 15), b__law_counted_well⟩
def b_law : List S := [
  (.par 1 "_law_sort_here" ⟨81, 4, 81, 18⟩ 2 "_law_other" ⟨81, 20, 81, 30⟩ 0 ⟨81, 4, 81, 30⟩ (.cal "_law_sort" ⟨81, 34, 81, 43⟩ [(.cal "_law_mixed" ⟨81, 44, 81, 54⟩ [(.var 0 "_law_script" ⟨81, 55, 81, 66⟩), (.con (.int 0) 0 ⟨81, 68, 81, 69⟩)] ⟨81, 44, 81, 70⟩), (.con (.int 3) 0 ⟨81, 72, 81, 73⟩), (.con (.int 2) 0 ⟨81, 75, 81, 76⟩)] ⟨81, 34, 81, 77⟩) (.cal "_law_sort" ⟨81, 79, 81, 88⟩ [(.cal "_law_mixed" ⟨81, 89, 81, 99⟩ [(.var 0 "_law_script" ⟨81, 100, 81, 111⟩), (.con (.int 1) 0 ⟨81, 113, 81, 114⟩)] ⟨81, 89, 81, 115⟩), (.con (.int 3) 0 ⟨81, 117, 81, 118⟩), (.con (.int 2) 0 ⟨81, 120, 81, 121⟩)] ⟨81, 79, 81, 122⟩) 0 ⟨81, 33, 81, 123⟩ ⟨81, 4, 81, 123⟩)
  , (.par 3 "_law_first" ⟨82, 4, 82, 14⟩ 4 "_law_last" ⟨82, 16, 82, 25⟩ 0 ⟨82, 4, 82, 25⟩ (.cal "_law_settling" ⟨82, 29, 82, 42⟩ [(.cal "_law_mixed" ⟨82, 43, 82, 53⟩ [(.var 0 "_law_script" ⟨82, 54, 82, 65⟩), (.con (.int 2) 0 ⟨82, 67, 82, 68⟩)] ⟨82, 43, 82, 69⟩), (.con (.int 2) 0 ⟨82, 71, 82, 72⟩)] ⟨82, 29, 82, 73⟩) (.cal "_law_settling" ⟨82, 75, 82, 88⟩ [(.cal "_law_mixed" ⟨82, 89, 82, 99⟩ [(.var 0 "_law_script" ⟨82, 100, 82, 111⟩), (.con (.int 3) 0 ⟨82, 113, 82, 114⟩)] ⟨82, 89, 82, 115⟩), (.con (.int 2) 0 ⟨82, 117, 82, 118⟩)] ⟨82, 75, 82, 119⟩) 0 ⟨82, 28, 82, 120⟩ ⟨82, 4, 82, 120⟩)
  , (.asg 5 "_law_here" ⟨83, 4, 83, 13⟩ (.cal "settled" ⟨83, 16, 83, 23⟩ [(.var 1 "_law_sort_here" ⟨83, 24, 83, 38⟩), (.var 3 "_law_first" ⟨83, 40, 83, 50⟩)] ⟨83, 16, 83, 51⟩) ⟨83, 4, 83, 51⟩ false)
  , (.asg 6 "_law_both_of" ⟨84, 4, 84, 16⟩ (.blt .dict ⟨84, 19, 84, 23⟩ [(.var 4 "_law_last" ⟨84, 24, 84, 33⟩)] ⟨84, 19, 84, 34⟩) ⟨84, 4, 84, 34⟩ true)
  , (.fr (.two 7 "_law_k" ⟨85, 8, 85, 14⟩ 8 "_law_part" ⟨85, 16, 85, 25⟩ 0 ⟨85, 8, 85, 25⟩) (.seq (.var 3 "_law_first" ⟨85, 29, 85, 39⟩)) [(.setI (.var 6 "_law_both_of" ⟨86, 8, 86, 20⟩) (.var 7 "_law_k" ⟨86, 21, 86, 27⟩) (.cal "settled" ⟨86, 31, 86, 38⟩ [(.var 8 "_law_part" ⟨86, 39, 86, 48⟩), (.var 4 "_law_last" ⟨86, 50, 86, 59⟩)] ⟨86, 31, 86, 60⟩) ⟨86, 8, 86, 28⟩ ⟨86, 8, 86, 60⟩)] ⟨85, 4, 86, 60⟩)
  , (.asg 9 "_law_whole" ⟨87, 4, 87, 14⟩ (.blt .tuple ⟨87, 17, 87, 22⟩ [(.lc (.tup [(.var 7 "_law_k" ⟨87, 25, 87, 31⟩), (.idx (.var 6 "_law_both_of" ⟨87, 33, 87, 45⟩) (.var 7 "_law_k" ⟨87, 46, 87, 52⟩) ⟨87, 33, 87, 53⟩)] 0 ⟨87, 24, 87, 54⟩) (.one 7 "_law_k" ⟨87, 59, 87, 65⟩) (.seq (.blt .sorted ⟨87, 69, 87, 75⟩ [(.var 6 "_law_both_of" ⟨87, 76, 87, 88⟩)] ⟨87, 69, 87, 89⟩)) none { kind := .function, names := [(PySem.Str.ofString ".0", .local), (PySem.Str.ofString "_law_k", .local), (PySem.Str.ofString "_law_both_of", .free)], isGenerator := false, isCoroutine := false, more := [] } ⟨87, 23, 87, 90⟩)] ⟨87, 17, 87, 91⟩) ⟨87, 4, 87, 91⟩ false)
  , (.iff (.bop .Or [(.cmp (.cal "settled" ⟨88, 7, 88, 14⟩ [(.var 5 "_law_here" ⟨88, 15, 88, 24⟩), (.var 4 "_law_last" ⟨88, 26, 88, 35⟩)] ⟨88, 7, 88, 36⟩) .NotEq (.cal "settled" ⟨88, 40, 88, 47⟩ [(.var 1 "_law_sort_here" ⟨88, 48, 88, 62⟩), (.var 9 "_law_whole" ⟨88, 64, 88, 74⟩)] ⟨88, 40, 88, 75⟩) ⟨88, 7, 88, 75⟩), (.cmp (.cal "settled" ⟨88, 79, 88, 86⟩ [(.var 1 "_law_sort_here" ⟨88, 87, 88, 101⟩), (.tup [] 0 ⟨88, 103, 88, 105⟩)] ⟨88, 79, 88, 106⟩) .NotEq (.var 1 "_law_sort_here" ⟨88, 110, 88, 124⟩) ⟨88, 79, 88, 124⟩)] ⟨88, 7, 88, 124⟩) [(.rt (.con (.bool false) 0 ⟨89, 15, 89, 20⟩) ⟨89, 8, 89, 20⟩)] [] ⟨88, 4, 89, 20⟩)
  , (.asg 10 "_law_mine" ⟨90, 4, 90, 13⟩ (.cal "unknowns" ⟨90, 16, 90, 24⟩ [(.var 1 "_law_sort_here" ⟨90, 25, 90, 39⟩)] ⟨90, 16, 90, 40⟩) ⟨90, 4, 90, 40⟩ false)
  , (.iff (.bop .Or [(.cmp (.blt .list ⟨91, 7, 91, 11⟩ [(.var 10 "_law_mine" ⟨91, 12, 91, 21⟩)] ⟨91, 7, 91, 22⟩) .NotEq (.sset (.var 10 "_law_mine" ⟨91, 37, 91, 46⟩) ⟨91, 26, 91, 32⟩ ⟨91, 33, 91, 36⟩ ⟨91, 33, 91, 47⟩ ⟨91, 26, 91, 48⟩) ⟨91, 7, 91, 48⟩), (.cmp (.cal "fits" ⟨91, 52, 91, 56⟩ [(.var 1 "_law_sort_here" ⟨91, 57, 91, 71⟩), (.var 1 "_law_sort_here" ⟨91, 73, 91, 87⟩)] ⟨91, 52, 91, 88⟩) .NotEq (.blt .tuple ⟨91, 92, 91, 97⟩ [(.lc (.tup [(.var 7 "_law_k" ⟨91, 100, 91, 106⟩), (.tup [(.con (.str "unknown") 0 ⟨91, 109, 91, 118⟩), (.var 7 "_law_k" ⟨91, 120, 91, 126⟩)] 0 ⟨91, 108, 91, 127⟩)] 0 ⟨91, 99, 91, 128⟩) (.one 7 "_law_k" ⟨91, 133, 91, 139⟩) (.seq (.var 10 "_law_mine" ⟨91, 143, 91, 152⟩)) none { kind := .function, names := [(PySem.Str.ofString ".0", .local), (PySem.Str.ofString "_law_k", .local)], isGenerator := false, isCoroutine := false, more := [] } ⟨91, 98, 91, 153⟩)] ⟨91, 92, 91, 154⟩) ⟨91, 52, 91, 154⟩)] ⟨91, 7, 91, 154⟩) [(.rt (.con (.bool false) 0 ⟨92, 15, 92, 20⟩) ⟨92, 8, 92, 20⟩)] [] ⟨91, 4, 92, 20⟩)
  , (.asg 11 "_law_told" ⟨93, 4, 93, 13⟩ (.cal "fits" ⟨93, 16, 93, 20⟩ [(.var 1 "_law_sort_here" ⟨93, 21, 93, 35⟩), (.var 5 "_law_here" ⟨93, 37, 93, 46⟩)] ⟨93, 16, 93, 47⟩) ⟨93, 4, 93, 47⟩ false)
  , (.iff (.bop .Or [(.cmp (.var 11 "_law_told" ⟨94, 7, 94, 16⟩) .Is (.con (.none) 0 ⟨94, 20, 94, 24⟩) ⟨94, 7, 94, 24⟩), (.cmp (.lc (.var 7 "_law_k" ⟨94, 29, 94, 35⟩) (.two 7 "_law_k" ⟨94, 40, 94, 46⟩ 8 "_law_part" ⟨94, 48, 94, 57⟩ 0 ⟨94, 40, 94, 57⟩) (.seq (.var 11 "_law_told" ⟨94, 61, 94, 70⟩)) none { kind := .function, names := [(PySem.Str.ofString ".0", .local), (PySem.Str.ofString "_law_k", .local), (PySem.Str.ofString "_law_part", .local)], isGenerator := false, isCoroutine := false, more := [] } ⟨94, 28, 94, 71⟩) .NotEq (.blt .list ⟨94, 75, 94, 79⟩ [(.var 10 "_law_mine" ⟨94, 80, 94, 89⟩)] ⟨94, 75, 94, 90⟩) ⟨94, 28, 94, 90⟩), (.cmp (.cal "settled" ⟨94, 94, 94, 101⟩ [(.var 1 "_law_sort_here" ⟨94, 102, 94, 116⟩), (.var 11 "_law_told" ⟨94, 118, 94, 127⟩)] ⟨94, 94, 94, 128⟩) .NotEq (.var 5 "_law_here" ⟨94, 132, 94, 141⟩) ⟨94, 94, 94, 141⟩)] ⟨94, 7, 94, 141⟩) [(.rt (.con (.bool false) 0 ⟨95, 15, 95, 20⟩) ⟨95, 8, 95, 20⟩)] [] ⟨94, 4, 95, 20⟩)
  , (.iff (.cmp (.cal "_law_only" ⟨96, 7, 96, 16⟩ [(.var 11 "_law_told" ⟨96, 17, 96, 26⟩), (.blt .dict ⟨96, 28, 96, 32⟩ [(.var 3 "_law_first" ⟨96, 33, 96, 43⟩)] ⟨96, 28, 96, 44⟩)] ⟨96, 7, 96, 45⟩) .NotEq (.cal "_law_only" ⟨96, 49, 96, 58⟩ [(.var 3 "_law_first" ⟨96, 59, 96, 69⟩), (.var 10 "_law_mine" ⟨96, 71, 96, 80⟩)] ⟨96, 49, 96, 81⟩) ⟨96, 7, 96, 81⟩) [(.rt (.con (.bool false) 0 ⟨97, 15, 97, 20⟩) ⟨97, 8, 97, 20⟩)] [] ⟨96, 4, 97, 20⟩)
  , (.asg 12 "_law_more" ⟨98, 4, 98, 13⟩ (.cal "fits" ⟨98, 16, 98, 20⟩ [(.var 1 "_law_sort_here" ⟨98, 21, 98, 35⟩), (.cal "settled" ⟨98, 37, 98, 44⟩ [(.var 5 "_law_here" ⟨98, 45, 98, 54⟩), (.var 4 "_law_last" ⟨98, 56, 98, 65⟩)] ⟨98, 37, 98, 66⟩)] ⟨98, 16, 98, 67⟩) ⟨98, 4, 98, 67⟩ false)
  , (.iff (.bop .Or [(.cmp (.var 12 "_law_more" ⟨99, 7, 99, 16⟩) .Is (.con (.none) 0 ⟨99, 20, 99, 24⟩) ⟨99, 7, 99, 24⟩), (.cmp (.cal "settled" ⟨99, 28, 99, 35⟩ [(.var 1 "_law_sort_here" ⟨99, 36, 99, 50⟩), (.var 12 "_law_more" ⟨99, 52, 99, 61⟩)] ⟨99, 28, 99, 62⟩) .NotEq (.cal "settled" ⟨99, 66, 99, 73⟩ [(.var 5 "_law_here" ⟨99, 74, 99, 83⟩), (.var 4 "_law_last" ⟨99, 85, 99, 94⟩)] ⟨99, 66, 99, 95⟩) ⟨99, 28, 99, 95⟩)] ⟨99, 7, 99, 95⟩) [(.rt (.con (.bool false) 0 ⟨100, 15, 100, 20⟩) ⟨100, 8, 100, 20⟩)] [] ⟨99, 4, 100, 20⟩)
  , (.fr (.two 7 "_law_k" ⟨101, 8, 101, 14⟩ 8 "_law_part" ⟨101, 16, 101, 25⟩ 0 ⟨101, 8, 101, 25⟩) (.seq (.var 12 "_law_more" ⟨101, 29, 101, 38⟩)) [(.iff (.cmp (.var 8 "_law_part" ⟨102, 11, 102, 20⟩) .NotEq (.cal "settled" ⟨102, 24, 102, 31⟩ [(.cal "settled" ⟨102, 32, 102, 39⟩ [(.tup [(.con (.str "unknown") 0 ⟨102, 41, 102, 50⟩), (.var 7 "_law_k" ⟨102, 52, 102, 58⟩)] 0 ⟨102, 40, 102, 59⟩), (.var 3 "_law_first" ⟨102, 61, 102, 71⟩)] ⟨102, 32, 102, 72⟩), (.var 4 "_law_last" ⟨102, 74, 102, 83⟩)] ⟨102, 24, 102, 84⟩) ⟨102, 11, 102, 84⟩) [(.rt (.con (.bool false) 0 ⟨103, 19, 103, 24⟩) ⟨103, 12, 103, 24⟩)] [] ⟨102, 8, 103, 24⟩)] ⟨101, 4, 103, 24⟩)
  , (.rt (.cal "_law_counted_well" ⟨104, 11, 104, 28⟩ [(.var 1 "_law_sort_here" ⟨104, 29, 104, 43⟩), (.var 2 "_law_other" ⟨104, 45, 104, 55⟩), (.var 3 "_law_first" ⟨104, 57, 104, 67⟩)] ⟨104, 11, 104, 68⟩) ⟨104, 4, 104, 68⟩)
  ]
def d_law : Def := ⟨["_law_script"], ["_law_script", "_law_sort_here", "_law_other", "_law_first", "_law_last", "_law_here", "_law_both_of", "_law_k", "_law_part", "_law_whole", "_law_mine", "_law_told", "_law_more"], L2.defScope (top 16), b_law⟩

def tab : List (Str × Def) := [("settled_by", d_settled_by), ("settled", d_settled), ("unknowns_from", d_unknowns_from), ("unknowns", d_unknowns), ("counted", d_counted), ("fits", d_fits), ("_law_cell_at", d__law_cell_at), ("_law_mixed", d__law_mixed), ("_law_drawn", d__law_drawn), ("_law_sort", d__law_sort), ("_law_settling", d__law_settling), ("_law_only", d__law_only), ("_law_counted_well", d__law_counted_well), ("law", d_law)]
def T : Str → Option Def := fun f => tab.lookup f
def tabI : List (Str × Def) := [("fit_from", d_fit_from)]
def TI : Str → Option Def := fun f => tabI.lookup f
def gl : Str → Option D := fun _ => none
def bl : List Str := ["len", "all", "dict", "list", "tuple", "sorted", "set", "range", "zip"]
theorem fs_settled_by : FnScope d_settled_by.N d_settled_by.ps (defScope (top 1)) := ⟨rfl, rfl, rfl, by decide +kernel, rfl, by decide +kernel, by decide +kernel⟩
theorem bd_settled_by : defBody (top 1) = S.toL d_settled_by.body := rfl
theorem wf_settled_by : wfSs bl d_settled_by.N d_settled_by.sc d_settled_by.body = true := by decide +kernel
theorem t_settled_by : T "settled_by" = some d_settled_by := rfl
theorem fs_settled : FnScope d_settled.N d_settled.ps (defScope (top 2)) := ⟨rfl, rfl, rfl, by decide +kernel, rfl, by decide +kernel, by decide +kernel⟩
theorem bd_settled : defBody (top 2) = S.toL d_settled.body := rfl
theorem wf_settled : wfSs bl d_settled.N d_settled.sc d_settled.body = true := by decide +kernel
theorem t_settled : T "settled" = some d_settled := rfl
theorem fs_unknowns_from : FnScope d_unknowns_from.N d_unknowns_from.ps (defScope (top 3)) := ⟨rfl, rfl, rfl, by decide +kernel, rfl, by decide +kernel, by decide +kernel⟩
theorem bd_unknowns_from : defBody (top 3) = S.toL d_unknowns_from.body := rfl
theorem wf_unknowns_from : wfSs bl d_unknowns_from.N d_unknowns_from.sc d_unknowns_from.body = true := by decide +kernel
theorem t_unknowns_from : T "unknowns_from" = some d_unknowns_from := rfl
theorem fs_unknowns : FnScope d_unknowns.N d_unknowns.ps (defScope (top 4)) := ⟨rfl, rfl, rfl, by decide +kernel, rfl, by decide +kernel, by decide +kernel⟩
theorem bd_unknowns : defBody (top 4) = S.toL d_unknowns.body := rfl
theorem wf_unknowns : wfSs bl d_unknowns.N d_unknowns.sc d_unknowns.body = true := by decide +kernel
theorem t_unknowns : T "unknowns" = some d_unknowns := rfl
theorem fs_counted : FnScope d_counted.N d_counted.ps (defScope (top 5)) := ⟨rfl, rfl, rfl, by decide +kernel, rfl, by decide +kernel, by decide +kernel⟩
theorem bd_counted : defBody (top 5) = S.toL d_counted.body := rfl
theorem wf_counted : wfSs bl d_counted.N d_counted.sc d_counted.body = true := by decide +kernel
theorem t_counted : T "counted" = some d_counted := rfl
theorem fs_fit_from : FnScope d_fit_from.N d_fit_from.ps (defScope (top 6)) := ⟨rfl, rfl, rfl, by decide +kernel, rfl, by decide +kernel, by decide +kernel⟩
theorem bd_fit_from : defBody (top 6) = S.toL d_fit_from.body := rfl
theorem wf_fit_from : wfSs bl d_fit_from.N d_fit_from.sc d_fit_from.body = true := by decide +kernel
theorem t_fit_from : TI "fit_from" = some d_fit_from := rfl
theorem fs_fits : FnScope d_fits.N d_fits.ps (defScope (top 7)) := ⟨rfl, rfl, rfl, by decide +kernel, rfl, by decide +kernel, by decide +kernel⟩
theorem bd_fits : defBody (top 7) = S.toL d_fits.body := rfl
theorem wf_fits : wfSs bl d_fits.N d_fits.sc d_fits.body = true := by decide +kernel
theorem t_fits : T "fits" = some d_fits := rfl
theorem fs__law_cell_at : FnScope d__law_cell_at.N d__law_cell_at.ps (defScope (top 9)) := ⟨rfl, rfl, rfl, by decide +kernel, rfl, by decide +kernel, by decide +kernel⟩
theorem bd__law_cell_at : defBody (top 9) = S.toL d__law_cell_at.body := rfl
theorem wf__law_cell_at : wfSs bl d__law_cell_at.N d__law_cell_at.sc d__law_cell_at.body = true := by decide +kernel
theorem t__law_cell_at : T "_law_cell_at" = some d__law_cell_at := rfl
theorem fs__law_mixed : FnScope d__law_mixed.N d__law_mixed.ps (defScope (top 10)) := ⟨rfl, rfl, rfl, by decide +kernel, rfl, by decide +kernel, by decide +kernel⟩
theorem bd__law_mixed : defBody (top 10) = S.toL d__law_mixed.body := rfl
theorem wf__law_mixed : wfSs bl d__law_mixed.N d__law_mixed.sc d__law_mixed.body = true := by decide +kernel
theorem t__law_mixed : T "_law_mixed" = some d__law_mixed := rfl
theorem fs__law_drawn : FnScope d__law_drawn.N d__law_drawn.ps (defScope (top 11)) := ⟨rfl, rfl, rfl, by decide +kernel, rfl, by decide +kernel, by decide +kernel⟩
theorem bd__law_drawn : defBody (top 11) = S.toL d__law_drawn.body := rfl
theorem wf__law_drawn : wfSs bl d__law_drawn.N d__law_drawn.sc d__law_drawn.body = true := by decide +kernel
theorem t__law_drawn : T "_law_drawn" = some d__law_drawn := rfl
theorem fs__law_sort : FnScope d__law_sort.N d__law_sort.ps (defScope (top 12)) := ⟨rfl, rfl, rfl, by decide +kernel, rfl, by decide +kernel, by decide +kernel⟩
theorem bd__law_sort : defBody (top 12) = S.toL d__law_sort.body := rfl
theorem wf__law_sort : wfSs bl d__law_sort.N d__law_sort.sc d__law_sort.body = true := by decide +kernel
theorem t__law_sort : T "_law_sort" = some d__law_sort := rfl
theorem fs__law_settling : FnScope d__law_settling.N d__law_settling.ps (defScope (top 13)) := ⟨rfl, rfl, rfl, by decide +kernel, rfl, by decide +kernel, by decide +kernel⟩
theorem bd__law_settling : defBody (top 13) = S.toL d__law_settling.body := rfl
theorem wf__law_settling : wfSs bl d__law_settling.N d__law_settling.sc d__law_settling.body = true := by decide +kernel
theorem t__law_settling : T "_law_settling" = some d__law_settling := rfl
theorem fs__law_only : FnScope d__law_only.N d__law_only.ps (defScope (top 14)) := ⟨rfl, rfl, rfl, by decide +kernel, rfl, by decide +kernel, by decide +kernel⟩
theorem bd__law_only : defBody (top 14) = S.toL d__law_only.body := rfl
theorem wf__law_only : wfSs bl d__law_only.N d__law_only.sc d__law_only.body = true := by decide +kernel
theorem t__law_only : T "_law_only" = some d__law_only := rfl
theorem fs__law_counted_well : FnScope d__law_counted_well.N d__law_counted_well.ps (defScope (top 15)) := ⟨rfl, rfl, rfl, by decide +kernel, rfl, by decide +kernel, by decide +kernel⟩
theorem bd__law_counted_well : defBody (top 15) = S.toL d__law_counted_well.body := rfl
theorem wf__law_counted_well : wfSs bl d__law_counted_well.N d__law_counted_well.sc d__law_counted_well.body = true := by decide +kernel
theorem t__law_counted_well : T "_law_counted_well" = some d__law_counted_well := rfl
theorem fs_law : FnScope d_law.N d_law.ps (defScope (top 16)) := ⟨rfl, rfl, rfl, by decide +kernel, rfl, by decide +kernel, by decide +kernel⟩
theorem bd_law : defBody (top 16) = S.toL d_law.body := rfl
theorem wf_law : wfSs bl d_law.N d_law.sc d_law.body = true := by decide +kernel
theorem t_law : T "law" = some d_law := rfl
theorem all_mk {l : PySem.W.OpenLaw} {w : World} {K : PySem.W.Frag} {h : Heap} {mg : Str → Option Value} {fa : Addr} (X : K.In h) (G : h.Ns mainGlobals mg) (hfa : mg "law" = some (.ref fa))
    {f0 : Addr} {od0 an0 : Option Addr} {sl0 : Array (Option Value)} {oc0 kV0 dc0 pm0 cd0 ct0 : Value}
    (a0 : PySem.W.nsIn K mainGlobals "settled_by" = some (some (.ref f0))) (l0 : K.lookup f0 = some ⟨oc0, od0, .func (PySem.W.fnOf "settled_by" "settled_by" (defArgs (top 1)) (defBody (top 1)) (defScope (top 1)) .none kV0 dc0 pm0 an0 cd0 ct0), sl0⟩) (c0 : PySem.W.codeIn K cd0 "settled_by" = true) (k0 : PySem.W.keepIn K (.ref f0) = true)
    {f1 : Addr} {od1 an1 : Option Addr} {sl1 : Array (Option Value)} {oc1 kV1 dc1 pm1 cd1 ct1 : Value}
    (a1 : PySem.W.nsIn K mainGlobals "settled" = some (some (.ref f1))) (l1 : K.lookup f1 = some ⟨oc1, od1, .func (PySem.W.fnOf "settled" "settled" (defArgs (top 2)) (defBody (top 2)) (defScope (top 2)) .none kV1 dc1 pm1 an1 cd1 ct1), sl1⟩) (c1 : PySem.W.codeIn K cd1 "settled" = true) (k1 : PySem.W.keepIn K (.ref f1) = true)
    {f2 : Addr} {od2 an2 : Option Addr} {sl2 : Array (Option Value)} {oc2 kV2 dc2 pm2 cd2 ct2 : Value}
    (a2 : PySem.W.nsIn K mainGlobals "unknowns_from" = some (some (.ref f2))) (l2 : K.lookup f2 = some ⟨oc2, od2, .func (PySem.W.fnOf "unknowns_from" "unknowns_from" (defArgs (top 3)) (defBody (top 3)) (defScope (top 3)) .none kV2 dc2 pm2 an2 cd2 ct2), sl2⟩) (c2 : PySem.W.codeIn K cd2 "unknowns_from" = true) (k2 : PySem.W.keepIn K (.ref f2) = true)
    {f3 : Addr} {od3 an3 : Option Addr} {sl3 : Array (Option Value)} {oc3 kV3 dc3 pm3 cd3 ct3 : Value}
    (a3 : PySem.W.nsIn K mainGlobals "unknowns" = some (some (.ref f3))) (l3 : K.lookup f3 = some ⟨oc3, od3, .func (PySem.W.fnOf "unknowns" "unknowns" (defArgs (top 4)) (defBody (top 4)) (defScope (top 4)) .none kV3 dc3 pm3 an3 cd3 ct3), sl3⟩) (c3 : PySem.W.codeIn K cd3 "unknowns" = true) (k3 : PySem.W.keepIn K (.ref f3) = true)
    {f4 : Addr} {od4 an4 : Option Addr} {sl4 : Array (Option Value)} {oc4 kV4 dc4 pm4 cd4 ct4 : Value}
    (a4 : PySem.W.nsIn K mainGlobals "counted" = some (some (.ref f4))) (l4 : K.lookup f4 = some ⟨oc4, od4, .func (PySem.W.fnOf "counted" "counted" (defArgs (top 5)) (defBody (top 5)) (defScope (top 5)) .none kV4 dc4 pm4 an4 cd4 ct4), sl4⟩) (c4 : PySem.W.codeIn K cd4 "counted" = true) (k4 : PySem.W.keepIn K (.ref f4) = true)
    {f5 : Addr} {od5 an5 : Option Addr} {sl5 : Array (Option Value)} {oc5 kV5 dc5 pm5 cd5 ct5 : Value}
    (a5 : PySem.W.nsIn K mainGlobals "fit_from" = some (some (.ref f5))) (l5 : K.lookup f5 = some ⟨oc5, od5, .func (PySem.W.fnOf "fit_from" "fit_from" (defArgs (top 6)) (defBody (top 6)) (defScope (top 6)) .none kV5 dc5 pm5 an5 cd5 ct5), sl5⟩) (c5 : PySem.W.codeIn K cd5 "fit_from" = true) (k5 : PySem.W.keepIn K (.ref f5) = true)
    {f6 : Addr} {od6 an6 : Option Addr} {sl6 : Array (Option Value)} {oc6 kV6 dc6 pm6 cd6 ct6 : Value}
    (a6 : PySem.W.nsIn K mainGlobals "fits" = some (some (.ref f6))) (l6 : K.lookup f6 = some ⟨oc6, od6, .func (PySem.W.fnOf "fits" "fits" (defArgs (top 7)) (defBody (top 7)) (defScope (top 7)) .none kV6 dc6 pm6 an6 cd6 ct6), sl6⟩) (c6 : PySem.W.codeIn K cd6 "fits" = true) (k6 : PySem.W.keepIn K (.ref f6) = true)
    {f7 : Addr} {od7 an7 : Option Addr} {sl7 : Array (Option Value)} {oc7 kV7 dc7 pm7 cd7 ct7 : Value}
    (a7 : PySem.W.nsIn K mainGlobals "_law_cell_at" = some (some (.ref f7))) (l7 : K.lookup f7 = some ⟨oc7, od7, .func (PySem.W.fnOf "_law_cell_at" "_law_cell_at" (defArgs (top 9)) (defBody (top 9)) (defScope (top 9)) .none kV7 dc7 pm7 an7 cd7 ct7), sl7⟩) (c7 : PySem.W.codeIn K cd7 "_law_cell_at" = true) (k7 : PySem.W.keepIn K (.ref f7) = true)
    {f8 : Addr} {od8 an8 : Option Addr} {sl8 : Array (Option Value)} {oc8 kV8 dc8 pm8 cd8 ct8 : Value}
    (a8 : PySem.W.nsIn K mainGlobals "_law_mixed" = some (some (.ref f8))) (l8 : K.lookup f8 = some ⟨oc8, od8, .func (PySem.W.fnOf "_law_mixed" "_law_mixed" (defArgs (top 10)) (defBody (top 10)) (defScope (top 10)) .none kV8 dc8 pm8 an8 cd8 ct8), sl8⟩) (c8 : PySem.W.codeIn K cd8 "_law_mixed" = true) (k8 : PySem.W.keepIn K (.ref f8) = true)
    {f9 : Addr} {od9 an9 : Option Addr} {sl9 : Array (Option Value)} {oc9 kV9 dc9 pm9 cd9 ct9 : Value}
    (a9 : PySem.W.nsIn K mainGlobals "_law_drawn" = some (some (.ref f9))) (l9 : K.lookup f9 = some ⟨oc9, od9, .func (PySem.W.fnOf "_law_drawn" "_law_drawn" (defArgs (top 11)) (defBody (top 11)) (defScope (top 11)) .none kV9 dc9 pm9 an9 cd9 ct9), sl9⟩) (c9 : PySem.W.codeIn K cd9 "_law_drawn" = true) (k9 : PySem.W.keepIn K (.ref f9) = true)
    {f10 : Addr} {od10 an10 : Option Addr} {sl10 : Array (Option Value)} {oc10 kV10 dc10 pm10 cd10 ct10 : Value}
    (a10 : PySem.W.nsIn K mainGlobals "_law_sort" = some (some (.ref f10))) (l10 : K.lookup f10 = some ⟨oc10, od10, .func (PySem.W.fnOf "_law_sort" "_law_sort" (defArgs (top 12)) (defBody (top 12)) (defScope (top 12)) .none kV10 dc10 pm10 an10 cd10 ct10), sl10⟩) (c10 : PySem.W.codeIn K cd10 "_law_sort" = true) (k10 : PySem.W.keepIn K (.ref f10) = true)
    {f11 : Addr} {od11 an11 : Option Addr} {sl11 : Array (Option Value)} {oc11 kV11 dc11 pm11 cd11 ct11 : Value}
    (a11 : PySem.W.nsIn K mainGlobals "_law_settling" = some (some (.ref f11))) (l11 : K.lookup f11 = some ⟨oc11, od11, .func (PySem.W.fnOf "_law_settling" "_law_settling" (defArgs (top 13)) (defBody (top 13)) (defScope (top 13)) .none kV11 dc11 pm11 an11 cd11 ct11), sl11⟩) (c11 : PySem.W.codeIn K cd11 "_law_settling" = true) (k11 : PySem.W.keepIn K (.ref f11) = true)
    {f12 : Addr} {od12 an12 : Option Addr} {sl12 : Array (Option Value)} {oc12 kV12 dc12 pm12 cd12 ct12 : Value}
    (a12 : PySem.W.nsIn K mainGlobals "_law_only" = some (some (.ref f12))) (l12 : K.lookup f12 = some ⟨oc12, od12, .func (PySem.W.fnOf "_law_only" "_law_only" (defArgs (top 14)) (defBody (top 14)) (defScope (top 14)) .none kV12 dc12 pm12 an12 cd12 ct12), sl12⟩) (c12 : PySem.W.codeIn K cd12 "_law_only" = true) (k12 : PySem.W.keepIn K (.ref f12) = true)
    {f13 : Addr} {od13 an13 : Option Addr} {sl13 : Array (Option Value)} {oc13 kV13 dc13 pm13 cd13 ct13 : Value}
    (a13 : PySem.W.nsIn K mainGlobals "_law_counted_well" = some (some (.ref f13))) (l13 : K.lookup f13 = some ⟨oc13, od13, .func (PySem.W.fnOf "_law_counted_well" "_law_counted_well" (defArgs (top 15)) (defBody (top 15)) (defScope (top 15)) .none kV13 dc13 pm13 an13 cd13 ct13), sl13⟩) (c13 : PySem.W.codeIn K cd13 "_law_counted_well" = true) (k13 : PySem.W.keepIn K (.ref f13) = true)
    {f14 : Addr} {od14 an14 : Option Addr} {sl14 : Array (Option Value)} {oc14 kV14 dc14 pm14 cd14 ct14 : Value}
    (a14 : PySem.W.nsIn K mainGlobals "law" = some (some (.ref f14))) (l14 : K.lookup f14 = some ⟨oc14, od14, .func (PySem.W.fnOf "law" "law" (defArgs (top 16)) (defBody (top 16)) (defScope (top 16)) .none kV14 dc14 pm14 an14 cd14 ct14), sl14⟩) (c14 : PySem.W.codeIn K cd14 "law" = true) (k14 : PySem.W.keepIn K (.ref f14) = true)
    (z_len : PySem.W.nsIn K mainGlobals "len" = some none)
    (z_all : PySem.W.nsIn K mainGlobals "all" = some none)
    (z_dict : PySem.W.nsIn K mainGlobals "dict" = some none)
    (z_list : PySem.W.nsIn K mainGlobals "list" = some none)
    (z_tuple : PySem.W.nsIn K mainGlobals "tuple" = some none)
    (z_sorted : PySem.W.nsIn K mainGlobals "sorted" = some none)
    (z_set : PySem.W.nsIn K mainGlobals "set" = some none)
    (z_range : PySem.W.nsIn K mainGlobals "range" = some none)
    (z_zip : PySem.W.nsIn K mainGlobals "zip" = some none)
    : ∃ fd : FuncData, (∀ (s : Shared) (v : Value), BindsTo s fd ⟨[v], []⟩ [("_law_script", v)]) ∧ ∀ base : Heap, K.In base → base.Ns mainGlobals mg → FnOk l.prog w K mg base (L2.CX l.prog w) 60 fa fd ["_law_script"] (spP K (fun _ => some 0) 1 (callP T TI gl 60 "law")) := by
  have e := hfa.symm.trans (PySem.W.mg_of X G a14)
  cases e
  have F0 := fun_mk (st := top 1) l0 c0 k0
  have D0 : ∃ a fd, DefOk K mg bl "settled_by" d_settled_by a fd := ⟨f0, _, PySem.W.mg_of X G a0, F0.binds (ps := d_settled_by.ps) fun _ _ _ _ _ _ us hl => match us, hl with | [_, _], _ => rfl, ⟨top 1, F0, fs_settled_by, rfl, bd_settled_by⟩, wf_settled_by, by decide +kernel⟩
  have F1 := fun_mk (st := top 2) l1 c1 k1
  have D1 : ∃ a fd, DefOk K mg bl "settled" d_settled a fd := ⟨f1, _, PySem.W.mg_of X G a1, F1.binds (ps := d_settled.ps) fun _ _ _ _ _ _ us hl => match us, hl with | [_, _], _ => rfl, ⟨top 2, F1, fs_settled, rfl, bd_settled⟩, wf_settled, by decide +kernel⟩
  have F2 := fun_mk (st := top 3) l2 c2 k2
  have D2 : ∃ a fd, DefOk K mg bl "unknowns_from" d_unknowns_from a fd := ⟨f2, _, PySem.W.mg_of X G a2, F2.binds (ps := d_unknowns_from.ps) fun _ _ _ _ _ _ us hl => match us, hl with | [_], _ => rfl, ⟨top 3, F2, fs_unknowns_from, rfl, bd_unknowns_from⟩, wf_unknowns_from, by decide +kernel⟩
  have F3 := fun_mk (st := top 4) l3 c3 k3
  have D3 : ∃ a fd, DefOk K mg bl "unknowns" d_unknowns a fd := ⟨f3, _, PySem.W.mg_of X G a3, F3.binds (ps := d_unknowns.ps) fun _ _ _ _ _ _ us hl => match us, hl with | [_], _ => rfl, ⟨top 4, F3, fs_unknowns, rfl, bd_unknowns⟩, wf_unknowns, by decide +kernel⟩
  have F4 := fun_mk (st := top 5) l4 c4 k4
  have D4 : ∃ a fd, DefOk K mg bl "counted" d_counted a fd := ⟨f4, _, PySem.W.mg_of X G a4, F4.binds (ps := d_counted.ps) fun _ _ _ _ _ _ us hl => match us, hl with | [_], _ => rfl, ⟨top 5, F4, fs_counted, rfl, bd_counted⟩, wf_counted, by decide +kernel⟩
  have F5 := fun_mk (st := top 6) l5 c5 k5
  have D5 : ∃ a fd, DefOk K mg bl "fit_from" d_fit_from a fd := ⟨f5, _, PySem.W.mg_of X G a5, F5.binds (ps := d_fit_from.ps) fun _ _ _ _ _ _ us hl => match us, hl with | [_, _, _], _ => rfl, ⟨top 6, F5, fs_fit_from, rfl, bd_fit_from⟩, wf_fit_from, by decide +kernel⟩
  have F6 := fun_mk (st := top 7) l6 c6 k6
  have D6 : ∃ a fd, DefOk K mg bl "fits" d_fits a fd := ⟨f6, _, PySem.W.mg_of X G a6, F6.binds (ps := d_fits.ps) fun _ _ _ _ _ _ us hl => match us, hl with | [_, _], _ => rfl, ⟨top 7, F6, fs_fits, rfl, bd_fits⟩, wf_fits, by decide +kernel⟩
  have F7 := fun_mk (st := top 9) l7 c7 k7
  have D7 : ∃ a fd, DefOk K mg bl "_law_cell_at" d__law_cell_at a fd := ⟨f7, _, PySem.W.mg_of X G a7, F7.binds (ps := d__law_cell_at.ps) fun _ _ _ _ _ _ us hl => match us, hl with | [_, _], _ => rfl, ⟨top 9, F7, fs__law_cell_at, rfl, bd__law_cell_at⟩, wf__law_cell_at, by decide +kernel⟩
  have F8 := fun_mk (st := top 10) l8 c8 k8
  have D8 : ∃ a fd, DefOk K mg bl "_law_mixed" d__law_mixed a fd := ⟨f8, _, PySem.W.mg_of X G a8, F8.binds (ps := d__law_mixed.ps) fun _ _ _ _ _ _ us hl => match us, hl with | [_, _], _ => rfl, ⟨top 10, F8, fs__law_mixed, rfl, bd__law_mixed⟩, wf__law_mixed, by decide +kernel⟩
  have F9 := fun_mk (st := top 11) l9 c9 k9
  have D9 : ∃ a fd, DefOk K mg bl "_law_drawn" d__law_drawn a fd := ⟨f9, _, PySem.W.mg_of X G a9, F9.binds (ps := d__law_drawn.ps) fun _ _ _ _ _ _ us hl => match us, hl with | [_, _], _ => rfl, ⟨top 11, F9, fs__law_drawn, rfl, bd__law_drawn⟩, wf__law_drawn, by decide +kernel⟩
  have F10 := fun_mk (st := top 12) l10 c10 k10
  have D10 : ∃ a fd, DefOk K mg bl "_law_sort" d__law_sort a fd := ⟨f10, _, PySem.W.mg_of X G a10, F10.binds (ps := d__law_sort.ps) fun _ _ _ _ _ _ us hl => match us, hl with | [_, _, _], _ => rfl, ⟨top 12, F10, fs__law_sort, rfl, bd__law_sort⟩, wf__law_sort, by decide +kernel⟩
  have F11 := fun_mk (st := top 13) l11 c11 k11
  have D11 : ∃ a fd, DefOk K mg bl "_law_settling" d__law_settling a fd := ⟨f11, _, PySem.W.mg_of X G a11, F11.binds (ps := d__law_settling.ps) fun _ _ _ _ _ _ us hl => match us, hl with | [_, _], _ => rfl, ⟨top 13, F11, fs__law_settling, rfl, bd__law_settling⟩, wf__law_settling, by decide +kernel⟩
  have F12 := fun_mk (st := top 14) l12 c12 k12
  have D12 : ∃ a fd, DefOk K mg bl "_law_only" d__law_only a fd := ⟨f12, _, PySem.W.mg_of X G a12, F12.binds (ps := d__law_only.ps) fun _ _ _ _ _ _ us hl => match us, hl with | [_, _], _ => rfl, ⟨top 14, F12, fs__law_only, rfl, bd__law_only⟩, wf__law_only, by decide +kernel⟩
  have F13 := fun_mk (st := top 15) l13 c13 k13
  have D13 : ∃ a fd, DefOk K mg bl "_law_counted_well" d__law_counted_well a fd := ⟨f13, _, PySem.W.mg_of X G a13, F13.binds (ps := d__law_counted_well.ps) fun _ _ _ _ _ _ us hl => match us, hl with | [_, _, _], _ => rfl, ⟨top 15, F13, fs__law_counted_well, rfl, bd__law_counted_well⟩, wf__law_counted_well, by decide +kernel⟩
  have F14 := fun_mk (st := top 16) l14 c14 k14
  have D14 : ∃ a fd, DefOk K mg bl "law" d_law a fd := ⟨fa, _, PySem.W.mg_of X G a14, F14.binds (ps := d_law.ps) fun _ _ _ _ _ _ us hl => match us, hl with | [_], _ => rfl, ⟨top 16, F14, fs_law, rfl, bd_law⟩, wf_law, by decide +kernel⟩
  have t : TabOk K mg bl (fun _ => some 0) T TI gl := by
    refine ⟨fun f d hf => ?_, fun f d hf => ?_, fun x hx => ?_, fun x d hx => (by cases hx), fun c => ⟨0, rfl⟩⟩
    · have hm : (f, d) ∈ tab := mem_lookup hf
      simp only [tab, List.mem_cons, List.not_mem_nil, or_false, Prod.mk.injEq] at hm
      rcases hm with ⟨rfl, rfl⟩ | ⟨rfl, rfl⟩ | ⟨rfl, rfl⟩ | ⟨rfl, rfl⟩ | ⟨rfl, rfl⟩ | ⟨rfl, rfl⟩ | ⟨rfl, rfl⟩ | ⟨rfl, rfl⟩ | ⟨rfl, rfl⟩ | ⟨rfl, rfl⟩ | ⟨rfl, rfl⟩ | ⟨rfl, rfl⟩ | ⟨rfl, rfl⟩ | ⟨rfl, rfl⟩
      · exact D0
      · exact D1
      · exact D2
      · exact D3
      · exact D4
      · exact D6
      · exact D7
      · exact D8
      · exact D9
      · exact D10
      · exact D11
      · exact D12
      · exact D13
      · exact D14
    · have hm : (f, d) ∈ tabI := mem_lookup hf
      simp only [tabI, List.mem_cons, List.not_mem_nil, or_false, Prod.mk.injEq] at hm
      rcases hm with ⟨rfl, rfl⟩
      · exact D5
    · simp only [bl, List.mem_cons, List.not_mem_nil, or_false] at hx
      rcases hx with rfl | rfl | rfl | rfl | rfl | rfl | rfl | rfl | rfl
      · exact PySem.W.mg_none_of X G z_len
      · exact PySem.W.mg_none_of X G z_all
      · exact PySem.W.mg_none_of X G z_dict
      · exact PySem.W.mg_none_of X G z_list
      · exact PySem.W.mg_none_of X G z_tuple
      · exact PySem.W.mg_none_of X G z_sorted
      · exact PySem.W.mg_none_of X G z_set
      · exact PySem.W.mg_none_of X G z_range
      · exact PySem.W.mg_none_of X G z_zip
  refine ⟨PySem.W.fnOf "law" "law" (defArgs (top 16)) (defBody (top 16)) (defScope (top 16)) .none kV14 dc14 pm14 an14 cd14 ct14, fun s v => .of_eq rfl, fun base _ _ => ?_⟩
  have DL : DefOk K mg bl "law" d_law fa _ := ⟨PySem.W.mg_of X G a14, F14.binds (ps := d_law.ps) fun _ _ _ _ _ _ us hl => match us, hl with | [_], _ => rfl, ⟨top 16, F14, fs_law, rfl, bd_law⟩, wf_law, by decide +kernel⟩
  exact (fn_ok t 60 "law" d_law fa _ DL).1 t_law
theorem walk (H : ∀ ns : List Int, ns.length ≤ 63 → callP T TI gl 60 "law" [.scr ns] = .ok (.bl true)) {l : PySem.W.OpenLaw} {q : Program} {loose : List Str} {XP : (Str → Option Value) → Heap → Prop} {YP : World → Heap → Prop} {d : DefRec} {K : Params → PySem.W.Frag} (hn : l.most = some 63) (hdf : d.params.defaults = [])
    (hY : ∀ (w : World) (h : Heap), YP w h → (K w.params).In h)
    (F : ∀ (w : World) (mg : Str → Option Value) (fa : Addr) (h : Heap), (K w.params).In h → h.Ns mainGlobals mg → mg d.name = some (.ref fa) →
      ∃ fd : FuncData, (∀ (s : Shared) (u : Value), BindsTo s fd ⟨[u], []⟩ [("_law_script", u)]) ∧ ∀ base : Heap, (K w.params).In base → base.Ns mainGlobals mg → FnOk l.prog w (K w.params) mg base (L2.CX l.prog w) 60 fa fd ["_law_script"] (spP (K w.params) (fun _ => some 0) 1 (callP T TI gl 60 "law"))) :
    PySem.W.WalkO q loose XP YP l.row.toRowW d [] (fun f vs => PySem.call f vs) :=
  L2.walk_of (n := 63) (k := 60) (x := "_law_script") (CX := fun w => L2.CX l.prog w) (sp := fun w => spP (K w.params) (fun _ => some 0) 1 (callP T TI gl 60 "law")) hn (by decide) hdf ⟨rfl, by decide, by decide⟩ hY F (fun w H' a ns hl _ hS => law_sp (H ns hl) hS) fun w H s e s' z => cx_no z
end K13

set_option Elab.async false
set_option linter.all false
set_option maxRecDepth 100000
set_option maxHeartbeats 4000000
namespace K13
open PySem L2 G9
inductive Tr where
  | unk (i : Int) | nil (w : Str) | one (w : Str) (a : Tr) | two (w : Str) (a b : Tr)
def Tr.d : Tr → D
  | .unk i => .tup [.str "unknown", .int i]
  | .nil w => .tup [.str w]
  | .one w a => .tup [.str w, a.d]
  | .two w a b => .tup [.str w, a.d, b.d]
theorem Tr.n (t : Tr) : nrm t.d = t.d := by cases t <;> rfl
def okW (w : Str) : Prop := w ≠ "unknown" ∧ PyData.strOk w = true
def Tr.ok : Tr → Prop
  | .unk i => True
  | .nil w => w = "number" ∨ w = "truth"
  | .one w a => w = "row" ∧ a.ok
  | .two w a b => (w = "way" ∨ w = "pair") ∧ a.ok ∧ b.ok
theorem okW_n {w : Str} (h : w = "number" ∨ w = "truth") : okW w := by rcases h with rfl | rfl <;> exact ⟨by decide, by decide +kernel⟩
theorem okW_o {w : Str} (h : w = "row") : okW w := by subst h; exact ⟨by decide, by decide +kernel⟩
theorem okW_t {w : Str} (h : w = "way" ∨ w = "pair") : okW w := by rcases h with rfl | rfl <;> exact ⟨by decide, by decide +kernel⟩
def Tr.h : Tr → Nat
  | .unk i => 0
  | .nil w => 0
  | .one w a => a.h + 1
  | .two w a b => max a.h b.h + 1
def stl (ks : List Key) (vs : List D) : Tr → D
  | .unk i => (getK (.inl i) ks vs).getD (Tr.unk i).d
  | .nil w => .tup [.str w]
  | .one w a => .tup [.str w, stl ks vs a]
  | .two w a b => .tup [.str w, stl ks vs a, stl ks vs b]
theorem getK_mem (k : Key) {d : D} : ∀ {ks : List Key} {vs : List D}, getK k ks vs = some d → d ∈ vs
  | [], _, h => by simp [getK] at h
  | _ :: _, [], h => by simp [getK] at h
  | a :: ks, v :: vs, h => by
    unfold getK at h
    split at h
    · cases h; simp
    · exact List.mem_cons_of_mem _ (getK_mem k h)
theorem stl_n {ks : List Key} {vs : List D} (hv : ∀ d ∈ vs, nrm d = d) (t : Tr) : nrm (stl ks vs t) = stl ks vs t := by
  cases t with
  | unk i =>
    simp only [stl]
    cases e : getK (.inl i) ks vs with
    | none => rfl
    | some d => exact hv d (getK_mem _ e)
  | _ => rfl
theorem callP_T (n : Nat) (f : Str) (d : Def) (ds : List D) (h : T f = some d) : callP T TI gl (n + 1) f ds = runB ⟨callP T TI gl n, false, gl, fun f => (T f).isSome, callI T TI gl n, fun f => (TI f).isSome⟩ d ds := callP_S h ds
theorem callI_T (n : Nat) (f : Str) (d : Def) (ws : List Wv) (h : TI f = some d) : callI T TI gl (n + 1) f ws = runI ⟨callP T TI gl n, false, gl, fun f => (T f).isSome, callI T TI gl n, fun f => (TI f).isSome⟩ d ws := callI_S h ws
def unk : Tr → List Int
  | .unk i => [i]
  | .nil w => []
  | .one w a => unk a
  | .two w a b => unk a ++ unk b
theorem unk_len : ∀ t : Tr, (unk t).length ≤ 2 ^ t.h
  | .unk i => by simp [unk, Tr.h]
  | .nil w => by simp [unk, Tr.h]
  | .one w a => by
    have := unk_len a
    simp only [unk, Tr.h, Nat.pow_succ]
    omega
  | .two w a b => by
    have h1 := unk_len a
    have h2 := unk_len b
    have h3 : 2 ^ a.h ≤ 2 ^ (max a.h b.h) := Nat.pow_le_pow_right (by omega) (by omega)
    have h4 : 2 ^ b.h ≤ 2 ^ (max a.h b.h) := Nat.pow_le_pow_right (by omega) (by omega)
    simp only [unk, Tr.h, Nat.pow_succ, List.length_append]
    omega
theorem settled_by_ok (ks : List Key) (vs : List D) (hv : ∀ d ∈ vs, nrm d = d) : ∀ (t : Tr) (n : Nat), t.ok → t.h < n → callP T TI gl n "settled_by" [t.d, .dict ks vs] = .ok (stl ks vs t) := by
  intro t
  induction t with
  | unk i =>
    intro n _ hn
    obtain ⟨m, rfl⟩ : ∃ m, n = m + 1 := ⟨n - 1, by omega⟩
    rw [callP_T m _ _ _ t_settled_by]
    simp [d_settled_by, b_settled_by, Tr.d, Tr.n, stl_n hv, stl, G9.execs, G9.exec, ev, evB, evL, evP, evW, evK, evO, evC, evI, evIn, rdL, bnd, G9.ret, opt, stuck, rd, vl, vp, nr1, nr2, nr3, nr4, nr5, nr6, nr7, nr8, nr9, tupV, plArg, tst, val?, bool?, get1, conD, flPO, flW, runB, runI, Def.env, Def.envW, opIdx, opBin, opCmp, eqD, kindM, Mt.mut, opMth, opBlt, keyD, intO, ofPO, nox, lcLoop, consO, Tgt.bind, wipeE, Tgt.own, itemsD, dictKs, isVar, freshE, G9.cellOf, G9.newCell, mutW, mutM, setC, locW, forLoop, Calls.locked, isT, G9.isNon, Cell.toD, at0, at1, at2, at3, cut1, cut01, sz1, sz2, sz3, sz4]
  | nil w =>
    intro n hw hn
    obtain ⟨m, rfl⟩ : ∃ m, n = m + 1 := ⟨n - 1, by omega⟩
    rw [callP_T m _ _ _ t_settled_by]
    simp [d_settled_by, b_settled_by, Tr.d, Tr.n, stl_n hv, stl, G9.execs, G9.exec, ev, evB, evL, evP, evW, evK, evO, evC, evI, evIn, rdL, bnd, G9.ret, opt, stuck, rd, vl, vp, nr1, nr2, nr3, nr4, nr5, nr6, nr7, nr8, nr9, tupV, plArg, tst, val?, bool?, get1, conD, flPO, flW, runB, runI, Def.env, Def.envW, opIdx, opBin, opCmp, eqD, kindM, Mt.mut, opMth, opBlt, keyD, intO, ofPO, nox, lcLoop, consO, Tgt.bind, wipeE, Tgt.own, itemsD, dictKs, isVar, freshE, G9.cellOf, G9.newCell, mutW, mutM, setC, locW, forLoop, Calls.locked, isT, G9.isNon, Cell.toD, at0, at1, at2, at3, cut1, cut01, sz1, sz2, sz3, sz4, (okW_n hw).1, t_settled_by]
  | one w a iha =>
    intro n hw hn
    obtain ⟨m, rfl⟩ : ∃ m, n = m + 1 := ⟨n - 1, by omega⟩
    rw [callP_T m _ _ _ t_settled_by]
    simp only [Tr.h] at hn
    have e1 := iha m hw.2 (by omega)
    simp [d_settled_by, b_settled_by, Tr.d, Tr.n, stl_n hv, stl, G9.execs, G9.exec, ev, evB, evL, evP, evW, evK, evO, evC, evI, evIn, rdL, bnd, G9.ret, opt, stuck, rd, vl, vp, nr1, nr2, nr3, nr4, nr5, nr6, nr7, nr8, nr9, tupV, plArg, tst, val?, bool?, get1, conD, flPO, flW, runB, runI, Def.env, Def.envW, opIdx, opBin, opCmp, eqD, kindM, Mt.mut, opMth, opBlt, keyD, intO, ofPO, nox, lcLoop, consO, Tgt.bind, wipeE, Tgt.own, itemsD, dictKs, isVar, freshE, G9.cellOf, G9.newCell, mutW, mutM, setC, locW, forLoop, Calls.locked, isT, G9.isNon, Cell.toD, at0, at1, at2, at3, cut1, cut01, sz1, sz2, sz3, sz4, (okW_o hw.1).1, t_settled_by, e1]
  | two w a b iha ihb =>
    intro n hw hn
    obtain ⟨m, rfl⟩ : ∃ m, n = m + 1 := ⟨n - 1, by omega⟩
    rw [callP_T m _ _ _ t_settled_by]
    simp only [Tr.h] at hn
    have e1 := iha m hw.2.1 (by omega)
    have e2 := ihb m hw.2.2 (by omega)
    simp [d_settled_by, b_settled_by, Tr.d, Tr.n, stl_n hv, stl, G9.execs, G9.exec, ev, evB, evL, evP, evW, evK, evO, evC, evI, evIn, rdL, bnd, G9.ret, opt, stuck, rd, vl, vp, nr1, nr2, nr3, nr4, nr5, nr6, nr7, nr8, nr9, tupV, plArg, tst, val?, bool?, get1, conD, flPO, flW, runB, runI, Def.env, Def.envW, opIdx, opBin, opCmp, eqD, kindM, Mt.mut, opMth, opBlt, keyD, intO, ofPO, nox, lcLoop, consO, Tgt.bind, wipeE, Tgt.own, itemsD, dictKs, isVar, freshE, G9.cellOf, G9.newCell, mutW, mutM, setC, locW, forLoop, Calls.locked, isT, G9.isNon, Cell.toD, at0, at1, at2, at3, cut1, cut01, sz1, sz2, sz3, sz4, (okW_t hw.1).1, t_settled_by, e1, e2]
theorem unknowns_from_ok : ∀ (t : Tr) (n : Nat), t.ok → t.h ≤ 9 → t.h < n → callP T TI gl n "unknowns_from" [t.d] = .ok (.lst ((unk t).map .int)) := by
  intro t
  induction t with
  | unk i =>
    intro n _ _ hn
    obtain ⟨m, rfl⟩ : ∃ m, n = m + 1 := ⟨n - 1, by omega⟩
    rw [callP_T m _ _ _ t_unknowns_from]
    simp [d_unknowns_from, b_unknowns_from, Tr.d, Tr.n, unk, G9.execs, G9.exec, ev, evB, evL, evP, evW, evK, evO, evC, evI, evIn, rdL, bnd, G9.ret, opt, stuck, rd, vl, vp, nr1, nr2, nr3, nr4, nr5, nr6, nr7, nr8, nr9, tupV, plArg, tst, val?, bool?, get1, conD, flPO, flW, runB, runI, Def.env, Def.envW, opIdx, opBin, opCmp, eqD, kindM, Mt.mut, opMth, opBlt, keyD, intO, ofPO, nox, lcLoop, consO, Tgt.bind, wipeE, Tgt.own, itemsD, dictKs, isVar, freshE, G9.cellOf, G9.newCell, mutW, mutM, setC, locW, forLoop, Calls.locked, isT, G9.isNon, Cell.toD, at0, at1, at2, at3, cut1, cut01, sz1, sz2, sz3, sz4]
  | nil w =>
    intro n hw _ hn
    obtain ⟨m, rfl⟩ : ∃ m, n = m + 1 := ⟨n - 1, by omega⟩
    rw [callP_T m _ _ _ t_unknowns_from]
    simp [d_unknowns_from, b_unknowns_from, Tr.d, Tr.n, unk, G9.execs, G9.exec, ev, evB, evL, evP, evW, evK, evO, evC, evI, evIn, rdL, bnd, G9.ret, opt, stuck, rd, vl, vp, nr1, nr2, nr3, nr4, nr5, nr6, nr7, nr8, nr9, tupV, plArg, tst, val?, bool?, get1, conD, flPO, flW, runB, runI, Def.env, Def.envW, opIdx, opBin, opCmp, eqD, kindM, Mt.mut, opMth, opBlt, keyD, intO, ofPO, nox, lcLoop, consO, Tgt.bind, wipeE, Tgt.own, itemsD, dictKs, isVar, freshE, G9.cellOf, G9.newCell, mutW, mutM, setC, locW, forLoop, Calls.locked, isT, G9.isNon, Cell.toD, at0, at1, at2, at3, cut1, cut01, sz1, sz2, sz3, sz4, (okW_n hw).1, t_unknowns_from]
  | one w a iha =>
    intro n hw hh hn
    obtain ⟨m, rfl⟩ : ∃ m, n = m + 1 := ⟨n - 1, by omega⟩
    rw [callP_T m _ _ _ t_unknowns_from]
    simp only [Tr.h] at hn hh
    have e1 := iha m hw.2 (by omega) (by omega)
    have z1 := unk_len a
    have z3 : 2 ^ a.h ≤ 2 ^ 9 := Nat.pow_le_pow_right (by omega) (by omega)
    have z2 : (unk a).length ≤ sizeLine := sz _ (by omega)
    simp [d_unknowns_from, b_unknowns_from, Tr.d, Tr.n, unk, G9.execs, G9.exec, ev, evB, evL, evP, evW, evK, evO, evC, evI, evIn, rdL, bnd, G9.ret, opt, stuck, rd, vl, vp, nr1, nr2, nr3, nr4, nr5, nr6, nr7, nr8, nr9, tupV, plArg, tst, val?, bool?, get1, conD, flPO, flW, runB, runI, Def.env, Def.envW, opIdx, opBin, opCmp, eqD, kindM, Mt.mut, opMth, opBlt, keyD, intO, ofPO, nox, lcLoop, consO, Tgt.bind, wipeE, Tgt.own, itemsD, dictKs, isVar, freshE, G9.cellOf, G9.newCell, mutW, mutM, setC, locW, forLoop, Calls.locked, isT, G9.isNon, Cell.toD, at0, at1, at2, at3, cut1, cut01, sz1, sz2, sz3, sz4, (okW_o hw.1).1, t_unknowns_from, e1, z2]
  | two w a b iha ihb =>
    intro n hw hh hn
    obtain ⟨m, rfl⟩ : ∃ m, n = m + 1 := ⟨n - 1, by omega⟩
    rw [callP_T m _ _ _ t_unknowns_from]
    simp only [Tr.h] at hn hh
    have e1 := iha m hw.2.1 (by omega) (by omega)
    have e2 := ihb m hw.2.2 (by omega) (by omega)
    have z1 := unk_len a
    have z1' := unk_len b
    have z3 : 2 ^ a.h ≤ 2 ^ 8 := Nat.pow_le_pow_right (by omega) (by omega)
    have z3' : 2 ^ b.h ≤ 2 ^ 8 := Nat.pow_le_pow_right (by omega) (by omega)
    have z2 : (unk a).length ≤ sizeLine := sz _ (by omega)
    have z2' : (unk a).length + (unk b).length ≤ sizeLine := sz _ (by omega)
    simp [d_unknowns_from, b_unknowns_from, Tr.d, Tr.n, unk, G9.execs, G9.exec, ev, evB, evL, evP, evW, evK, evO, evC, evI, evIn, rdL, bnd, G9.ret, opt, stuck, rd, vl, vp, nr1, nr2, nr3, nr4, nr5, nr6, nr7, nr8, nr9, tupV, plArg, tst, val?, bool?, get1, conD, flPO, flW, runB, runI, Def.env, Def.envW, opIdx, opBin, opCmp, eqD, kindM, Mt.mut, opMth, opBlt, keyD, intO, ofPO, nox, lcLoop, consO, Tgt.bind, wipeE, Tgt.own, itemsD, dictKs, isVar, freshE, G9.cellOf, G9.newCell, mutW, mutM, setC, locW, forLoop, Calls.locked, isT, G9.isNon, Cell.toD, at0, at1, at2, at3, cut1, cut01, sz1, sz2, sz3, sz4, (okW_t hw.1).1, t_unknowns_from, e1, e2, z2, z2']
theorem cell_ok (ns : List Int) (k : Nat) (n : Nat) (h : 1 ≤ n) : ∃ z : Int, callP T TI gl n "_law_cell_at" [.scr ns, .int k] = .ok (.int z) := by
  obtain ⟨m, rfl⟩ : ∃ m, n = m + 1 := ⟨n - 1, by omega⟩
  rw [callP_T m _ _ _ t__law_cell_at]
  by_cases hk : k < ns.length
  · refine ⟨ns[k], ?_⟩
    simp [d__law_cell_at, b__law_cell_at, G9.execs, G9.exec, ev, evB, evL, evP, evW, evK, evO, evC, evI, evIn, rdL, bnd, G9.ret, opt, stuck, rd, vl, vp, nr1, nr2, nr3, nr4, nr5, nr6, nr7, nr8, nr9, tupV, plArg, tst, val?, bool?, get1, conD, flPO, flW, runB, runI, Def.env, Def.envW, opIdx, opBin, opCmp, eqD, kindM, Mt.mut, opMth, opBlt, keyD, intO, ofPO, nox, lcLoop, consO, Tgt.bind, wipeE, Tgt.own, itemsD, dictKs, isVar, freshE, G9.cellOf, G9.newCell, mutW, mutM, setC, locW, forLoop, Calls.locked, isT, G9.isNon, Cell.toD, at0, at1, at2, at3, cut1, cut01, sz1, sz2, sz3, sz4, atN, hk]
  · refine ⟨0, ?_⟩
    simp [d__law_cell_at, b__law_cell_at, G9.execs, G9.exec, ev, evB, evL, evP, evW, evK, evO, evC, evI, evIn, rdL, bnd, G9.ret, opt, stuck, rd, vl, vp, nr1, nr2, nr3, nr4, nr5, nr6, nr7, nr8, nr9, tupV, plArg, tst, val?, bool?, get1, conD, flPO, flW, runB, runI, Def.env, Def.envW, opIdx, opBin, opCmp, eqD, kindM, Mt.mut, opMth, opBlt, keyD, intO, ofPO, nox, lcLoop, consO, Tgt.bind, wipeE, Tgt.own, itemsD, dictKs, isVar, freshE, G9.cellOf, G9.newCell, mutW, mutM, setC, locW, forLoop, Calls.locked, isT, G9.isNon, Cell.toD, at0, at1, at2, at3, cut1, cut01, sz1, sz2, sz3, sz4, atN, hk]
theorem mixed_ok (ns : List Int) (k : Nat) (n : Nat) (h : 2 ≤ n) : ∃ z : Int, callP T TI gl n "_law_mixed" [.scr ns, .int k] = .ok (.int z) := by
  obtain ⟨m, rfl⟩ : ∃ m, n = m + 1 := ⟨n - 1, by omega⟩
  rw [callP_T m _ _ _ t__law_mixed]
  obtain ⟨c, hc⟩ := cell_ok ns k m (by omega)
  have e1 := Int.emod_nonneg ((c + 7919 * (k : Int) + 1) * 48271) (b := 2147483647) (by omega)
  have e2 := Int.emod_lt_of_pos ((c + 7919 * (k : Int) + 1) * 48271) (b := 2147483647) (by omega)
  generalize hz : (c + 7919 * (k : Int) + 1) * 48271 % 2147483647 = z at e1 e2
  refine ⟨(z * z + 7 * z + k) % 2147483629, ?_⟩
  have e3 : -18446744073709551616 < z ∧ z < 18446744073709551616 := by omega
  simp [d__law_mixed, b__law_mixed, G9.execs, G9.exec, ev, evB, evL, evP, evW, evK, evO, evC, evI, evIn, rdL, bnd, G9.ret, opt, stuck, rd, vl, vp, nr1, nr2, nr3, nr4, nr5, nr6, nr7, nr8, nr9, tupV, plArg, tst, val?, bool?, get1, conD, flPO, flW, runB, runI, Def.env, Def.envW, opIdx, opBin, opCmp, eqD, kindM, Mt.mut, opMth, opBlt, keyD, intO, ofPO, nox, lcLoop, consO, Tgt.bind, wipeE, Tgt.own, itemsD, dictKs, isVar, freshE, G9.cellOf, G9.newCell, mutW, mutM, setC, locW, forLoop, Calls.locked, isT, G9.isNon, Cell.toD, at0, at1, at2, at3, cut1, cut01, sz1, sz2, sz3, sz4, t__law_cell_at, hc, hz, e3]
theorem drawn_ok (x k : Int) (n : Nat) (h : 1 ≤ n) : ∃ z : Int, callP T TI gl n "_law_drawn" [.int x, .int k] = .ok (.int z) := by
  obtain ⟨m, rfl⟩ : ∃ m, n = m + 1 := ⟨n - 1, by omega⟩
  rw [callP_T m _ _ _ t__law_drawn]
  have e1 := Int.emod_nonneg ((x + 104729 * k + 17) * 69621) (b := 2147483647) (by omega)
  have e2 := Int.emod_lt_of_pos ((x + 104729 * k + 17) * 69621) (b := 2147483647) (by omega)
  generalize hz : (x + 104729 * k + 17) * 69621 % 2147483647 = z at e1 e2
  refine ⟨(z * z + 3 * z + k) % 2147483629, ?_⟩
  have e3 : -18446744073709551616 < z ∧ z < 18446744073709551616 := by omega
  simp [d__law_drawn, b__law_drawn, G9.execs, G9.exec, ev, evB, evL, evP, evW, evK, evO, evC, evI, evIn, rdL, bnd, G9.ret, opt, stuck, rd, vl, vp, nr1, nr2, nr3, nr4, nr5, nr6, nr7, nr8, nr9, tupV, plArg, tst, val?, bool?, get1, conD, flPO, flW, runB, runI, Def.env, Def.envW, opIdx, opBin, opCmp, eqD, kindM, Mt.mut, opMth, opBlt, keyD, intO, ofPO, nox, lcLoop, consO, Tgt.bind, wipeE, Tgt.own, itemsD, dictKs, isVar, freshE, G9.cellOf, G9.newCell, mutW, mutM, setC, locW, forLoop, Calls.locked, isT, G9.isNon, Cell.toD, at0, at1, at2, at3, cut1, cut01, sz1, sz2, sz3, sz4, hz, e3]
/-- a settling, as pairs -/
def pD (p : Int × Tr) : D := .tup [.int p.1, p.2.d]
def kD (p : Int × Tr) : Key × D := (.inl p.1, p.2.d)
theorem kD_n (ps : List (Int × Tr)) : ∀ d ∈ (ps.map kD).map (·.2), nrm d = d := by
  intro d hd
  simp only [List.map_map, List.mem_map, Function.comp, kD] at hd
  obtain ⟨p, _, rfl⟩ := hd
  exact Tr.n _
theorem pairs_ok : ∀ ps : List (Int × Tr), pairsD (ps.map pD) = some (ps.map kD)
  | [] => rfl
  | p :: r => by
    simp [pairsD, pD, keyD, pairs_ok r, kD]
theorem put_kD (p : Int × Tr) (acc : List (Int × Tr)) : ∃ acc' : List (Int × Tr), putD (acc.map kD) (kD p).1 (kD p).2 = acc'.map kD ∧ ∀ q ∈ acc', q.2 = p.2 ∨ ∃ q' ∈ acc, q'.2 = q.2 := by
  unfold putD
  split
  · refine ⟨acc.map fun q => if q.1 = p.1 then (q.1, p.2) else q, ?_, ?_⟩
    · rw [List.map_map, List.map_map]
      apply List.map_congr_left
      intro q _
      simp only [Function.comp, kD, Sum.inl.injEq]
      split <;> rfl
    · intro q hq
      obtain ⟨q', h1, rfl⟩ := List.mem_map.mp hq
      split
      · exact .inl rfl
      · exact .inr ⟨q', h1, rfl⟩
  · refine ⟨acc ++ [p], by simp [kD], ?_⟩
    intro q hq
    rcases List.mem_append.mp hq with h | h
    · exact .inr ⟨q, h, rfl⟩
    · rw [List.mem_singleton] at h; subst h; exact .inl rfl
theorem merge_kD (P : Tr → Prop) : ∀ (ps acc : List (Int × Tr)), (∀ q ∈ acc, P q.2) → (∀ q ∈ ps, P q.2) → ∃ acc' : List (Int × Tr), mergeD (acc.map kD) (ps.map kD) = acc'.map kD ∧ ∀ q ∈ acc', P q.2
  | [], acc, h, _ => ⟨acc, rfl, h⟩
  | p :: r, acc, h, h' => by
    obtain ⟨acc1, e1, h1⟩ := put_kD p acc
    obtain ⟨acc2, e2, h2⟩ := merge_kD P r acc1 (fun q hq => by
      rcases h1 q hq with e | ⟨q', m, e⟩
      · rw [e]; exact h' p (by simp)
      · rw [← e]; exact h q' m) (fun q hq => h' q (by simp [hq]))
    refine ⟨acc2, ?_, h2⟩
    unfold mergeD at e2 ⊢
    rw [List.map_cons, List.foldl_cons, e1]
    exact e2
/-- what settles is settled -/
def look (ps : List (Int × Tr)) (i : Int) : Option Tr := match ps with
  | [] => none
  | p :: r => if p.1 = i then some p.2 else look r i
theorem getK_kD (i : Int) : ∀ ps : List (Int × Tr), getK (.inl i) ((ps.map kD).map (·.1)) ((ps.map kD).map (·.2)) = (look ps i).map Tr.d
  | [] => rfl
  | p :: r => by
    simp only [List.map_cons, kD, getK, look, Sum.inl.injEq]
    split
    · rfl
    · exact getK_kD i r
def stT (f : Int → Option Tr) : Tr → Tr
  | .unk i => (f i).getD (.unk i)
  | .nil w => .nil w
  | .one w a => .one w (stT f a)
  | .two w a b => .two w (stT f a) (stT f b)
theorem stl_T {ks : List Key} {vs : List D} {f : Int → Option Tr} (h : ∀ i, getK (.inl i) ks vs = (f i).map Tr.d) : ∀ t : Tr, stl ks vs t = (stT f t).d
  | .unk i => by
    simp only [stl, stT, h]
    cases f i <;> rfl
  | .nil w => rfl
  | .one w a => by simp only [stl, stT, Tr.d, stl_T h a]
  | .two w a b => by simp only [stl, stT, Tr.d, stl_T h a, stl_T h b]
theorem stT_ok {f : Int → Option Tr} (hf : ∀ i t, f i = some t → t.ok) : ∀ t : Tr, t.ok → (stT f t).ok
  | .unk i, _ => by
    simp only [stT]
    cases e : f i with
    | none => trivial
    | some u => exact hf i u e
  | .nil w, h => h
  | .one w a, h => ⟨h.1, stT_ok hf a h.2⟩
  | .two w a b, h => ⟨h.1, stT_ok hf a h.2.1, stT_ok hf b h.2.2⟩
theorem stT_h {f : Int → Option Tr} {k : Nat} (hf : ∀ i t, f i = some t → t.h ≤ k) : ∀ t : Tr, (stT f t).h ≤ t.h + k
  | .unk i => by
    simp only [stT]
    cases e : f i with
    | none => simp [Tr.h]
    | some u => have := hf i u e; simp [Tr.h]; exact this
  | .nil w => by simp [stT, Tr.h]
  | .one w a => by have := stT_h hf a; simp only [stT, Tr.h]; omega
  | .two w a b => by have := stT_h hf a; have := stT_h hf b; simp only [stT, Tr.h]; omega
theorem deq_refl : ∀ t : Tr, deq t.d t.d = true
  | .unk i => by simp [Tr.d, deq, deqs]
  | .nil w => by simp [Tr.d, deq, deqs]
  | .one w a => by simp [Tr.d, deq, deqs, deq_refl a]
  | .two w a b => by simp [Tr.d, deq, deqs, deq_refl a, deq_refl b]
theorem su : PyData.strOk "unknown" = true := by decide +kernel
theorem lay_ok : ∀ t : Tr, t.ok → lay t.d = true
  | .unk i, _ => by simp [Tr.d, lay, lays, su]
  | .nil w, h => by simp [Tr.d, lay, lays, (okW_n h).2]
  | .one w a, h => by simp [Tr.d, lay, lays, (okW_o h.1).2, lay_ok a h.2]
  | .two w a b, h => by simp [Tr.d, lay, lays, (okW_t h.1).2, lay_ok a h.2.1, lay_ok b h.2.2]
theorem dep_le : ∀ t : Tr, dep t.d ≤ t.h + 1
  | .unk i => by simp [Tr.d, dep, deps]
  | .nil w => by simp [Tr.d, dep, deps]
  | .one w a => by have := dep_le a; simp [Tr.d, dep, deps, Tr.h]; omega
  | .two w a b => by have := dep_le a; have := dep_le b; simp [Tr.d, dep, deps, Tr.h]; omega
theorem eqOk_T {t : Tr} (h : t.ok) (hh : t.h ≤ 100) : eqOk t.d = true := by
  have := dep_le t
  simp [eqOk, lay_ok t h]
  omega
theorem tupd (t : Tr) : ∃ xs, t.d = .tup xs := by cases t <;> exact ⟨_, rfl⟩
theorem eqD_T {t : Tr} (h : t.ok) (hh : t.h ≤ 100) : eqD t.d t.d = some true := by
  obtain ⟨xs, e⟩ := tupd t
  have h1 := eqOk_T h hh
  have h2 := deq_refl t
  rw [e] at h1 h2 ⊢
  simp [eqD, h1, h2]
theorem eqD_ne {t u : Tr} (h : t.ok) (hh : t.h ≤ 100) (h' : u.ok) (hh' : u.h ≤ 100) : eqD t.d u.d = some (deq t.d u.d) := by
  obtain ⟨xs, e⟩ := tupd t
  obtain ⟨ys, e'⟩ := tupd u
  have h1 := eqOk_T h hh
  have h2 := eqOk_T h' hh'
  rw [e] at h1 ⊢
  rw [e'] at h2 ⊢
  simp [eqD, h1, h2]
theorem settled_ok {ps acc : List (Int × Tr)} (he : mergeD [] (ps.map kD) = acc.map kD) {t : Tr} {n : Nat} (ht : t.ok) (hn : t.h + 1 < n) : callP T TI gl n "settled" [t.d, .ptp (ps.map pD)] = .ok (stT (look acc) t).d := by
  obtain ⟨m, rfl⟩ : ∃ m, n = m + 1 := ⟨n - 1, by omega⟩
  rw [callP_T m _ _ _ t_settled]
  have e1 := settled_by_ok ((acc.map kD).map (·.1)) ((acc.map kD).map (·.2)) (kD_n acc) t m ht (by omega)
  rw [stl_T (getK_kD · acc)] at e1
  simp [d_settled, b_settled, Tr.n, G9.execs, G9.exec, ev, evB, evL, evP, evW, evK, evO, evC, evI, evIn, rdL, bnd, G9.ret, opt, stuck, rd, vl, vp, nr1, nr2, nr3, nr4, nr5, nr6, nr7, nr8, nr9, tupV, plArg, tst, val?, bool?, get1, conD, flPO, flW, runB, runI, Def.env, Def.envW, opIdx, opBin, opCmp, eqD, kindM, Mt.mut, opMth, opBlt, keyD, intO, ofPO, nox, lcLoop, consO, Tgt.bind, wipeE, Tgt.own, itemsD, dictKs, isVar, freshE, G9.cellOf, G9.newCell, mutW, mutM, setC, locW, forLoop, Calls.locked, isT, G9.isNon, Cell.toD, at0, at1, at2, at3, cut1, cut01, sz1, sz2, sz3, sz4, t_settled_by, pairs_ok, he, dictD]
  simp at e1
  rw [e1]
  simp [Tr.n, G9.execs, G9.exec, ev, evB, evL, evP, evW, evK, evO, evC, evI, evIn, rdL, bnd, G9.ret, opt, stuck, rd, vl, vp, nr1, nr2, nr3, nr4, nr5, nr6, nr7, nr8, nr9, tupV, plArg, tst, val?, bool?, get1, conD, flPO, flW, runB, runI, Def.env, Def.envW, opIdx, opBin, opCmp, eqD, kindM, Mt.mut, opMth, opBlt, keyD, intO, ofPO, nox, lcLoop, consO, Tgt.bind, wipeE, Tgt.own, itemsD, dictKs, isVar, freshE, G9.cellOf, G9.newCell, mutW, mutM, setC, locW, forLoop, Calls.locked, isT, G9.isNon, Cell.toD, at0, at1, at2, at3, cut1, cut01, sz1, sz2, sz3, sz4]
/-! ### drawn -/
theorem sort_ok (wild : Int) : ∀ (deep : Nat) (x : Int) (n : Nat), deep + 2 ≤ n → ∃ t : Tr, callP T TI gl n "_law_sort" [.int x, .int deep, .int wild] = .ok t.d ∧ t.ok ∧ t.h ≤ deep := by
  intro deep
  induction deep with
  | zero =>
    intro x n hn
    obtain ⟨m, rfl⟩ : ∃ m, n = m + 1 := ⟨n - 1, by omega⟩
    rw [callP_T m _ _ _ t__law_sort]
    by_cases h : x % 8 % 3 < wild
    · refine ⟨.unk (x / 8 % 4), ?_, trivial, by simp [Tr.h]⟩
      simp [d__law_sort, b__law_sort, Tr.n, G9.execs, G9.exec, ev, evB, evL, evP, evW, evK, evO, evC, evI, evIn, rdL, bnd, G9.ret, opt, stuck, rd, vl, vp, nr1, nr2, nr3, nr4, nr5, nr6, nr7, nr8, nr9, tupV, plArg, tst, val?, bool?, get1, conD, flPO, flW, runB, runI, Def.env, Def.envW, opIdx, opBin, opCmp, eqD, kindM, Mt.mut, opMth, opBlt, keyD, intO, ofPO, nox, lcLoop, consO, Tgt.bind, wipeE, Tgt.own, itemsD, dictKs, isVar, freshE, G9.cellOf, G9.newCell, mutW, mutM, setC, locW, forLoop, Calls.locked, isT, G9.isNon, Cell.toD, at0, at1, at2, at3, cut1, cut01, sz1, sz2, sz3, sz4, h, Tr.d]
    · have h2 : x / 8 % 2 = 0 ∨ x / 8 % 2 = 1 := by omega
      rcases h2 with h2 | h2
      · refine ⟨.nil "number", ?_, .inl rfl, by simp [Tr.h]⟩
        simp [d__law_sort, b__law_sort, Tr.n, G9.execs, G9.exec, ev, evB, evL, evP, evW, evK, evO, evC, evI, evIn, rdL, bnd, G9.ret, opt, stuck, rd, vl, vp, nr1, nr2, nr3, nr4, nr5, nr6, nr7, nr8, nr9, tupV, plArg, tst, val?, bool?, get1, conD, flPO, flW, runB, runI, Def.env, Def.envW, opIdx, opBin, opCmp, eqD, kindM, Mt.mut, opMth, opBlt, keyD, intO, ofPO, nox, lcLoop, consO, Tgt.bind, wipeE, Tgt.own, itemsD, dictKs, isVar, freshE, G9.cellOf, G9.newCell, mutW, mutM, setC, locW, forLoop, Calls.locked, isT, G9.isNon, Cell.toD, at0, at1, at2, at3, cut1, cut01, sz1, sz2, sz3, sz4, h, Tr.d, h2]
      · refine ⟨.nil "truth", ?_, .inr rfl, by simp [Tr.h]⟩
        simp [d__law_sort, b__law_sort, Tr.n, G9.execs, G9.exec, ev, evB, evL, evP, evW, evK, evO, evC, evI, evIn, rdL, bnd, G9.ret, opt, stuck, rd, vl, vp, nr1, nr2, nr3, nr4, nr5, nr6, nr7, nr8, nr9, tupV, plArg, tst, val?, bool?, get1, conD, flPO, flW, runB, runI, Def.env, Def.envW, opIdx, opBin, opCmp, eqD, kindM, Mt.mut, opMth, opBlt, keyD, intO, ofPO, nox, lcLoop, consO, Tgt.bind, wipeE, Tgt.own, itemsD, dictKs, isVar, freshE, G9.cellOf, G9.newCell, mutW, mutM, setC, locW, forLoop, Calls.locked, isT, G9.isNon, Cell.toD, at0, at1, at2, at3, cut1, cut01, sz1, sz2, sz3, sz4, h, Tr.d, h2]
  | succ deep ih =>
    intro x n hn
    obtain ⟨m, rfl⟩ : ∃ m, n = m + 1 := ⟨n - 1, by omega⟩
    rw [callP_T m _ _ _ t__law_sort]
    have hd : ¬ ((deep : Int) + 1 = 0) := by omega
    by_cases h3 : x % 8 < 3
    · by_cases h : x % 8 % 3 < wild
      · refine ⟨.unk (x / 8 % 4), ?_, trivial, by simp [Tr.h]⟩
        simp [d__law_sort, b__law_sort, Tr.n, G9.execs, G9.exec, ev, evB, evL, evP, evW, evK, evO, evC, evI, evIn, rdL, bnd, G9.ret, opt, stuck, rd, vl, vp, nr1, nr2, nr3, nr4, nr5, nr6, nr7, nr8, nr9, tupV, plArg, tst, val?, bool?, get1, conD, flPO, flW, runB, runI, Def.env, Def.envW, opIdx, opBin, opCmp, eqD, kindM, Mt.mut, opMth, opBlt, keyD, intO, ofPO, nox, lcLoop, consO, Tgt.bind, wipeE, Tgt.own, itemsD, dictKs, isVar, freshE, G9.cellOf, G9.newCell, mutW, mutM, setC, locW, forLoop, Calls.locked, isT, G9.isNon, Cell.toD, at0, at1, at2, at3, cut1, cut01, sz1, sz2, sz3, sz4, h, h3, Tr.d, hd]
      · have h2 : x / 8 % 2 = 0 ∨ x / 8 % 2 = 1 := by omega
        rcases h2 with h2 | h2
        · refine ⟨.nil "number", ?_, .inl rfl, by simp [Tr.h]⟩
          simp [d__law_sort, b__law_sort, Tr.n, G9.execs, G9.exec, ev, evB, evL, evP, evW, evK, evO, evC, evI, evIn, rdL, bnd, G9.ret, opt, stuck, rd, vl, vp, nr1, nr2, nr3, nr4, nr5, nr6, nr7, nr8, nr9, tupV, plArg, tst, val?, bool?, get1, conD, flPO, flW, runB, runI, Def.env, Def.envW, opIdx, opBin, opCmp, eqD, kindM, Mt.mut, opMth, opBlt, keyD, intO, ofPO, nox, lcLoop, consO, Tgt.bind, wipeE, Tgt.own, itemsD, dictKs, isVar, freshE, G9.cellOf, G9.newCell, mutW, mutM, setC, locW, forLoop, Calls.locked, isT, G9.isNon, Cell.toD, at0, at1, at2, at3, cut1, cut01, sz1, sz2, sz3, sz4, h, h3, Tr.d, h2, hd]
        · refine ⟨.nil "truth", ?_, .inr rfl, by simp [Tr.h]⟩
          simp [d__law_sort, b__law_sort, Tr.n, G9.execs, G9.exec, ev, evB, evL, evP, evW, evK, evO, evC, evI, evIn, rdL, bnd, G9.ret, opt, stuck, rd, vl, vp, nr1, nr2, nr3, nr4, nr5, nr6, nr7, nr8, nr9, tupV, plArg, tst, val?, bool?, get1, conD, flPO, flW, runB, runI, Def.env, Def.envW, opIdx, opBin, opCmp, eqD, kindM, Mt.mut, opMth, opBlt, keyD, intO, ofPO, nox, lcLoop, consO, Tgt.bind, wipeE, Tgt.own, itemsD, dictKs, isVar, freshE, G9.cellOf, G9.newCell, mutW, mutM, setC, locW, forLoop, Calls.locked, isT, G9.isNon, Cell.toD, at0, at1, at2, at3, cut1, cut01, sz1, sz2, sz3, sz4, h, h3, Tr.d, h2, hd]
    · obtain ⟨y1, k1⟩ := drawn_ok x 1 m (by omega)
      obtain ⟨y2, k2⟩ := drawn_ok x 2 m (by omega)
      obtain ⟨t1, e1, o1, g1⟩ := ih y1 m (by omega)
      obtain ⟨t2, e2, o2, g2⟩ := ih y2 m (by omega)
      have hs : (deep : Int) + 1 - 1 = deep := by omega
      by_cases h7 : x % 8 = 7
      · refine ⟨.one "row" t1, ?_, ⟨rfl, o1⟩, by simp [Tr.h]; omega⟩
        simp [d__law_sort, b__law_sort, Tr.n, G9.execs, G9.exec, ev, evB, evL, evP, evW, evK, evO, evC, evI, evIn, rdL, bnd, G9.ret, opt, stuck, rd, vl, vp, nr1, nr2, nr3, nr4, nr5, nr6, nr7, nr8, nr9, tupV, plArg, tst, val?, bool?, get1, conD, flPO, flW, runB, runI, Def.env, Def.envW, opIdx, opBin, opCmp, eqD, kindM, Mt.mut, opMth, opBlt, keyD, intO, ofPO, nox, lcLoop, consO, Tgt.bind, wipeE, Tgt.own, itemsD, dictKs, isVar, freshE, G9.cellOf, G9.newCell, mutW, mutM, setC, locW, forLoop, Calls.locked, isT, G9.isNon, Cell.toD, at0, at1, at2, at3, cut1, cut01, sz1, sz2, sz3, sz4, h7, Tr.d, hd, t__law_drawn, t__law_sort, k1, k2, e1, e2, hs]
      · have hk : x % 8 - 3 = 0 ∨ x % 8 - 3 = 1 ∨ x % 8 - 3 = 2 ∨ x % 8 - 3 = 3 := by omega
        rcases hk with hk | hk | hk | hk
        · refine ⟨.two "way" t1 t2, ?_, ⟨.inl rfl, o1, o2⟩, by simp [Tr.h]; omega⟩
          simp [d__law_sort, b__law_sort, Tr.n, G9.execs, G9.exec, ev, evB, evL, evP, evW, evK, evO, evC, evI, evIn, rdL, bnd, G9.ret, opt, stuck, rd, vl, vp, nr1, nr2, nr3, nr4, nr5, nr6, nr7, nr8, nr9, tupV, plArg, tst, val?, bool?, get1, conD, flPO, flW, runB, runI, Def.env, Def.envW, opIdx, opBin, opCmp, eqD, kindM, Mt.mut, opMth, opBlt, keyD, intO, ofPO, nox, lcLoop, consO, Tgt.bind, wipeE, Tgt.own, itemsD, dictKs, isVar, freshE, G9.cellOf, G9.newCell, mutW, mutM, setC, locW, forLoop, Calls.locked, isT, G9.isNon, Cell.toD, at0, at1, at2, at3, cut1, cut01, sz1, sz2, sz3, sz4, h3, h7, hk, Tr.d, hd, t__law_drawn, t__law_sort, k1, k2, e1, e2, hs]
        · refine ⟨.two "way" t1 t2, ?_, ⟨.inl rfl, o1, o2⟩, by simp [Tr.h]; omega⟩
          simp [d__law_sort, b__law_sort, Tr.n, G9.execs, G9.exec, ev, evB, evL, evP, evW, evK, evO, evC, evI, evIn, rdL, bnd, G9.ret, opt, stuck, rd, vl, vp, nr1, nr2, nr3, nr4, nr5, nr6, nr7, nr8, nr9, tupV, plArg, tst, val?, bool?, get1, conD, flPO, flW, runB, runI, Def.env, Def.envW, opIdx, opBin, opCmp, eqD, kindM, Mt.mut, opMth, opBlt, keyD, intO, ofPO, nox, lcLoop, consO, Tgt.bind, wipeE, Tgt.own, itemsD, dictKs, isVar, freshE, G9.cellOf, G9.newCell, mutW, mutM, setC, locW, forLoop, Calls.locked, isT, G9.isNon, Cell.toD, at0, at1, at2, at3, cut1, cut01, sz1, sz2, sz3, sz4, h3, h7, hk, Tr.d, hd, t__law_drawn, t__law_sort, k1, k2, e1, e2, hs]
        · refine ⟨.two "pair" t1 t2, ?_, ⟨.inr rfl, o1, o2⟩, by simp [Tr.h]; omega⟩
          simp [d__law_sort, b__law_sort, Tr.n, G9.execs, G9.exec, ev, evB, evL, evP, evW, evK, evO, evC, evI, evIn, rdL, bnd, G9.ret, opt, stuck, rd, vl, vp, nr1, nr2, nr3, nr4, nr5, nr6, nr7, nr8, nr9, tupV, plArg, tst, val?, bool?, get1, conD, flPO, flW, runB, runI, Def.env, Def.envW, opIdx, opBin, opCmp, eqD, kindM, Mt.mut, opMth, opBlt, keyD, intO, ofPO, nox, lcLoop, consO, Tgt.bind, wipeE, Tgt.own, itemsD, dictKs, isVar, freshE, G9.cellOf, G9.newCell, mutW, mutM, setC, locW, forLoop, Calls.locked, isT, G9.isNon, Cell.toD, at0, at1, at2, at3, cut1, cut01, sz1, sz2, sz3, sz4, h3, h7, hk, Tr.d, hd, t__law_drawn, t__law_sort, k1, k2, e1, e2, hs]
        · refine ⟨.two "pair" t1 t2, ?_, ⟨.inr rfl, o1, o2⟩, by simp [Tr.h]; omega⟩
          simp [d__law_sort, b__law_sort, Tr.n, G9.execs, G9.exec, ev, evB, evL, evP, evW, evK, evO, evC, evI, evIn, rdL, bnd, G9.ret, opt, stuck, rd, vl, vp, nr1, nr2, nr3, nr4, nr5, nr6, nr7, nr8, nr9, tupV, plArg, tst, val?, bool?, get1, conD, flPO, flW, runB, runI, Def.env, Def.envW, opIdx, opBin, opCmp, eqD, kindM, Mt.mut, opMth, opBlt, keyD, intO, ofPO, nox, lcLoop, consO, Tgt.bind, wipeE, Tgt.own, itemsD, dictKs, isVar, freshE, G9.cellOf, G9.newCell, mutW, mutM, setC, locW, forLoop, Calls.locked, isT, G9.isNon, Cell.toD, at0, at1, at2, at3, cut1, cut01, sz1, sz2, sz3, sz4, h3, h7, hk, Tr.d, hd, t__law_drawn, t__law_sort, k1, k2, e1, e2, hs]
theorem settling_loop (x : Int) (m : Nat) (hm : 6 ≤ m) : ∀ (ks : List Nat) (v : Option Wv) (acc : List (Int × Tr)), acc.length + ks.length ≤ 100 → (∀ q ∈ acc, q.2.ok ∧ q.2.h ≤ 2) →
    ∃ (v' : Option Wv) (acc' : List (Int × Tr)), forLoop (frB ⟨callP T TI gl m, false, gl, fun f => (T f).isSome, callI T TI gl m, fun f => (TI f).isSome⟩ (tgtAt b__law_settling 1) (bodyAt b__law_settling 1)) (ks.map fun (k : Nat) => D.int k) [some (.val (.int x)), some (.val (.int 2)), some (.loc 0), v] [.lst (acc.map pD)] = .ok (.nx [some (.val (.int x)), some (.val (.int 2)), some (.loc 0), v']) [.lst (acc'.map pD)] ∧ ∀ q ∈ acc', q.2.ok ∧ q.2.h ≤ 2 := by
  intro ks
  induction ks with
  | nil => intro v acc _ h; exact ⟨v, acc, rfl, h⟩
  | cons k ks ih =>
    intro v acc hl h
    simp only [List.length_cons] at hl
    obtain ⟨z, hz⟩ := drawn_ok x k m (by omega)
    obtain ⟨z2, hz2⟩ := drawn_ok x (20 + (k : Int)) m (by omega)
    obtain ⟨t, e1, o1, g1⟩ := sort_ok 1 2 z2 m (by omega)
    have hs : acc.length < sizeLine := by have := sz (acc.length + 1) (by omega); omega
    by_cases hk : 0 < z % 3
    · obtain ⟨v', acc', h1, h2⟩ := ih (some (.val (.int k))) (acc ++ [((k : Int), t)]) (by simp; omega) (fun q hq => by
        rcases List.mem_append.mp hq with hq | hq
        · exact h q hq
        · rw [List.mem_singleton] at hq; subst hq; exact ⟨o1, g1⟩)
      refine ⟨v', acc', ?_, h2⟩
      rw [← h1]
      simp at e1
      simp [forLoop, frB, tgtAt, bodyAt, b__law_settling, Tr.n, G9.execs, G9.exec, ev, evB, evL, evP, evW, evK, evO, evC, evI, evIn, rdL, bnd, G9.ret, opt, stuck, rd, vl, vp, nr1, nr2, nr3, nr4, nr5, nr6, nr7, nr8, nr9, tupV, plArg, tst, val?, bool?, get1, conD, flPO, flW, runB, runI, Def.env, Def.envW, opIdx, opBin, opCmp, ↓exec_fr, ↓ev_lcB, dict0, eqDs, eqDn, eqDb, kindM, Mt.mut, opMth, opBlt, keyD, intO, ofPO, nox, consO, Tgt.bind, wipeE, Tgt.own, itemsD, dictKs, isVar, freshE, G9.cellOf, G9.newCell, mutW, mutM, setC, locW, Calls.locked, isT, G9.isNon, Cell.toD, at0, at1, at2, at3, cut1, cut01, sz1, sz2, sz3, sz4, t__law_drawn, t__law_sort, hz, hz2, e1, hk, hs, pD]
    · obtain ⟨v', acc', h1, h2⟩ := ih (some (.val (.int k))) acc (by omega) h
      refine ⟨v', acc', ?_, h2⟩
      rw [← h1]
      simp [forLoop, frB, tgtAt, bodyAt, b__law_settling, Tr.n, G9.execs, G9.exec, ev, evB, evL, evP, evW, evK, evO, evC, evI, evIn, rdL, bnd, G9.ret, opt, stuck, rd, vl, vp, nr1, nr2, nr3, nr4, nr5, nr6, nr7, nr8, nr9, tupV, plArg, tst, val?, bool?, get1, conD, flPO, flW, runB, runI, Def.env, Def.envW, opIdx, opBin, opCmp, ↓exec_fr, ↓ev_lcB, dict0, eqDs, eqDn, eqDb, kindM, Mt.mut, opMth, opBlt, keyD, intO, ofPO, nox, consO, Tgt.bind, wipeE, Tgt.own, itemsD, dictKs, isVar, freshE, G9.cellOf, G9.newCell, mutW, mutM, setC, locW, Calls.locked, isT, G9.isNon, Cell.toD, at0, at1, at2, at3, cut1, cut01, sz1, sz2, sz3, sz4, t__law_drawn, t__law_sort, hz, hk]
theorem settling_ok (x : Int) (n : Nat) (hn : 7 ≤ n) : ∃ ps : List (Int × Tr), callP T TI gl n "_law_settling" [.int x, .int 2] = .ok (.ptp (ps.map pD)) ∧ ∀ q ∈ ps, q.2.ok ∧ q.2.h ≤ 2 := by
  obtain ⟨m, rfl⟩ : ∃ m, n = m + 1 := ⟨n - 1, by omega⟩
  rw [callP_T m _ _ _ t__law_settling]
  obtain ⟨v', acc', h1, h2⟩ := settling_loop x m (by omega) (List.range 5) none [] (by simp) (by simp)
  refine ⟨acc', ?_, h2⟩
  have hr : rngD 0 5 = (List.range 5).map fun (k : Nat) => D.int k := by simp [rngD]
  simp only [b__law_settling, tgtAt, bodyAt, List.getElem?_cons_succ, List.getElem?_cons_zero, List.map_nil] at h1
  simp [d__law_settling, b__law_settling, Tr.n, G9.execs, G9.exec, ev, evB, evL, evP, evW, evK, evO, evC, evI, evIn, rdL, bnd, G9.ret, opt, stuck, rd, vl, vp, nr1, nr2, nr3, nr4, nr5, nr6, nr7, nr8, nr9, tupV, plArg, tst, val?, bool?, get1, conD, flPO, flW, runB, runI, Def.env, Def.envW, opIdx, opBin, opCmp, ↓exec_fr, ↓ev_lcB, dict0, eqDs, eqDn, eqDb, kindM, Mt.mut, opMth, opBlt, keyD, intO, ofPO, nox, consO, Tgt.bind, wipeE, Tgt.own, itemsD, dictKs, isVar, freshE, G9.cellOf, G9.newCell, mutW, mutM, setC, locW, Calls.locked, isT, G9.isNon, Cell.toD, at0, at1, at2, at3, cut1, cut01, sz1, sz2, sz3, sz4, rngOf, hr, h1]
def dkOf (ps : List (Int × Tr)) : List Key := (ps.map kD).map (·.1)
def dvOf (ps : List (Int × Tr)) : List D := (ps.map kD).map (·.2)
theorem zip_of (ps : List (Int × Tr)) : (dkOf ps).zip (dvOf ps) = ps.map kD := by
  unfold dkOf dvOf
  induction ps with
  | nil => rfl
  | cons p r ih => simp at ih ⊢; exact ih
theorem getK_of (i : Int) (ps : List (Int × Tr)) : getK (.inl i) (dkOf ps) (dvOf ps) = (look ps i).map Tr.d := getK_kD i ps
theorem any_look (i : Int) : ∀ ps : List (Int × Tr), ((ps.map kD).any fun kv => decide (kv.1 = .inl i)) = (look ps i).isSome
  | [] => rfl
  | p :: r => by
    simp only [List.map_cons, List.any_cons, any_look i r, look, kD, Sum.inl.injEq]
    by_cases h : p.1 = i <;> simp [h]
theorem put_new {ps : List (Int × Tr)} {i : Int} (h : look ps i = none) (t : Tr) : putD (ps.map kD) (.inl i) t.d = (ps ++ [(i, t)]).map kD := by
  unfold putD
  rw [any_look, h]
  simp [kD]
theorem dk_len (ps : List (Int × Tr)) : (dkOf ps).length = ps.length := by simp [dkOf]
theorem look_app {ps : List (Int × Tr)} {i : Int} {v : Tr} (h : look ps i = some v) (r : List (Int × Tr)) : look (ps ++ r) i = some v := by
  induction ps with
  | nil => cases h
  | cons p ps ih =>
    simp only [look, List.cons_append] at h ⊢
    split
    · rw [if_pos (by assumption)] at h; exact h
    · rw [if_neg (by assumption)] at h; exact ih h
theorem look_new {ps : List (Int × Tr)} {i : Int} (h : look ps i = none) (v : Tr) : look (ps ++ [(i, v)]) i = some v := by
  induction ps with
  | nil => simp [look]
  | cons p ps ih =>
    simp only [look, List.cons_append] at h ⊢
    split
    · rw [if_pos (by assumption)] at h; cases h
    · rw [if_neg (by assumption)] at h; exact ih h
end K13

set_option Elab.async false
set_option linter.all false
set_option maxRecDepth 100000
set_option maxHeartbeats 4000000
namespace K13
open PySem L2 G9
def cstep (ps : List (Int × Tr)) (x : Int) : List (Int × Tr) := if (look ps x).isSome = true then ps else ps ++ [(x, .unk ps.length)]
def cnt (ps : List (Int × Tr)) (xs : List Int) : List (Int × Tr) := xs.foldl cstep ps
theorem cstep_ext {ps : List (Int × Tr)} {i x : Int} {v : Tr} (h : look ps i = some v) : look (cstep ps x) i = some v := by
  unfold cstep
  split
  · exact h
  · exact look_app h _
theorem cnt_ext {i : Int} {v : Tr} : ∀ (xs : List Int) {ps : List (Int × Tr)}, look ps i = some v → look (cnt ps xs) i = some v
  | [], _, h => h
  | x :: r, ps, h => cnt_ext r (ps := cstep ps x) (cstep_ext h)
def idl (n : Nat) : List (Int × Tr) := (List.range n).map fun (i : Nat) => ((i : Int), Tr.unk i)
theorem idl_succ (n : Nat) : idl (n + 1) = idl n ++ [((n : Int), Tr.unk n)] := by simp [idl, List.range_succ]
theorem look_idl (n : Nat) (j : Int) : look (idl n) j = if 0 ≤ j ∧ j < n then some (.unk j) else none := by
  induction n with
  | zero => rw [if_neg (by omega)]; rfl
  | succ n ih =>
    rw [idl_succ]
    by_cases h : 0 ≤ j ∧ j < n
    · rw [if_pos (by omega)]
      rw [if_pos h] at ih
      exact look_app ih _
    · rw [if_neg h] at ih
      by_cases h2 : j = n
      · subst h2
        rw [if_pos (by omega)]
        exact look_new ih _
      · rw [if_neg (by omega)]
        have : ∀ (ps : List (Int × Tr)), look ps j = none → look (ps ++ [((n : Int), Tr.unk n)]) j = none := by
          intro ps hp
          induction ps with
          | nil => simp [look]; omega
          | cons p ps ih2 =>
            simp only [look, List.cons_append] at hp ⊢
            split
            · rw [if_pos (by assumption)] at hp; cases hp
            · rw [if_neg (by assumption)] at hp; exact ih2 hp
        exact this _ ih
def gOf (F : List (Int × Tr)) (x : Int) : Int := match look F x with
  | some (.unk j) => j
  | _ => x
def allU (n : Nat) (ps : List (Int × Tr)) : Prop := ∀ i v, look ps i = some v → ∃ j : Nat, j < n ∧ v = .unk j
theorem allU_step {n : Nat} {ps : List (Int × Tr)} {x : Int} (h : allU n ps) (hl : ps.length = n) (hx : look ps x = none) : allU (n + 1) (ps ++ [(x, .unk n)]) := by
  intro i v hv
  by_cases e : (look ps i).isSome
  · obtain ⟨u, hu⟩ := Option.isSome_iff_exists.mp e
    rw [look_app hu] at hv
    cases hv
    obtain ⟨j, h1, h2⟩ := h i _ hu
    exact ⟨j, by omega, h2⟩
  · have e' : look ps i = none := by simpa using e
    by_cases hi : i = x
    · subst hi
      rw [look_new e'] at hv
      cases hv
      exact ⟨n, by omega, rfl⟩
    · have : ∀ (ps : List (Int × Tr)), look ps i = none → look (ps ++ [(x, Tr.unk n)]) i = none := by
        intro ps hp
        induction ps with
        | nil => simp [look]; exact fun z => hi z.symm
        | cons p ps ih2 =>
          simp only [look, List.cons_append] at hp ⊢
          split
          · rw [if_pos (by assumption)] at hp; cases hp
          · rw [if_neg (by assumption)] at hp; exact ih2 hp
      rw [this _ e'] at hv
      cases hv
theorem cnt_g : ∀ (xs : List Int) (ps : List (Int × Tr)) (n : Nat), ps.length = n → allU n ps → (∃ n', cnt (idl n) (xs.map (gOf (cnt ps xs))) = idl n') ∧ ∃ n', allU n' (cnt ps xs)
  | [], ps, n, _, h => ⟨⟨n, rfl⟩, n, h⟩
  | x :: r, ps, n, hl, h => by
    show (∃ n', cnt (idl n) ((x :: r).map (gOf (cnt (cstep ps x) r))) = idl n') ∧ ∃ n', allU n' (cnt (cstep ps x) r)
    rw [List.map_cons]
    show (∃ n', cnt (cstep (idl n) (gOf (cnt (cstep ps x) r) x)) (r.map (gOf (cnt (cstep ps x) r))) = idl n') ∧ _
    by_cases e : (look ps x).isSome = true
    · have e1 : cstep ps x = ps := by unfold cstep; rw [if_pos e]
      obtain ⟨u, hu⟩ := Option.isSome_iff_exists.mp e
      obtain ⟨j, h1, h2⟩ := h x u hu
      have e2 : gOf (cnt ps r) x = j := by unfold gOf; rw [cnt_ext r hu, h2]
      have e3 : cstep (idl n) (j : Int) = idl n := by
        have q : look (idl n) (j : Int) = some (.unk j) := by rw [look_idl]; exact if_pos ⟨by omega, by omega⟩
        unfold cstep
        rw [q]
        rfl
      rw [e1, e2, e3]
      exact cnt_g r ps n hl h
    · have e0 : look ps x = none := by simpa using e
      have e1 : cstep ps x = ps ++ [(x, .unk n)] := by unfold cstep; rw [if_neg e, hl]
      have e2 : gOf (cnt (cstep ps x) r) x = n := by unfold gOf; rw [cnt_ext r (v := .unk n) (by rw [e1]; exact look_new e0 _)]
      have e3 : cstep (idl n) (n : Int) = idl (n + 1) := by
        have q : look (idl n) (n : Int) = none := by rw [look_idl]; exact if_neg (by omega)
        unfold cstep
        rw [q, idl_succ]
        simp [idl]
      rw [e2, e3, e1]
      exact cnt_g r _ (n + 1) (by simp [hl]) (allU_step h hl e0)
theorem unk_st {F : List (Int × Tr)} {n : Nat} (h : allU n F) : ∀ t : Tr, unk (stT (look F) t) = (unk t).map (gOf F)
  | .unk i => by
    simp only [stT, unk, List.map_cons, List.map_nil, gOf]
    cases e : look F i with
    | none => rfl
    | some v =>
      obtain ⟨j, _, rfl⟩ := h i v e
      rfl
  | .nil w => rfl
  | .one w a => by simp only [stT, unk, unk_st h a]
  | .two w a b => by simp only [stT, unk, unk_st h a, unk_st h b, List.map_append]
theorem st_id {f : Int → Option Tr} (h : ∀ i v, f i = some v → v = .unk i) : ∀ t : Tr, stT f t = t
  | .unk i => by
    simp only [stT]
    cases e : f i with
    | none => rfl
    | some v => rw [h i v e]; rfl
  | .nil w => rfl
  | .one w a => by simp only [stT, st_id h a]
  | .two w a b => by simp only [stT, st_id h a, st_id h b]
/-- what is counted -/
def ctd (t : Tr) : Tr := stT (look (cnt [] (unk t))) t
theorem ctd_ctd (t : Tr) : ctd (ctd t) = ctd t := by
  obtain ⟨⟨n', h1⟩, n, h2⟩ := cnt_g (unk t) [] 0 rfl (fun i v h => by cases h)
  show stT (look (cnt [] (unk (ctd t)))) (ctd t) = ctd t
  unfold ctd
  rw [unk_st h2]
  have h1 : cnt [] ((unk t).map (gOf (cnt [] (unk t)))) = idl n' := h1
  rw [h1]
  refine st_id (fun i v hv => ?_) _
  rw [look_idl] at hv
  split at hv
  · exact (Option.some.inj hv).symm
  · cases hv
theorem ctd_ok (t : Tr) (h : t.ok) : (ctd t).ok ∧ (ctd t).h ≤ t.h := by
  obtain ⟨_, n, h2⟩ := cnt_g (unk t) [] 0 rfl (fun i v h => by cases h)
  refine ⟨stT_ok (fun i v hv => ?_) t h, ?_⟩
  · obtain ⟨j, _, rfl⟩ := h2 i v hv
    trivial
  · exact stT_h (k := 0) (fun i v hv => by obtain ⟨j, _, rfl⟩ := h2 i v hv; simp [Tr.h]) t
theorem cnt_len : ∀ (xs : List Int) (ps : List (Int × Tr)), (cnt ps xs).length ≤ ps.length + xs.length
  | [], ps => Nat.le_refl _
  | x :: r, ps => by
    have := cnt_len r (cstep ps x)
    have h2 : (cstep ps x).length ≤ ps.length + 1 := by unfold cstep; split <;> simp
    show (cnt (cstep ps x) r).length ≤ _
    simp only [List.length_cons]
    omega
theorem counted_loop (C : Calls) (t : D) : ∀ (xs : List Int) (v : Option Wv) (ps : List (Int × Tr)), ps.length + xs.length ≤ 1000 →
    ∃ v', forLoop (frB C (tgtAt b_counted 1) (bodyAt b_counted 1)) (xs.map D.int) [some (.val t), some (.loc 0), v] [.dict (dkOf ps) (dvOf ps)] = .ok (.nx [some (.val t), some (.loc 0), v']) [.dict (dkOf (cnt ps xs)) (dvOf (cnt ps xs))] := by
  intro xs
  induction xs with
  | nil => intro v ps _; exact ⟨v, rfl⟩
  | cons x r ih =>
    intro v ps hl
    simp only [List.length_cons] at hl
    have h2 : (cstep ps x).length ≤ ps.length + 1 := by unfold cstep; split <;> simp
    obtain ⟨v', h1⟩ := ih (some (.val (.int x))) (cstep ps x) (by omega)
    refine ⟨v', ?_⟩
    show _ = Out.ok _ [.dict (dkOf (cnt (cstep ps x) r)) (dvOf (cnt (cstep ps x) r))]
    rw [← h1]
    have hs : ps.length < sizeLine := by have := sz (ps.length + 1) (by omega); omega
    by_cases e : (look ps x).isSome = true
    · have e1 : cstep ps x = ps := by unfold cstep; rw [if_pos e]
      rw [e1]
      obtain ⟨u, hu⟩ := Option.isSome_iff_exists.mp e
      simp [forLoop, frB, tgtAt, bodyAt, b_counted, Tr.n, G9.execs, G9.exec, ev, evB, evL, evP, evW, evK, evO, evC, evI, evIn, rdL, bnd, G9.ret, opt, stuck, rd, vl, vp, nr1, nr2, nr3, nr4, nr5, nr6, nr7, nr8, nr9, tupV, plArg, tst, val?, bool?, get1, conD, flPO, flW, runB, runI, Def.env, Def.envW, opIdx, opBin, opCmp, ↓exec_fr, ↓ev_lcB, dict0, eqDs, eqDn, eqDb, kindM, Mt.mut, opMth, opBlt, keyD, intO, ofPO, nox, consO, Tgt.bind, wipeE, Tgt.own, itemsD, dictKs, isVar, freshE, G9.cellOf, G9.newCell, mutW, mutM, setC, locW, Calls.locked, isT, G9.isNon, Cell.toD, at0, at1, at2, at3, cut1, cut01, sz1, sz2, sz3, sz4, getK_of, hu]
    · have e0 : look ps x = none := by simpa using e
      have e1 : cstep ps x = ps ++ [(x, .unk ps.length)] := by unfold cstep; rw [if_neg e]
      rw [e1]
      have e2 : putD ((dkOf ps).zip (dvOf ps)) (.inl x) (.tup [.str "unknown", .int ps.length]) = (ps ++ [(x, Tr.unk ps.length)]).map kD := by
        rw [zip_of]; exact put_new e0 (.unk ps.length)
      simp [forLoop, frB, tgtAt, bodyAt, b_counted, Tr.n, G9.execs, G9.exec, ev, evB, evL, evP, evW, evK, evO, evC, evI, evIn, rdL, bnd, G9.ret, opt, stuck, rd, vl, vp, nr1, nr2, nr3, nr4, nr5, nr6, nr7, nr8, nr9, tupV, plArg, tst, val?, bool?, get1, conD, flPO, flW, runB, runI, Def.env, Def.envW, opIdx, opBin, opCmp, ↓exec_fr, ↓ev_lcB, dict0, eqDs, eqDn, eqDb, kindM, Mt.mut, opMth, opBlt, keyD, intO, ofPO, nox, consO, Tgt.bind, wipeE, Tgt.own, itemsD, dictKs, isVar, freshE, G9.cellOf, G9.newCell, mutW, mutM, setC, locW, Calls.locked, isT, G9.isNon, Cell.toD, at0, at1, at2, at3, cut1, cut01, sz1, sz2, sz3, sz4, getK_of, e0, dk_len, hs, e2]
      simp [dkOf, dvOf]
theorem counted_ok (t : Tr) (n : Nat) (ht : t.ok) (hh : t.h ≤ 9) (hn : t.h + 1 < n) : callP T TI gl n "counted" [t.d] = .ok (ctd t).d := by
  obtain ⟨m, rfl⟩ : ∃ m, n = m + 1 := ⟨n - 1, by omega⟩
  rw [callP_T m _ _ _ t_counted]
  have z1 := unk_len t
  have z3 : 2 ^ t.h ≤ 2 ^ 9 := Nat.pow_le_pow_right (by omega) (by omega)
  obtain ⟨v', h1⟩ := counted_loop ⟨callP T TI gl m, false, gl, fun f => (T f).isSome, callI T TI gl m, fun f => (TI f).isSome⟩ t.d (unk t) none [] (by simp; omega)
  have e1 := settled_by_ok (dkOf (cnt [] (unk t))) (dvOf (cnt [] (unk t))) (kD_n _) t m ht (by omega)
  rw [stl_T (getK_of · (cnt [] (unk t)))] at e1
  have e2 := unknowns_from_ok t m ht hh (by omega)
  simp only [b_counted, tgtAt, bodyAt, List.getElem?_cons_succ, List.getElem?_cons_zero, dkOf, dvOf, List.map_nil] at h1
  simp [d_counted, b_counted, Tr.n, G9.execs, G9.exec, ev, evB, evL, evP, evW, evK, evO, evC, evI, evIn, rdL, bnd, G9.ret, opt, stuck, rd, vl, vp, nr1, nr2, nr3, nr4, nr5, nr6, nr7, nr8, nr9, tupV, plArg, tst, val?, bool?, get1, conD, flPO, flW, runB, runI, Def.env, Def.envW, opIdx, opBin, opCmp, ↓exec_fr, ↓ev_lcB, dict0, eqDs, eqDn, eqDb, kindM, Mt.mut, opMth, opBlt, keyD, intO, ofPO, nox, consO, Tgt.bind, wipeE, Tgt.own, itemsD, dictKs, isVar, freshE, G9.cellOf, G9.newCell, mutW, mutM, setC, locW, Calls.locked, isT, G9.isNon, Cell.toD, at0, at1, at2, at3, cut1, cut01, sz1, sz2, sz3, sz4, t_settled_by, t_unknowns_from, e2]
  simp at h1
  simp [dkOf, dvOf] at e1
  simp [h1, e1, Tr.n, G9.execs, G9.exec, ev, evB, evL, evP, evW, evK, evO, evC, evI, evIn, rdL, bnd, G9.ret, opt, stuck, rd, vl, vp, nr1, nr2, nr3, nr4, nr5, nr6, nr7, nr8, nr9, tupV, plArg, tst, val?, bool?, get1, conD, flPO, flW, runB, runI, Def.env, Def.envW, opIdx, opBin, opCmp, ↓exec_fr, ↓ev_lcB, dict0, eqDs, eqDn, eqDb, kindM, Mt.mut, opMth, opBlt, keyD, intO, ofPO, nox, consO, Tgt.bind, wipeE, Tgt.own, itemsD, dictKs, isVar, freshE, G9.cellOf, G9.newCell, mutW, mutM, setC, locW, Calls.locked, isT, G9.isNon, Cell.toD, at0, at1, at2, at3, cut1, cut01, sz1, sz2, sz3, sz4, ctd]
theorem intsD_I : ∀ xs : List Int, intsD (xs.map .int) = some xs
  | [] => rfl
  | x :: r => by simp [intsD, intsD_I r]
theorem opSet_I (xs : List Int) (h : xs.length < 64) : opSet (.lst (xs.map .int)) = some (.lst ((srtI (dupI xs)).map .int)) := by
  simp [opSet, setD, intsD_I, h]
theorem unknowns_ok (t : Tr) (n : Nat) (ht : t.ok) (hh : t.h ≤ 5) (hn : t.h + 1 < n) : callP T TI gl n "unknowns" [t.d] = .ok (.ptp ((srtI (dupI (unk t))).map .int)) := by
  obtain ⟨m, rfl⟩ : ∃ m, n = m + 1 := ⟨n - 1, by omega⟩
  rw [callP_T m _ _ _ t_unknowns]
  have z1 := unk_len t
  have z3 : 2 ^ t.h ≤ 2 ^ 5 := Nat.pow_le_pow_right (by omega) (by omega)
  have e2 := unknowns_from_ok t m ht (by omega) (by omega)
  simp [d_unknowns, b_unknowns, Tr.n, G9.execs, G9.exec, ev, evB, evL, evP, evW, evK, evO, evC, evI, evIn, rdL, bnd, G9.ret, opt, stuck, rd, vl, vp, nr1, nr2, nr3, nr4, nr5, nr6, nr7, nr8, nr9, tupV, plArg, tst, val?, bool?, get1, conD, flPO, flW, runB, runI, Def.env, Def.envW, opIdx, opBin, opCmp, ↓exec_fr, ↓ev_lcB, dict0, eqDs, eqDn, eqDb, kindM, Mt.mut, opMth, opBlt, keyD, intO, ofPO, nox, consO, Tgt.bind, wipeE, Tgt.own, itemsD, dictKs, isVar, freshE, G9.cellOf, G9.newCell, mutW, mutM, setC, locW, Calls.locked, isT, G9.isNon, Cell.toD, at0, at1, at2, at3, cut1, cut01, sz1, sz2, sz3, sz4, t_unknowns_from, e2, opSet_I _ (show (unk t).length < 64 by omega)]
theorem ints_refl : ∀ xs : List Int, deqs (xs.map .int) (xs.map .int) = true ∧ lays (xs.map .int) = true ∧ deps (xs.map .int) = 0
  | [] => by simp [deqs, lays, deps]
  | x :: r => by
    have := ints_refl r
    simp [deqs, lays, deps, deq, lay, dep, this]
theorem eqD_ints (xs : List Int) : eqD (.tup (xs.map .int)) (.tup (xs.map .int)) = some true := by
  have := ints_refl xs
  simp [eqD, eqOk, lay, dep, deq, this]
theorem st_none (t : Tr) : stT (look []) t = t := st_id (fun i v h => by cases h) t
/-- fitting, with what is settled so far -/
def fitT : Tr → Tr → List (Int × Tr) → Bool × List (Int × Tr)
  | .unk i, u, ps => match look ps i with
    | some v => (deq v.d u.d, ps)
    | none => (true, ps ++ [(i, u)])
  | .nil w, .nil w', ps => (decide (w = w'), ps)
  | .one w a, .one w' a', ps => if w = w' then fitT a a' ps else (false, ps)
  | .two w a b, .two w' a' b', ps => if w = w' then ((fitT a a' ps).1 && (fitT b b' (fitT a a' ps).2).1, (fitT b b' (fitT a a' ps).2).2) else (false, ps)
  | _, _, ps => (false, ps)
def keysOk (ps : List (Int × Tr)) : Prop := (ps.map (·.1)).Nodup ∧ ∀ q ∈ ps, q.2.ok ∧ q.2.h ≤ 50
theorem look_mem {i : Int} {v : Tr} : ∀ {ps : List (Int × Tr)}, look ps i = some v → (i, v) ∈ ps
  | [], h => by cases h
  | p :: r, h => by
    simp only [look] at h
    split at h
    · rename_i e
      cases h
      subst e
      exact List.mem_cons_self
    · exact List.mem_cons_of_mem _ (look_mem h)
theorem look_none {i : Int} : ∀ {ps : List (Int × Tr)}, look ps i = none → i ∉ ps.map (·.1)
  | [], _ => by simp
  | p :: r, h => by
    simp only [look] at h
    split at h
    · cases h
    · rename_i e
      simp only [List.map_cons, List.mem_cons, not_or]
      exact ⟨fun z => e z.symm, look_none h⟩
theorem keysOk_new {ps : List (Int × Tr)} {i : Int} {u : Tr} (k : keysOk ps) (h : look ps i = none) (o : u.ok) (g : u.h ≤ 50) : keysOk (ps ++ [(i, u)]) := by
  refine ⟨?_, fun q hq => ?_⟩
  · rw [List.map_append, List.nodup_append]
    refine ⟨k.1, by simp, fun a ha b hb => ?_⟩
    simp at hb
    subst hb
    exact fun z => look_none h (z ▸ ha)
  · rcases List.mem_append.mp hq with hq | hq
    · exact k.2 q hq
    · rw [List.mem_singleton] at hq; subst hq; exact ⟨o, g⟩
theorem put_same {ps : List (Int × Tr)} {i : Int} {v : Tr} (k : (ps.map (·.1)).Nodup) (h : look ps i = some v) : putD (ps.map kD) (.inl i) v.d = ps.map kD := by
  unfold putD
  rw [any_look, h]
  simp only [Option.isSome_some, if_true]
  rw [List.map_map]
  apply List.map_congr_left
  intro q hq
  simp only [Function.comp, kD, Sum.inl.injEq]
  split
  · rename_i e
    have hm := look_mem h
    have : q = (i, v) := by
      have key : ∀ {l : List (Int × Tr)}, (l.map (·.1)).Nodup → ∀ {a b : Int × Tr}, a ∈ l → b ∈ l → a.1 = b.1 → a = b := by
        intro l
        induction l with
        | nil => intro _ a b ha; cases ha
        | cons p r ih =>
          intro nd a b ha hb e
          simp only [List.map_cons, List.nodup_cons] at nd
          rcases List.mem_cons.mp ha with ha1 | ha1 <;> rcases List.mem_cons.mp hb with hb1 | hb1
          · rw [ha1, hb1]
          · exact absurd (show p.1 ∈ r.map (·.1) from List.mem_map.mpr ⟨b, hb1, by rw [← ha1]; exact e.symm⟩) nd.1
          · exact absurd (show p.1 ∈ r.map (·.1) from List.mem_map.mpr ⟨a, ha1, by rw [← hb1]; exact e⟩) nd.1
          · exact ih nd.2 ha1 hb1 e
      exact key k hq hm e
    subst this
    rfl
  · rfl
theorem deq_it (i : Int) (t : Tr) : deq (.int i) t.d = false := by cases t <;> rfl
theorem deq_ti (i : Int) (t : Tr) : deq t.d (.int i) = false := by cases t <;> rfl
theorem deq_tt (xs ys : List D) : deq (.tup xs) (.tup ys) = deqs xs ys := by simp only [deq]
theorem deq_ss (x y : Str) : deq (.str x) (.str y) = (x == y) := by simp only [deq]
theorem deq_ii (x y : Int) : deq (.int x) (.int y) = (x == y) := by simp only [deq]
theorem deqs_c (x y : D) (xs ys : List D) : deqs (x :: xs) (y :: ys) = (deq x y && deqs xs ys) := by simp only [deqs]
theorem deqs_0 (y : D) (ys : List D) : deqs [] (y :: ys) = false := by simp only [deqs]
theorem deqs_1 (y : D) (ys : List D) : deqs (y :: ys) [] = false := by simp only [deqs]
theorem deqs_2 : deqs [] [] = true := by simp only [deqs]
theorem deq_eq (t : Tr) : ∀ u : Tr, t.ok → u.ok → deq t.d u.d = true → t = u := by
  induction t with
  | unk i =>
    intro u _ hu h
    cases u with
    | unk j => simp [Tr.d, deq_tt, deqs_c, deq_ii, deqs_2, deq_ss] at h; rw [h]
    | _ => simp [Tr.d, deq_tt, deqs_c, deq_it, deqs_0, deqs_1, deqs_2, deq_ss] at h
  | nil w =>
    intro u _ hu h
    cases u with
    | nil w' => simp [Tr.d, deq_tt, deqs_c, deqs_2, deq_ss] at h; rw [h]
    | _ => simp [Tr.d, deq_tt, deqs_c, deqs_0, deqs_1, deqs_2, deq_ss] at h
  | one w a iha =>
    intro u ht hu h
    cases u with
    | one w' a' =>
      simp [Tr.d, deq_tt, deqs_c, deqs_2, deq_ss] at h
      rw [h.1, iha a' ht.2 hu.2 h.2]
    | _ => simp [Tr.d, deq_tt, deqs_c, deq_ti, deqs_0, deqs_1, deqs_2, deq_ss] at h
  | two w a b iha ihb =>
    intro u ht hu h
    cases u with
    | two w' a' b' =>
      simp [Tr.d, deq_tt, deqs_c, deqs_2, deq_ss] at h
      rw [h.1, iha a' ht.2.1 hu.2.1 h.2.1, ihb b' ht.2.2 hu.2.2 h.2.2]
    | _ => simp [Tr.d, deq_tt, deqs_c, deq_ti, deqs_0, deqs_1, deqs_2, deq_ss] at h
theorem fitT_keep : ∀ (t u : Tr) (ps : List (Int × Tr)), u.ok → u.h ≤ 50 → keysOk ps → keysOk (fitT t u ps).2 ∧ (fitT t u ps).2.length ≤ ps.length + (unk t).length ∧ ∀ i v, look ps i = some v → look (fitT t u ps).2 i = some v
  | .unk i, u, ps, o, g, k => by
    simp only [fitT, unk]
    cases e : look ps i with
    | some v => exact ⟨k, by simp, fun _ _ h => h⟩
    | none => exact ⟨keysOk_new k e o g, by simp, fun _ _ h => look_app h _⟩
  | .nil w, u, ps, o, g, k => by cases u <;> exact ⟨k, by simp [fitT], fun _ _ h => h⟩
  | .one w a, u, ps, o, g, k => by
    cases u with
    | one w' a' =>
      simp only [fitT, unk]
      split
      · exact fitT_keep a a' ps o.2 (by simp only [Tr.h] at g; omega) k
      · exact ⟨k, by simp, fun _ _ h => h⟩
    | _ => exact ⟨k, by simp [fitT], fun _ _ h => h⟩
  | .two w a b, u, ps, o, g, k => by
    cases u with
    | two w' a' b' =>
      simp only [fitT, unk]
      split
      · simp only [Tr.h] at g
        obtain ⟨k1, l1, e1⟩ := fitT_keep a a' ps o.2.1 (by omega) k
        obtain ⟨k2, l2, e2⟩ := fitT_keep b b' _ o.2.2 (by omega) k1
        refine ⟨k2, ?_, fun i v h => e2 i v (e1 i v h)⟩
        simp only [List.length_append]
        omega
      · exact ⟨k, by simp, fun _ _ h => h⟩
    | _ => exact ⟨k, by simp [fitT], fun _ _ h => h⟩
theorem fitT_sound : ∀ (t u : Tr) (ps : List (Int × Tr)) (F : Int → Option Tr), u.ok → u.h ≤ 50 → keysOk ps → (fitT t u ps).1 = true → (∀ i v, look (fitT t u ps).2 i = some v → F i = some v) → stT F t = u
  | .unk i, u, ps, F, o, g, k, h, e => by
    simp only [fitT] at h e
    cases q : look ps i with
    | some v =>
      rw [q] at h e
      have hv := (k.2 _ (look_mem q)).1
      have : v = u := deq_eq v u hv o h
      subst this
      simp only [stT, e i v q]
      rfl
    | none =>
      rw [q] at h e
      simp only [stT, e i u (look_new q u)]
      rfl
  | .nil w, u, ps, F, o, g, k, h, e => by
    cases u with
    | nil w' => simp only [fitT] at h; simp only [stT]; rw [of_decide_eq_true h]
    | _ => simp [fitT] at h
  | .one w a, u, ps, F, o, g, k, h, e => by
    cases u with
    | one w' a' =>
      simp only [fitT] at h e
      split at h
      · rename_i q
        rw [if_pos q] at e
        simp only [stT]
        rw [fitT_sound a a' ps F o.2 (by simp only [Tr.h] at g; omega) k h e, q]
      · cases h
    | _ => simp [fitT] at h
  | .two w a b, u, ps, F, o, g, k, h, e => by
    cases u with
    | two w' a' b' =>
      simp only [fitT] at h e
      split at h
      · rename_i q
        rw [if_pos q] at e
        simp only [Tr.h] at g
        obtain ⟨k1, l1, e1⟩ := fitT_keep a a' ps o.2.1 (by omega) k
        obtain ⟨k2, l2, e2⟩ := fitT_keep b b' (fitT a a' ps).2 o.2.2 (by omega) k1
        have h' := (Bool.and_eq_true _ _).mp h
        simp only [stT]
        rw [fitT_sound a a' ps F o.2.1 (by omega) k h'.1 (fun i v z => e i v (e2 i v z)), fitT_sound b b' _ F o.2.2 (by omega) k1 h'.2 e, q]
      · cases h
    | _ => simp [fitT] at h
theorem d_head (t : Tr) : ∃ w xs, t.d = .tup (.str w :: xs) := by cases t <;> exact ⟨_, _, rfl⟩
theorem fit_from_ok : ∀ (t u : Tr) (ps : List (Int × Tr)) (n : Nat), t.ok → u.ok → u.h ≤ 50 → keysOk ps → ps.length + (unk t).length ≤ 500 → t.h < n →
    callI T TI gl n "fit_from" [.val t.d, .val u.d, .loc 0] [.dict (dkOf ps) (dvOf ps)] = .ok (.val (.bl (fitT t u ps).1)) [.dict (dkOf (fitT t u ps).2) (dvOf (fitT t u ps).2)] := by
  intro t
  induction t with
  | unk i =>
    intro u ps n _ ou gu k hl hn
    obtain ⟨m, rfl⟩ : ∃ m, n = m + 1 := ⟨n - 1, by omega⟩
    rw [callI_T m _ _ _ t_fit_from]
    simp only [unk, List.length_cons, List.length_nil] at hl
    have hs : ps.length < sizeLine := by have := sz (ps.length + 1) (by omega); omega
    have e3 := eqD_T ou (by omega)
    cases q : look ps i with
    | none =>
      have e2 : putD ((dkOf ps).zip (dvOf ps)) (.inl i) u.d = (ps ++ [(i, u)]).map kD := by
        rw [zip_of]; exact put_new q u
      have e4 : getK (.inl i) (((ps ++ [(i, u)]).map kD).map (·.1)) (((ps ++ [(i, u)]).map kD).map (·.2)) = some u.d := by
        rw [getK_kD, look_new q]; rfl
      simp [d_fit_from, b_fit_from, Tr.d, Tr.n, fitT, q, G9.execs, G9.exec, ev, evB, evL, evP, evW, evK, evO, evC, evI, evIn, rdL, bnd, G9.ret, opt, stuck, rd, vl, vp, nr1, nr2, nr3, nr4, nr5, nr6, nr7, nr8, nr9, tupV, plArg, tst, val?, bool?, get1, conD, flPO, flW, runB, runI, Def.env, Def.envW, opIdx, opBin, opCmp, ↓exec_fr, ↓ev_lcB, dict0, eqDs, eqDn, eqDb, kindM, Mt.mut, opMth, opBlt, keyD, intO, ofPO, nox, consO, Tgt.bind, wipeE, Tgt.own, itemsD, dictKs, isVar, freshE, G9.cellOf, G9.newCell, mutW, mutM, setC, locW, Calls.locked, isT, G9.isNon, Cell.toD, at0, at1, at2, at3, cut1, cut01, sz1, sz2, sz3, sz4, dk_len, hs, e2, e3, getK_of, eqDs]
      simp at e4
      simp [e4, Tr.n, G9.execs, G9.exec, ev, evB, evL, evP, evW, evK, evO, evC, evI, evIn, rdL, bnd, G9.ret, opt, stuck, rd, vl, vp, nr1, nr2, nr3, nr4, nr5, nr6, nr7, nr8, nr9, tupV, plArg, tst, val?, bool?, get1, conD, flPO, flW, runB, runI, Def.env, Def.envW, opIdx, opBin, opCmp, ↓exec_fr, ↓ev_lcB, dict0, eqDs, eqDn, eqDb, kindM, Mt.mut, opMth, opBlt, keyD, intO, ofPO, nox, consO, Tgt.bind, wipeE, Tgt.own, itemsD, dictKs, isVar, freshE, G9.cellOf, G9.newCell, mutW, mutM, setC, locW, Calls.locked, isT, G9.isNon, Cell.toD, at0, at1, at2, at3, cut1, cut01, sz1, sz2, sz3, sz4, e3]
      simp [dkOf, dvOf]
    | some v =>
      have ov := k.2 _ (look_mem q)
      have e5 := eqD_ne ov.1 (by have := ov.2; simp at this; omega) ou (by omega)
      simp [d_fit_from, b_fit_from, Tr.d, Tr.n, fitT, q, G9.execs, G9.exec, ev, evB, evL, evP, evW, evK, evO, evC, evI, evIn, rdL, bnd, G9.ret, opt, stuck, rd, vl, vp, nr1, nr2, nr3, nr4, nr5, nr6, nr7, nr8, nr9, tupV, plArg, tst, val?, bool?, get1, conD, flPO, flW, runB, runI, Def.env, Def.envW, opIdx, opBin, opCmp, ↓exec_fr, ↓ev_lcB, dict0, eqDs, eqDn, eqDb, kindM, Mt.mut, opMth, opBlt, keyD, intO, ofPO, nox, consO, Tgt.bind, wipeE, Tgt.own, itemsD, dictKs, isVar, freshE, G9.cellOf, G9.newCell, mutW, mutM, setC, locW, Calls.locked, isT, G9.isNon, Cell.toD, at0, at1, at2, at3, cut1, cut01, sz1, sz2, sz3, sz4, dk_len, hs, getK_of, e5, eqDs]
  | nil w =>
    intro u ps n ot ou gu k hl hn
    obtain ⟨m, rfl⟩ : ∃ m, n = m + 1 := ⟨n - 1, by omega⟩
    rw [callI_T m _ _ _ t_fit_from]
    have ow := (okW_n ot).1
    cases u with
    | nil w' =>
      by_cases e : w = w'
      · subst e
        simp [d_fit_from, b_fit_from, t_fit_from, Tr.d, Tr.n, fitT, G9.execs, G9.exec, ev, evB, evL, evP, evW, evK, evO, evC, evI, evIn, rdL, bnd, G9.ret, opt, stuck, rd, vl, vp, nr1, nr2, nr3, nr4, nr5, nr6, nr7, nr8, nr9, tupV, plArg, tst, val?, bool?, get1, conD, flPO, flW, runB, runI, Def.env, Def.envW, opIdx, opBin, opCmp, ↓exec_fr, ↓ev_lcB, dict0, eqDs, eqDn, eqDb, kindM, Mt.mut, opMth, opBlt, keyD, intO, ofPO, nox, consO, Tgt.bind, wipeE, Tgt.own, itemsD, dictKs, isVar, freshE, G9.cellOf, G9.newCell, mutW, mutM, setC, locW, Calls.locked, isT, G9.isNon, Cell.toD, at0, at1, at2, at3, cut1, cut01, sz1, sz2, sz3, sz4, lcLoop, lcBody, zipOf, zipD, boolsD, eqDs, ow]
      · simp [d_fit_from, b_fit_from, t_fit_from, Tr.d, Tr.n, fitT, G9.execs, G9.exec, ev, evB, evL, evP, evW, evK, evO, evC, evI, evIn, rdL, bnd, G9.ret, opt, stuck, rd, vl, vp, nr1, nr2, nr3, nr4, nr5, nr6, nr7, nr8, nr9, tupV, plArg, tst, val?, bool?, get1, conD, flPO, flW, runB, runI, Def.env, Def.envW, opIdx, opBin, opCmp, ↓exec_fr, ↓ev_lcB, dict0, eqDs, eqDn, eqDb, kindM, Mt.mut, opMth, opBlt, keyD, intO, ofPO, nox, consO, Tgt.bind, wipeE, Tgt.own, itemsD, dictKs, isVar, freshE, G9.cellOf, G9.newCell, mutW, mutM, setC, locW, Calls.locked, isT, G9.isNon, Cell.toD, at0, at1, at2, at3, cut1, cut01, sz1, sz2, sz3, sz4, lcLoop, lcBody, zipOf, zipD, boolsD, eqDs, ow, e]
    | unk j => simp [d_fit_from, b_fit_from, t_fit_from, Tr.d, Tr.n, fitT, G9.execs, G9.exec, ev, evB, evL, evP, evW, evK, evO, evC, evI, evIn, rdL, bnd, G9.ret, opt, stuck, rd, vl, vp, nr1, nr2, nr3, nr4, nr5, nr6, nr7, nr8, nr9, tupV, plArg, tst, val?, bool?, get1, conD, flPO, flW, runB, runI, Def.env, Def.envW, opIdx, opBin, opCmp, ↓exec_fr, ↓ev_lcB, dict0, eqDs, eqDn, eqDb, kindM, Mt.mut, opMth, opBlt, keyD, intO, ofPO, nox, consO, Tgt.bind, wipeE, Tgt.own, itemsD, dictKs, isVar, freshE, G9.cellOf, G9.newCell, mutW, mutM, setC, locW, Calls.locked, isT, G9.isNon, Cell.toD, at0, at1, at2, at3, cut1, cut01, sz1, sz2, sz3, sz4, lcLoop, lcBody, zipOf, zipD, boolsD, eqDs, ow]
    | one w' a' =>
      have e : w ≠ w' := by rw [ou.1]; rcases ot with rfl | rfl <;> decide
      simp [d_fit_from, b_fit_from, t_fit_from, Tr.d, Tr.n, fitT, G9.execs, G9.exec, ev, evB, evL, evP, evW, evK, evO, evC, evI, evIn, rdL, bnd, G9.ret, opt, stuck, rd, vl, vp, nr1, nr2, nr3, nr4, nr5, nr6, nr7, nr8, nr9, tupV, plArg, tst, val?, bool?, get1, conD, flPO, flW, runB, runI, Def.env, Def.envW, opIdx, opBin, opCmp, ↓exec_fr, ↓ev_lcB, dict0, eqDs, eqDn, eqDb, kindM, Mt.mut, opMth, opBlt, keyD, intO, ofPO, nox, consO, Tgt.bind, wipeE, Tgt.own, itemsD, dictKs, isVar, freshE, G9.cellOf, G9.newCell, mutW, mutM, setC, locW, Calls.locked, isT, G9.isNon, Cell.toD, at0, at1, at2, at3, cut1, cut01, sz1, sz2, sz3, sz4, lcLoop, lcBody, zipOf, zipD, boolsD, eqDs, ow, e]
    | two w' a' b' =>
      have e : w ≠ w' := by rcases ou.1 with rfl | rfl <;> rcases ot with rfl | rfl <;> decide
      simp [d_fit_from, b_fit_from, t_fit_from, Tr.d, Tr.n, fitT, G9.execs, G9.exec, ev, evB, evL, evP, evW, evK, evO, evC, evI, evIn, rdL, bnd, G9.ret, opt, stuck, rd, vl, vp, nr1, nr2, nr3, nr4, nr5, nr6, nr7, nr8, nr9, tupV, plArg, tst, val?, bool?, get1, conD, flPO, flW, runB, runI, Def.env, Def.envW, opIdx, opBin, opCmp, ↓exec_fr, ↓ev_lcB, dict0, eqDs, eqDn, eqDb, kindM, Mt.mut, opMth, opBlt, keyD, intO, ofPO, nox, consO, Tgt.bind, wipeE, Tgt.own, itemsD, dictKs, isVar, freshE, G9.cellOf, G9.newCell, mutW, mutM, setC, locW, Calls.locked, isT, G9.isNon, Cell.toD, at0, at1, at2, at3, cut1, cut01, sz1, sz2, sz3, sz4, lcLoop, lcBody, zipOf, zipD, boolsD, eqDs, ow, e]
  | one w a iha =>
    intro u ps n ot ou gu k hl hn
    obtain ⟨m, rfl⟩ : ∃ m, n = m + 1 := ⟨n - 1, by omega⟩
    rw [callI_T m _ _ _ t_fit_from]
    have ow := (okW_o ot.1).1
    simp only [Tr.h] at hn
    cases u with
    | nil w' =>
      have e : w ≠ w' := by rw [ot.1]; rcases ou with rfl | rfl <;> decide
      simp [d_fit_from, b_fit_from, t_fit_from, Tr.d, Tr.n, fitT, G9.execs, G9.exec, ev, evB, evL, evP, evW, evK, evO, evC, evI, evIn, rdL, bnd, G9.ret, opt, stuck, rd, vl, vp, nr1, nr2, nr3, nr4, nr5, nr6, nr7, nr8, nr9, tupV, plArg, tst, val?, bool?, get1, conD, flPO, flW, runB, runI, Def.env, Def.envW, opIdx, opBin, opCmp, ↓exec_fr, ↓ev_lcB, dict0, eqDs, eqDn, eqDb, kindM, Mt.mut, opMth, opBlt, keyD, intO, ofPO, nox, consO, Tgt.bind, wipeE, Tgt.own, itemsD, dictKs, isVar, freshE, G9.cellOf, G9.newCell, mutW, mutM, setC, locW, Calls.locked, isT, G9.isNon, Cell.toD, at0, at1, at2, at3, cut1, cut01, sz1, sz2, sz3, sz4, lcLoop, lcBody, zipOf, zipD, boolsD, eqDs, ow, e]
    | unk j => simp [d_fit_from, b_fit_from, t_fit_from, Tr.d, Tr.n, fitT, G9.execs, G9.exec, ev, evB, evL, evP, evW, evK, evO, evC, evI, evIn, rdL, bnd, G9.ret, opt, stuck, rd, vl, vp, nr1, nr2, nr3, nr4, nr5, nr6, nr7, nr8, nr9, tupV, plArg, tst, val?, bool?, get1, conD, flPO, flW, runB, runI, Def.env, Def.envW, opIdx, opBin, opCmp, ↓exec_fr, ↓ev_lcB, dict0, eqDs, eqDn, eqDb, kindM, Mt.mut, opMth, opBlt, keyD, intO, ofPO, nox, consO, Tgt.bind, wipeE, Tgt.own, itemsD, dictKs, isVar, freshE, G9.cellOf, G9.newCell, mutW, mutM, setC, locW, Calls.locked, isT, G9.isNon, Cell.toD, at0, at1, at2, at3, cut1, cut01, sz1, sz2, sz3, sz4, lcLoop, lcBody, zipOf, zipD, boolsD, eqDs, ow]
    | one w' a' =>
      have e : w = w' := by rw [ot.1, ou.1]
      subst e
      simp only [Tr.h] at gu
      have e1 := iha a' ps m ot.2 ou.2 (by omega) k (by simpa [unk] using hl) (by omega)
      simp [d_fit_from, b_fit_from, t_fit_from, Tr.d, Tr.n, fitT, G9.execs, G9.exec, ev, evB, evL, evP, evW, evK, evO, evC, evI, evIn, rdL, bnd, G9.ret, opt, stuck, rd, vl, vp, nr1, nr2, nr3, nr4, nr5, nr6, nr7, nr8, nr9, tupV, plArg, tst, val?, bool?, get1, conD, flPO, flW, runB, runI, Def.env, Def.envW, opIdx, opBin, opCmp, ↓exec_fr, ↓ev_lcB, dict0, eqDs, eqDn, eqDb, kindM, Mt.mut, opMth, opBlt, keyD, intO, ofPO, nox, consO, Tgt.bind, wipeE, Tgt.own, itemsD, dictKs, isVar, freshE, G9.cellOf, G9.newCell, mutW, mutM, setC, locW, Calls.locked, isT, G9.isNon, Cell.toD, at0, at1, at2, at3, cut1, cut01, sz1, sz2, sz3, sz4, lcLoop, lcBody, zipOf, zipD, boolsD, eqDs, ow, e1]
    | two w' a' b' =>
      have e : w ≠ w' := by rw [ot.1]; rcases ou.1 with rfl | rfl <;> decide
      simp [d_fit_from, b_fit_from, t_fit_from, Tr.d, Tr.n, fitT, G9.execs, G9.exec, ev, evB, evL, evP, evW, evK, evO, evC, evI, evIn, rdL, bnd, G9.ret, opt, stuck, rd, vl, vp, nr1, nr2, nr3, nr4, nr5, nr6, nr7, nr8, nr9, tupV, plArg, tst, val?, bool?, get1, conD, flPO, flW, runB, runI, Def.env, Def.envW, opIdx, opBin, opCmp, ↓exec_fr, ↓ev_lcB, dict0, eqDs, eqDn, eqDb, kindM, Mt.mut, opMth, opBlt, keyD, intO, ofPO, nox, consO, Tgt.bind, wipeE, Tgt.own, itemsD, dictKs, isVar, freshE, G9.cellOf, G9.newCell, mutW, mutM, setC, locW, Calls.locked, isT, G9.isNon, Cell.toD, at0, at1, at2, at3, cut1, cut01, sz1, sz2, sz3, sz4, lcLoop, lcBody, zipOf, zipD, boolsD, eqDs, ow, e]
  | two w a b iha ihb =>
    intro u ps n ot ou gu k hl hn
    obtain ⟨m, rfl⟩ : ∃ m, n = m + 1 := ⟨n - 1, by omega⟩
    rw [callI_T m _ _ _ t_fit_from]
    have ow := (okW_t ot.1).1
    simp only [Tr.h] at hn
    cases u with
    | nil w' =>
      have e : w ≠ w' := by rcases ot.1 with rfl | rfl <;> rcases ou with rfl | rfl <;> decide
      simp [d_fit_from, b_fit_from, t_fit_from, Tr.d, Tr.n, fitT, G9.execs, G9.exec, ev, evB, evL, evP, evW, evK, evO, evC, evI, evIn, rdL, bnd, G9.ret, opt, stuck, rd, vl, vp, nr1, nr2, nr3, nr4, nr5, nr6, nr7, nr8, nr9, tupV, plArg, tst, val?, bool?, get1, conD, flPO, flW, runB, runI, Def.env, Def.envW, opIdx, opBin, opCmp, ↓exec_fr, ↓ev_lcB, dict0, eqDs, eqDn, eqDb, kindM, Mt.mut, opMth, opBlt, keyD, intO, ofPO, nox, consO, Tgt.bind, wipeE, Tgt.own, itemsD, dictKs, isVar, freshE, G9.cellOf, G9.newCell, mutW, mutM, setC, locW, Calls.locked, isT, G9.isNon, Cell.toD, at0, at1, at2, at3, cut1, cut01, sz1, sz2, sz3, sz4, lcLoop, lcBody, zipOf, zipD, boolsD, eqDs, ow, e]
    | unk j => simp [d_fit_from, b_fit_from, t_fit_from, Tr.d, Tr.n, fitT, G9.execs, G9.exec, ev, evB, evL, evP, evW, evK, evO, evC, evI, evIn, rdL, bnd, G9.ret, opt, stuck, rd, vl, vp, nr1, nr2, nr3, nr4, nr5, nr6, nr7, nr8, nr9, tupV, plArg, tst, val?, bool?, get1, conD, flPO, flW, runB, runI, Def.env, Def.envW, opIdx, opBin, opCmp, ↓exec_fr, ↓ev_lcB, dict0, eqDs, eqDn, eqDb, kindM, Mt.mut, opMth, opBlt, keyD, intO, ofPO, nox, consO, Tgt.bind, wipeE, Tgt.own, itemsD, dictKs, isVar, freshE, G9.cellOf, G9.newCell, mutW, mutM, setC, locW, Calls.locked, isT, G9.isNon, Cell.toD, at0, at1, at2, at3, cut1, cut01, sz1, sz2, sz3, sz4, lcLoop, lcBody, zipOf, zipD, boolsD, eqDs, ow]
    | one w' a' =>
      have e : w ≠ w' := by rw [ou.1]; rcases ot.1 with rfl | rfl <;> decide
      simp [d_fit_from, b_fit_from, t_fit_from, Tr.d, Tr.n, fitT, G9.execs, G9.exec, ev, evB, evL, evP, evW, evK, evO, evC, evI, evIn, rdL, bnd, G9.ret, opt, stuck, rd, vl, vp, nr1, nr2, nr3, nr4, nr5, nr6, nr7, nr8, nr9, tupV, plArg, tst, val?, bool?, get1, conD, flPO, flW, runB, runI, Def.env, Def.envW, opIdx, opBin, opCmp, ↓exec_fr, ↓ev_lcB, dict0, eqDs, eqDn, eqDb, kindM, Mt.mut, opMth, opBlt, keyD, intO, ofPO, nox, consO, Tgt.bind, wipeE, Tgt.own, itemsD, dictKs, isVar, freshE, G9.cellOf, G9.newCell, mutW, mutM, setC, locW, Calls.locked, isT, G9.isNon, Cell.toD, at0, at1, at2, at3, cut1, cut01, sz1, sz2, sz3, sz4, lcLoop, lcBody, zipOf, zipD, boolsD, eqDs, ow, e]
    | two w' a' b' =>
      by_cases e : w = w'
      · subst e
        simp only [Tr.h] at gu
        simp only [unk, List.length_append] at hl
        obtain ⟨k1, l1, x1⟩ := fitT_keep a a' ps ou.2.1 (by omega) k
        have e1 := iha a' ps m ot.2.1 ou.2.1 (by omega) k (by omega) (by omega)
        have e2 := ihb b' (fitT a a' ps).2 m ot.2.2 ou.2.2 (by omega) k1 (by omega) (by omega)
        simp [d_fit_from, b_fit_from, t_fit_from, Tr.d, Tr.n, fitT, G9.execs, G9.exec, ev, evB, evL, evP, evW, evK, evO, evC, evI, evIn, rdL, bnd, G9.ret, opt, stuck, rd, vl, vp, nr1, nr2, nr3, nr4, nr5, nr6, nr7, nr8, nr9, tupV, plArg, tst, val?, bool?, get1, conD, flPO, flW, runB, runI, Def.env, Def.envW, opIdx, opBin, opCmp, ↓exec_fr, ↓ev_lcB, dict0, eqDs, eqDn, eqDb, kindM, Mt.mut, opMth, opBlt, keyD, intO, ofPO, nox, consO, Tgt.bind, wipeE, Tgt.own, itemsD, dictKs, isVar, freshE, G9.cellOf, G9.newCell, mutW, mutM, setC, locW, Calls.locked, isT, G9.isNon, Cell.toD, at0, at1, at2, at3, cut1, cut01, sz1, sz2, sz3, sz4, lcLoop, lcBody, zipOf, zipD, boolsD, eqDs, ow, e1, e2]
      · simp [d_fit_from, b_fit_from, t_fit_from, Tr.d, Tr.n, fitT, G9.execs, G9.exec, ev, evB, evL, evP, evW, evK, evO, evC, evI, evIn, rdL, bnd, G9.ret, opt, stuck, rd, vl, vp, nr1, nr2, nr3, nr4, nr5, nr6, nr7, nr8, nr9, tupV, plArg, tst, val?, bool?, get1, conD, flPO, flW, runB, runI, Def.env, Def.envW, opIdx, opBin, opCmp, ↓exec_fr, ↓ev_lcB, dict0, eqDs, eqDn, eqDb, kindM, Mt.mut, opMth, opBlt, keyD, intO, ofPO, nox, consO, Tgt.bind, wipeE, Tgt.own, itemsD, dictKs, isVar, freshE, G9.cellOf, G9.newCell, mutW, mutM, setC, locW, Calls.locked, isT, G9.isNon, Cell.toD, at0, at1, at2, at3, cut1, cut01, sz1, sz2, sz3, sz4, lcLoop, lcBody, zipOf, zipD, boolsD, eqDs, ow, e]
def fv (F : List (Int × Tr)) (k : Int) : Tr := (look F k).getD (.unk k)
/-- what is settled, rising -/
def sp (F : List (Int × Tr)) : List (Int × Tr) := (srtI (F.map (·.1))).map fun k => (k, fv F k)
theorem intsD_I0 : ∀ xs : List Int, intsD (xs.map .int) = some xs
  | [] => rfl
  | x :: r => by simp [intsD, intsD_I0 r]
theorem srt_keys (F : List (Int × Tr)) (h : F.length < 64) : srtD ((dkOf F).map Dk) = some ((srtI (F.map (·.1))).map .int) := by
  have e : (dkOf F).map Dk = (F.map (·.1)).map D.int := by simp [dkOf, kD, Dk]
  rw [e]
  unfold srtD
  rw [if_pos (by simpa using h), intsD_I0]
theorem lcLoop_map {f : D → R (Option D)} {M : List Cell} {g : Int → D} : ∀ {S : List Int}, (∀ k ∈ S, f (.int k) M = .ok (some (g k)) M) → lcLoop f (S.map D.int) M = .ok (S.map g) M
  | [], _ => rfl
  | k :: S, h => by
    simp only [List.map_cons, lcLoop, bnd]
    rw [h k (by simp)]
    simp only
    rw [lcLoop_map fun d' h' => h d' (by simp [h'])]
    rfl
theorem srt_mem (F : List (Int × Tr)) (k : Int) : k ∈ srtI (F.map (·.1)) ↔ k ∈ F.map (·.1) := (srtI_perm _).mem_iff
theorem look_some {F : List (Int × Tr)} {k : Int} (h : k ∈ F.map (·.1)) : ∃ v, look F k = some v := by
  cases e : look F k with
  | some v => exact ⟨v, rfl⟩
  | none => exact absurd h (look_none e)
theorem fits_lc (C : Calls) (x1 x2 x3 x4 : Str) (p1 p2 p3 p4 p5 p6 : Pos) (kk : Nat) (a b : Option Wv) (v : Option Wv) (F : List (Int × Tr)) :
    lcLoop (lcBody C (.tup [.var 3 x1 p1, .idx (.var 2 x2 p2) (.var 3 x3 p3) p4] kk p5) (.one 3 x4 p6) none [a, b, some (.loc 0), v]) ((srtI (F.map (·.1))).map D.int) [.dict (dkOf F) (dvOf F)] = .ok ((sp F).map pD) [.dict (dkOf F) (dvOf F)] := by
  unfold sp
  rw [List.map_map]
  refine lcLoop_map fun k hk => ?_
  obtain ⟨v', hv⟩ := look_some ((srt_mem F k).mp hk)
  simp [lcBody, Tr.n, G9.execs, G9.exec, ev, evB, evL, evP, evW, evK, evO, evC, evI, evIn, rdL, bnd, G9.ret, opt, stuck, rd, vl, vp, nr1, nr2, nr3, nr4, nr5, nr6, nr7, nr8, nr9, tupV, plArg, tst, val?, bool?, get1, conD, flPO, flW, runB, runI, Def.env, Def.envW, opIdx, opBin, opCmp, eqD, kindM, Mt.mut, opMth, opBlt, keyD, intO, ofPO, nox, lcLoop, consO, Tgt.bind, wipeE, Tgt.own, itemsD, dictKs, isVar, freshE, G9.cellOf, G9.newCell, mutW, mutM, setC, locW, forLoop, Calls.locked, isT, G9.isNon, Cell.toD, at0, at1, at2, at3, cut1, cut01, sz1, sz2, sz3, sz4, getK_of, hv, pD, fv]
theorem sp_len (F : List (Int × Tr)) : (srtI (F.map (·.1))).length = F.length := by rw [(srtI_perm _).length_eq]; simp
theorem fits_ok (t u : Tr) (n : Nat) (ot : t.ok) (ht : t.h ≤ 5) (ou : u.ok) (hu : u.h ≤ 50) (hn : t.h + 1 < n) : callP T TI gl n "fits" [t.d, u.d] = .ok (if (fitT t u []).1 = true then .ptp ((sp (fitT t u []).2).map pD) else .non) := by
  obtain ⟨m, rfl⟩ : ∃ m, n = m + 1 := ⟨n - 1, by omega⟩
  rw [callP_T m _ _ _ t_fits]
  have z1 := unk_len t
  have z3 : 2 ^ t.h ≤ 2 ^ 5 := Nat.pow_le_pow_right (by omega) (by omega)
  have k0 : keysOk [] := ⟨by simp, by simp⟩
  have e1 := fit_from_ok t u [] m ot ou hu k0 (by simp; omega) (by omega)
  obtain ⟨k1, l1, _⟩ := fitT_keep t u [] ou hu k0
  simp only [List.length_nil, Nat.zero_add] at l1
  have e2 := srt_keys (fitT t u []).2 (by omega)
  have e3 : (srtI ((fitT t u []).2.map (·.1))).length ≤ sizeLine := by rw [sp_len]; exact sz _ (by omega)
  have e0 : dkOf [] = [] := rfl
  have e0' : dvOf [] = [] := rfl
  rw [e0, e0'] at e1
  cases hb : (fitT t u []).1 with
  | false =>
    rw [hb] at e1
    simp [d_fits, b_fits, t_fit_from, Tr.n, G9.execs, G9.exec, ev, evB, evL, evP, evW, evK, evO, evC, evI, evIn, rdL, bnd, G9.ret, opt, stuck, rd, vl, vp, nr1, nr2, nr3, nr4, nr5, nr6, nr7, nr8, nr9, tupV, plArg, tst, val?, bool?, get1, conD, flPO, flW, runB, runI, Def.env, Def.envW, opIdx, opBin, opCmp, ↓exec_fr, ↓ev_lcB, dict0, eqDs, eqDn, eqDb, kindM, Mt.mut, opMth, opBlt, keyD, intO, ofPO, nox, consO, Tgt.bind, wipeE, Tgt.own, itemsD, dictKs, isVar, freshE, G9.cellOf, G9.newCell, mutW, mutM, setC, locW, Calls.locked, isT, G9.isNon, Cell.toD, at0, at1, at2, at3, cut1, cut01, sz1, sz2, sz3, sz4, e1]
  | true =>
    rw [hb] at e1
    have e4 := fits_lc ⟨callP T TI gl m, false, gl, fun f => (T f).isSome, callI T TI gl m, fun f => (TI f).isSome⟩
    simp [d_fits, b_fits, t_fit_from, Tr.n, G9.execs, G9.exec, ev, evB, evL, evP, evW, evK, evO, evC, evI, evIn, rdL, bnd, G9.ret, opt, stuck, rd, vl, vp, nr1, nr2, nr3, nr4, nr5, nr6, nr7, nr8, nr9, tupV, plArg, tst, val?, bool?, get1, conD, flPO, flW, runB, runI, Def.env, Def.envW, opIdx, opBin, opCmp, ↓exec_fr, ↓ev_lcB, dict0, eqDs, eqDn, eqDb, kindM, Mt.mut, opMth, opBlt, keyD, intO, ofPO, nox, consO, Tgt.bind, wipeE, Tgt.own, itemsD, dictKs, isVar, freshE, G9.cellOf, G9.newCell, mutW, mutM, setC, locW, Calls.locked, isT, G9.isNon, Cell.toD, at0, at1, at2, at3, cut1, cut01, sz1, sz2, sz3, sz4, e1, e2, e3, e4]
/-! ### as a dict -/
theorem merge_nd : ∀ (l acc : List (Int × Tr)), ((acc ++ l).map (·.1)).Nodup → mergeD (acc.map kD) (l.map kD) = (acc ++ l).map kD
  | [], acc, _ => by simp [mergeD]
  | p :: r, acc, h => by
    have hn : look acc p.1 = none := by
      cases e : look acc p.1 with
      | none => rfl
      | some v =>
        have h1 := look_mem e
        rw [List.map_append, List.nodup_append] at h
        exact absurd rfl (h.2.2 p.1 (List.mem_map.mpr ⟨_, h1, rfl⟩) p.1 (by simp))
    have e1 : putD (acc.map kD) (kD p).1 (kD p).2 = (acc ++ [p]).map kD := put_new hn p.2
    have ih := merge_nd r (acc ++ [p]) (by simpa using h)
    unfold mergeD at ih ⊢
    rw [List.map_cons, List.foldl_cons, e1, ih]
    simp
theorem sp_keys (F : List (Int × Tr)) : (sp F).map (·.1) = srtI (F.map (·.1)) := by
  unfold sp
  rw [List.map_map]
  exact List.map_id'' (fun _ => rfl) _
theorem look_map (f : Int → Tr) (i : Int) : ∀ S : List Int, i ∈ S → look (S.map fun k => (k, f k)) i = some (f i)
  | [], h => by cases h
  | k :: S, h => by
    simp only [List.map_cons, look]
    split
    · rename_i e; rw [e]
    · rename_i e
      rcases List.mem_cons.mp h with h | h
      · exact absurd h.symm e
      · exact look_map f i S h
theorem look_sp {F : List (Int × Tr)} {i : Int} {v : Tr} (h : look F i = some v) : look (sp F) i = some v := by
  have hm : i ∈ srtI (F.map (·.1)) := (srt_mem F i).mpr (List.mem_map.mpr ⟨_, look_mem h, rfl⟩)
  unfold sp
  rw [look_map (fv F) i _ hm]
  simp [fv, h]
theorem sp_ok {F : List (Int × Tr)} (k : keysOk F) : ∀ q ∈ sp F, q.2.ok ∧ q.2.h ≤ 50 := by
  intro q hq
  unfold sp at hq
  obtain ⟨i, hi, rfl⟩ := List.mem_map.mp hq
  obtain ⟨v, hv⟩ := look_some ((srt_mem F i).mp hi)
  have := k.2 _ (look_mem hv)
  simpa [fv, hv] using this
theorem pd_facts : ∀ l : List (Int × Tr), (∀ q ∈ l, q.2.ok ∧ q.2.h ≤ 50) → deqs (l.map pD) (l.map pD) = true ∧ lays (l.map pD) = true ∧ deps (l.map pD) ≤ 60
  | [], _ => by simp [deqs, lays, deps]
  | p :: r, h => by
    obtain ⟨h1, h2, h3⟩ := pd_facts r fun q hq => h q (by simp [hq])
    obtain ⟨o, g⟩ := h p (by simp)
    have hd := dep_le p.2
    refine ⟨?_, ?_, ?_⟩
    · simp [pD, deq_tt, deqs_c, deq_ii, deqs_2, deq_refl, h1]
    · simp [pD, lays, lay, lay_ok _ o, h2]
    · simp [pD, deps, dep]
      omega
theorem eqD_pd {l : List (Int × Tr)} (h : ∀ q ∈ l, q.2.ok ∧ q.2.h ≤ 50) : eqD (.tup (l.map pD)) (.tup (l.map pD)) = some true := by
  obtain ⟨h1, h2, h3⟩ := pd_facts l h
  simp [eqD, eqOk, lay, dep, deq, h1, h2]
  omega
theorem eqD_non : eqD .non .non = some true := by simp [eqD, eqOk, lay, dep, deq]
end K13

set_option Elab.async false
set_option linter.all false
set_option maxRecDepth 100000
set_option maxHeartbeats 4000000
namespace K13
open PySem L2 G9
/-- what f makes of an unknown -/
def fs (f : Int → Option Tr) (i : Int) : Tr := (f i).getD (.unk i)
def agree (f : Int → Option Tr) (ps : List (Int × Tr)) : Prop := ∀ i v, look ps i = some v → v = fs f i
theorem look_new_ne {ps : List (Int × Tr)} {i x : Int} (v : Tr) (h : x ≠ i) : look (ps ++ [(x, v)]) i = look ps i := by
  induction ps with
  | nil => simp [look, h]
  | cons p ps ih => simp only [look, List.cons_append, ih]
theorem fit_self (f : Int → Option Tr) : ∀ (t : Tr) (ps : List (Int × Tr)), agree f ps → (fitT t (stT f t) ps).1 = true ∧ agree f (fitT t (stT f t) ps).2 ∧ ∀ i, (look (fitT t (stT f t) ps).2 i).isSome = true ↔ ((look ps i).isSome = true ∨ i ∈ unk t)
  | .unk x, ps, h => by
    simp only [stT, fitT, unk]
    cases e : look ps x with
    | some v =>
      have hv := h x v e
      subst hv
      refine ⟨deq_refl _, h, fun i => ⟨.inl, fun z => ?_⟩⟩
      rcases z with z | z
      · exact z
      · rw [List.mem_singleton] at z; subst z; rw [e]; rfl
    | none =>
      refine ⟨rfl, fun i v hv => ?_, fun i => ?_⟩
      · by_cases hi : x = i
        · subst hi
          rw [look_new e] at hv
          cases hv
          rfl
        · rw [look_new_ne _ hi] at hv
          exact h i v hv
      · by_cases hi : x = i
        · subst hi
          rw [look_new e]
          simp
        · rw [look_new_ne _ hi]
          simp [Ne.symm hi]
  | .nil w, ps, h => by
    simp only [stT, fitT, unk]
    exact ⟨by simp, h, fun i => by simp⟩
  | .one w a, ps, h => by
    simp only [stT, fitT, unk, if_true]
    exact fit_self f a ps h
  | .two w a b, ps, h => by
    simp only [stT, fitT, unk, if_true]
    obtain ⟨a1, a2, a3⟩ := fit_self f a ps h
    obtain ⟨b1, b2, b3⟩ := fit_self f b _ a2
    refine ⟨by rw [a1, b1]; rfl, b2, fun i => ?_⟩
    rw [b3, a3, List.mem_append, or_assoc]
/-- its unknowns, rising -/
def ul (t : Tr) : List Int := srtI (dupI (unk t))
theorem mem_ul (t : Tr) (i : Int) : i ∈ ul t ↔ i ∈ unk t := by unfold ul; rw [(srtI_perm _).mem_iff, dupI_mem]
theorem mem_keys {F : List (Int × Tr)} {i : Int} : i ∈ F.map (·.1) ↔ (look F i).isSome = true := by
  constructor
  · intro h
    obtain ⟨v, e⟩ := look_some h
    rw [e]; rfl
  · intro h
    obtain ⟨v, e⟩ := Option.isSome_iff_exists.mp h
    exact List.mem_map.mpr ⟨_, look_mem e, rfl⟩
theorem srt_same {a b : List Int} (na : a.Nodup) (nb : b.Nodup) (h : ∀ i, i ∈ a ↔ i ∈ b) : srtI a = srtI b :=
  srtI_eq ((srtI_perm a).trans ((List.perm_ext_iff_of_nodup na nb).mpr h)) (srtI_sorted a)
theorem srt_dup_same {a b : List Int} (h : ∀ i, i ∈ a ↔ i ∈ b) : srtI (dupI a) = srtI (dupI b) :=
  srt_same (dupI_nodup a) (dupI_nodup b) fun i => by rw [dupI_mem, dupI_mem, h]
theorem sp_self (f : Int → Option Tr) (t : Tr) (o : (stT f t).ok) (g : (stT f t).h ≤ 50) : sp (fitT t (stT f t) []).2 = (ul t).map fun k => (k, fs f k) := by
  obtain ⟨h1, h2, h3⟩ := fit_self f t [] (fun i v h => by cases h)
  obtain ⟨k1, _, _⟩ := fitT_keep t (stT f t) [] o g ⟨by simp, by simp⟩
  have e : srtI ((fitT t (stT f t) []).2.map (·.1)) = ul t := srt_same k1.1 (dupI_nodup _) fun i => by
    rw [mem_keys, h3, dupI_mem]
    simp [look]
  unfold sp
  rw [e]
  apply List.map_congr_left
  intro k hk
  have : (look (fitT t (stT f t) []).2 k).isSome = true := (h3 k).mpr (.inr ((mem_ul t k).mp hk))
  obtain ⟨v, hv⟩ := Option.isSome_iff_exists.mp this
  simp only [fv, hv, Option.getD_some]
  rw [h2 k v hv]
theorem fits_self (f : Int → Option Tr) (t : Tr) (n : Nat) (ot : t.ok) (ht : t.h ≤ 5) (o : (stT f t).ok) (g : (stT f t).h ≤ 50) (hn : t.h + 1 < n) : callP T TI gl n "fits" [t.d, (stT f t).d] = .ok (.ptp (((ul t).map fun k => (k, fs f k)).map pD)) := by
  rw [fits_ok t _ n ot ht o g hn, if_pos (fit_self f t [] (fun i v h => by cases h)).1, sp_self f t o g]
/-! ### one settling behind another -/
def comp (f g : Int → Option Tr) (i : Int) : Option Tr := match f i with
  | some u => some (stT g u)
  | none => g i
theorem st_comp (f g : Int → Option Tr) : ∀ t : Tr, stT g (stT f t) = stT (comp f g) t
  | .unk i => by
    simp only [stT, comp]
    cases e : f i with
    | none => rfl
    | some u => rfl
  | .nil w => rfl
  | .one w a => by simp only [stT, st_comp f g a]
  | .two w a b => by simp only [stT, st_comp f g a, st_comp f g b]
theorem st_congr {f g : Int → Option Tr} : ∀ {t : Tr}, (∀ i ∈ unk t, fs f i = fs g i) → stT f t = stT g t
  | .unk i, h => h i (by simp [unk])
  | .nil w, _ => rfl
  | .one w a, h => by simp only [stT, st_congr (t := a) h]
  | .two w a b, h => by
    simp only [unk, List.mem_append] at h
    simp only [stT, st_congr (t := a) fun i hi => h i (.inl hi), st_congr (t := b) fun i hi => h i (.inr hi)]
theorem st_fix {f : Int → Option Tr} : ∀ {t : Tr}, stT f t = t → ∀ i ∈ unk t, fs f i = .unk i
  | .unk i, h, j, hj => by
    simp only [unk, List.mem_singleton] at hj
    subst hj
    exact h
  | .nil w, _, j, hj => by simp [unk] at hj
  | .one w a, h, j, hj => by
    simp only [stT, Tr.one.injEq, true_and] at h
    exact st_fix h j hj
  | .two w a b, h, j, hj => by
    simp only [stT, Tr.two.injEq, true_and] at h
    simp only [unk, List.mem_append] at hj
    rcases hj with hj | hj
    · exact st_fix h.1 j hj
    · exact st_fix h.2 j hj
/-! ### counting, names exchanged -/
section
variable {F1 F2 : Int → Option Tr}
def phi (F1 : Int → Option Tr) (i : Int) : Int := match fs F1 i with
  | .unk j => j
  | _ => i
def Pr (F1 F2 : Int → Option Tr) (i : Int) : Prop := fs F1 i = .unk (phi F1 i) ∧ fs F2 (phi F1 i) = .unk i
theorem phi_inj {i k : Int} (hi : Pr F1 F2 i) (hk : Pr F1 F2 k) (e : phi F1 i = phi F1 k) : i = k := by
  have h1 := hi.2
  rw [e, hk.2] at h1
  cases h1
  rfl
def ren (F1 : Int → Option Tr) (p : Int × Tr) : Int × Tr := (phi F1 p.1, p.2)
theorem look_ren {x : Int} (hx : Pr F1 F2 x) : ∀ {ps : List (Int × Tr)}, (∀ q ∈ ps, Pr F1 F2 q.1) → look (ps.map (ren F1)) (phi F1 x) = look ps x
  | [], _ => rfl
  | p :: r, h => by
    simp only [List.map_cons, look, ren]
    have ih := look_ren hx (ps := r) fun q hq => h q (by simp [hq])
    by_cases e : p.1 = x
    · rw [if_pos e, if_pos (by rw [e])]
    · rw [if_neg e, if_neg (fun z => e (phi_inj (h p (by simp)) hx z))]
      exact ih
theorem cnt_ren : ∀ (xs : List Int) (ps : List (Int × Tr)), (∀ q ∈ ps, Pr F1 F2 q.1) → (∀ x ∈ xs, Pr F1 F2 x) → cnt (ps.map (ren F1)) (xs.map (phi F1)) = (cnt ps xs).map (ren F1) ∧ ∀ q ∈ cnt ps xs, Pr F1 F2 q.1
  | [], ps, h, _ => ⟨rfl, h⟩
  | x :: r, ps, h, h' => by
    have hx := h' x (by simp)
    have e : cstep (ps.map (ren F1)) (phi F1 x) = (cstep ps x).map (ren F1) := by
      unfold cstep
      rw [look_ren hx h]
      split
      · rfl
      · simp [ren]
    have hs : ∀ q ∈ cstep ps x, Pr F1 F2 q.1 := by
      intro q hq
      unfold cstep at hq
      split at hq
      · exact h q hq
      · rcases List.mem_append.mp hq with hq | hq
        · exact h q hq
        · rw [List.mem_singleton] at hq; subst hq; exact hx
    show cnt (cstep (ps.map (ren F1)) (phi F1 x)) (r.map (phi F1)) = _ ∧ _
    rw [e]
    exact cnt_ren r (cstep ps x) hs fun y hy => h' y (by simp [hy])
theorem cstep_has (ps : List (Int × Tr)) (x : Int) : (look (cstep ps x) x).isSome = true := by
  unfold cstep
  split
  · assumption
  · rename_i e
    rw [look_new (by simpa using e)]
    rfl
theorem cnt_has : ∀ (xs : List Int) (ps : List (Int × Tr)) (x : Int), x ∈ xs → (look (cnt ps xs) x).isSome = true
  | y :: r, ps, x, h => by
    show (look (cnt (cstep ps y) r) x).isSome = true
    rcases List.mem_cons.mp h with h | h
    · subst h
      obtain ⟨v, hv⟩ := Option.isSome_iff_exists.mp (cstep_has ps x)
      rw [cnt_ext r hv]
      rfl
    · exact cnt_has r _ x h
theorem unk_ren : ∀ (t : Tr), (∀ i ∈ unk t, Pr F1 F2 i) → unk (stT F1 t) = (unk t).map (phi F1)
  | .unk i, h => by
    have := (h i (by simp [unk])).1
    show unk (fs F1 i) = _
    rw [this]
    rfl
  | .nil w, _ => rfl
  | .one w a, h => by simp only [stT, unk, unk_ren a h]
  | .two w a b, h => by
    simp only [unk, List.mem_append] at h
    simp only [stT, unk, List.map_append, unk_ren a fun i hi => h i (.inl hi), unk_ren b fun i hi => h i (.inr hi)]
theorem st_ren {C : List (Int × Tr)} (hC : ∀ q ∈ C, Pr F1 F2 q.1) : ∀ (t : Tr), (∀ i ∈ unk t, Pr F1 F2 i ∧ (look C i).isSome = true) → stT (look (C.map (ren F1))) (stT F1 t) = stT (look C) t
  | .unk i, h => by
    obtain ⟨h1, h2⟩ := h i (by simp [unk])
    show stT _ (fs F1 i) = _
    rw [h1.1]
    simp only [stT]
    rw [look_ren h1 hC]
    obtain ⟨v, hv⟩ := Option.isSome_iff_exists.mp h2
    rw [hv]
    rfl
  | .nil w, _ => rfl
  | .one w a, h => by simp only [stT, st_ren hC a h]
  | .two w a b, h => by
    simp only [unk, List.mem_append] at h
    simp only [stT, st_ren hC a fun i hi => h i (.inl hi), st_ren hC b fun i hi => h i (.inr hi)]
theorem st_unk {F : Int → Option Tr} {t : Tr} {i : Int} (h : stT F t = .unk i) : ∃ j, t = .unk j ∧ fs F j = .unk i := by
  cases t with
  | unk j => exact ⟨j, rfl, h⟩
  | nil w => cases h
  | one w a => cases h
  | two w a b => cases h
/-- fits both ways: counted alike -/
theorem ctd_both {s o : Tr} (h1 : stT F1 s = o) (h2 : stT F2 o = s) : ctd s = ctd o := by
  have hP : ∀ i ∈ unk s, Pr F1 F2 i := by
    intro i hi
    have e : stT (comp F1 F2) s = s := by rw [← st_comp, h1, h2]
    have e2 := st_fix e i hi
    have e3 : stT F2 (fs F1 i) = .unk i := by
      have : fs (comp F1 F2) i = stT F2 (fs F1 i) := by
        unfold fs comp
        cases F1 i with
        | none => rfl
        | some u => rfl
      rw [← this]; exact e2
    obtain ⟨j, e4, e5⟩ := st_unk e3
    have e6 : phi F1 i = j := by unfold phi; rw [e4]
    exact ⟨by rw [e6]; exact e4, by rw [e6]; exact e5⟩
  obtain ⟨c1, c2⟩ := cnt_ren (F1 := F1) (F2 := F2) (unk s) [] (by simp) hP
  have c1 : cnt [] ((unk s).map (phi F1)) = (cnt [] (unk s)).map (ren F1) := c1
  show ctd s = stT (look (cnt [] (unk o))) o
  rw [← h1, unk_ren s hP, c1, st_ren c2 s fun i hi => ⟨hP i hi, cnt_has _ _ i hi⟩]
  rfl
end
end K13

set_option Elab.async false
set_option linter.all false
set_option maxRecDepth 100000
set_option maxHeartbeats 4000000
namespace K13
open PySem L2 G9
/-! ### what is counted, in order -/
def inOrd (ps : List (Int × Tr)) : Prop := (∀ (k : Nat) p, ps[k]? = some p → p.2 = .unk k) ∧ (ps.map (·.1)).Nodup
theorem inOrd_step {ps : List (Int × Tr)} (h : inOrd ps) (x : Int) : inOrd (cstep ps x) := by
  unfold cstep
  split
  · exact h
  · rename_i e
    refine ⟨fun k p hk => ?_, ?_⟩
    · by_cases hl : k < ps.length
      · rw [List.getElem?_append_left hl] at hk
        exact h.1 k p hk
      · rw [List.getElem?_append_right (by omega)] at hk
        have : k - ps.length = 0 := by
          cases hz : k - ps.length with
          | zero => rfl
          | succ z => rw [hz] at hk; simp at hk
        rw [this] at hk
        simp at hk
        subst hk
        have : k = ps.length := by omega
        rw [this]
    · rw [List.map_append, List.nodup_append]
      refine ⟨h.2, by simp, fun a ha b hb => ?_⟩
      simp at hb
      subst hb
      exact fun z => look_none (by simpa using e) (z ▸ ha)
theorem inOrd_cnt : ∀ (xs : List Int) {ps : List (Int × Tr)}, inOrd ps → inOrd (cnt ps xs)
  | [], _, h => h
  | x :: r, _, h => inOrd_cnt r (inOrd_step h x)
theorem inOrd_nil : inOrd [] := ⟨fun k p h => by simp at h, by simp⟩
theorem cnt_keys : ∀ (xs : List Int) (ps : List (Int × Tr)) (i : Int), (look (cnt ps xs) i).isSome = true ↔ ((look ps i).isSome = true ∨ i ∈ xs)
  | [], ps, i => by simp [cnt]
  | x :: r, ps, i => by
    show (look (cnt (cstep ps x) r) i).isSome = true ↔ _
    rw [cnt_keys r]
    have : (look (cstep ps x) i).isSome = true ↔ ((look ps i).isSome = true ∨ i = x) := by
      unfold cstep
      split
      · rename_i e
        exact ⟨.inl, fun z => z.elim id fun q => q ▸ e⟩
      · rename_i e
        by_cases hi : x = i
        · subst hi; rw [look_new (by simpa using e)]; simp
        · rw [look_new_ne _ hi]; simp [Ne.symm hi]
    rw [this, List.mem_cons, or_assoc]
theorem ord_uniq {C : List (Int × Tr)} (h : inOrd C) {p q : Int × Tr} (hp : p ∈ C) (hq : q ∈ C) (e : p.2 = q.2) : p = q := by
  obtain ⟨k, hk, ek⟩ := List.getElem_of_mem hp
  obtain ⟨l, hl, el⟩ := List.getElem_of_mem hq
  have h1 := h.1 k p (by rw [List.getElem?_eq_getElem hk, ek])
  have h2 := h.1 l q (by rw [List.getElem?_eq_getElem hl, el])
  rw [h1, h2] at e
  simp only [Tr.unk.injEq, Int.natCast_inj] at e
  subst e
  rw [← ek, ← el]
def backF (C : List (Int × Tr)) (j : Int) : Option Tr := (C.find? fun p => match p.2 with | .unk k => k == j | _ => false).map fun p => .unk p.1
theorem back_ok (s : Tr) : stT (backF (cnt [] (unk s))) (ctd s) = s := by
  unfold ctd
  rw [st_comp]
  have hid : stT (fun _ => none) s = s := st_id (fun i v h => by cases h) s
  refine (st_congr (t := s) fun i hi => ?_).trans hid
  have ho := inOrd_cnt (unk s) inOrd_nil
  obtain ⟨v, hv⟩ := Option.isSome_iff_exists.mp (cnt_has (unk s) [] i hi)
  have hm := look_mem hv
  obtain ⟨k, hk, ek⟩ := List.getElem_of_mem hm
  have h1 := ho.1 k (i, v) (by rw [List.getElem?_eq_getElem hk, ek])
  simp only at h1
  subst h1
  have hf : (cnt [] (unk s)).find? (fun p => match p.2 with | .unk k' => k' == (k : Int) | _ => false) = some (i, .unk k) := by
    cases e : (cnt [] (unk s)).find? (fun p => match p.2 with | .unk k' => k' == (k : Int) | _ => false) with
    | none =>
      have := List.find?_eq_none.mp e (i, .unk k) hm
      simp at this
    | some p =>
      have p1 := List.find?_some e
      have p2 := List.mem_of_find?_eq_some e
      have : p.2 = .unk k := by
        cases e2 : p.2 with
        | unk k' => rw [e2] at p1; simp at p1; rw [p1]
        | _ => rw [e2] at p1; simp at p1
      rw [ord_uniq ho p2 hm this]
  have hb : backF (cnt [] (unk s)) k = some (.unk i) := by unfold backF; rw [hf]; rfl
  show fs (comp (look (cnt [] (unk s))) (backF (cnt [] (unk s)))) i = .unk i
  unfold fs comp
  rw [hv]
  simp [stT, hb]
theorem cnt_len_ul (s : Tr) : (cnt [] (unk s)).length = (ul s).length := by
  have ho := inOrd_cnt (unk s) inOrd_nil
  have hp : ((cnt [] (unk s)).map (·.1)).Perm (dupI (unk s)) := (List.perm_ext_iff_of_nodup ho.2 (dupI_nodup _)).mpr fun i => by
    rw [mem_keys, cnt_keys, dupI_mem]
    simp [look]
  have := hp.length_eq
  rw [List.length_map] at this
  rw [this]
  exact ((srtI_perm _).length_eq).symm
theorem ul_ctd (s : Tr) : ul (ctd s) = (List.range (ul s).length).map fun (k : Nat) => (k : Int) := by
  have ho := inOrd_cnt (unk s) inOrd_nil
  obtain ⟨_, n, h2⟩ := cnt_g (unk s) [] 0 rfl (fun i v h => by cases h)
  have hu : unk (ctd s) = (unk s).map (gOf (cnt [] (unk s))) := unk_st h2 s
  symm
  unfold ul
  refine srtI_eq ?_ ?_
  · have nd : ((List.range (srtI (dupI (unk s))).length).map fun (k : Nat) => (k : Int)).Nodup := by
      refine List.Pairwise.map _ (fun a b h => ?_) List.nodup_range
      omega
    refine (List.perm_ext_iff_of_nodup nd (dupI_nodup _)).mpr fun j => ?_
    rw [dupI_mem, hu, List.mem_map, List.mem_map]
    have hlen : (srtI (dupI (unk s))).length = (cnt [] (unk s)).length := (cnt_len_ul s).symm
    rw [hlen]
    constructor
    · rintro ⟨k, hk, rfl⟩
      rw [List.mem_range] at hk
      have hg := List.getElem?_eq_getElem hk
      have h1 := ho.1 k _ hg
      have hm : (cnt [] (unk s))[k] ∈ cnt [] (unk s) := List.getElem_mem hk
      have hx : (look (cnt [] (unk s)) (cnt [] (unk s))[k].1).isSome = true := mem_keys.mp (List.mem_map.mpr ⟨_, hm, rfl⟩)
      refine ⟨(cnt [] (unk s))[k].1, ?_, ?_⟩
      · have := (cnt_keys (unk s) [] _).mp hx
        simpa [look] using this
      · obtain ⟨v, hv⟩ := Option.isSome_iff_exists.mp hx
        have hm2 := look_mem hv
        have nd2 := ho.2
        have key : ((cnt [] (unk s))[k].1, v) = (cnt [] (unk s))[k] := by
          have un : ∀ {l : List (Int × Tr)}, (l.map (·.1)).Nodup → ∀ {a b : Int × Tr}, a ∈ l → b ∈ l → a.1 = b.1 → a = b := by
            intro l
            induction l with
            | nil => intro _ a b ha; cases ha
            | cons p r ih =>
              intro nd a b ha hb e
              simp only [List.map_cons, List.nodup_cons] at nd
              rcases List.mem_cons.mp ha with ha1 | ha1 <;> rcases List.mem_cons.mp hb with hb1 | hb1
              · rw [ha1, hb1]
              · exact absurd (show p.1 ∈ r.map (·.1) from List.mem_map.mpr ⟨b, hb1, by rw [← ha1]; exact e.symm⟩) nd.1
              · exact absurd (show p.1 ∈ r.map (·.1) from List.mem_map.mpr ⟨a, ha1, by rw [← hb1]; exact e⟩) nd.1
              · exact ih nd.2 ha1 hb1 e
          exact un nd2 hm2 hm rfl
        have hv2 : v = (cnt [] (unk s))[k].2 := congrArg Prod.snd key
        unfold gOf
        rw [hv, hv2, h1]
    · rintro ⟨i, hi, rfl⟩
      obtain ⟨v, hv⟩ := Option.isSome_iff_exists.mp (cnt_has (unk s) [] i hi)
      obtain ⟨k, hk, ek⟩ := List.getElem_of_mem (look_mem hv)
      have h1 := ho.1 k (i, v) (by rw [List.getElem?_eq_getElem hk, ek])
      simp only at h1
      refine ⟨k, List.mem_range.mpr hk, ?_⟩
      unfold gOf
      rw [hv, h1]
  · refine List.Pairwise.map _ (fun a b h => ?_) (List.pairwise_lt_range)
    omega
end K13

set_option Elab.async false
set_option linter.all false
set_option maxRecDepth 100000
set_option maxHeartbeats 4000000
namespace K13
open PySem L2 G9
theorem settling_loop2 (x : Int) (m : Nat) (hm : 6 ≤ m) : ∀ (ks : List Nat) (v : Option Wv) (acc : List (Int × Tr)), acc.length + ks.length ≤ 5 → (∀ q ∈ acc, q.2.ok ∧ q.2.h ≤ 2) → (acc.map (·.1) ++ ks.map fun (k : Nat) => (k : Int)).Pairwise (· < ·) →
    ∃ (v' : Option Wv) (acc' : List (Int × Tr)), forLoop (frB ⟨callP T TI gl m, false, gl, fun f => (T f).isSome, callI T TI gl m, fun f => (TI f).isSome⟩ (tgtAt b__law_settling 1) (bodyAt b__law_settling 1)) (ks.map fun (k : Nat) => D.int k) [some (.val (.int x)), some (.val (.int 2)), some (.loc 0), v] [.lst (acc.map pD)] = .ok (.nx [some (.val (.int x)), some (.val (.int 2)), some (.loc 0), v']) [.lst (acc'.map pD)] ∧ (∀ q ∈ acc', q.2.ok ∧ q.2.h ≤ 2) ∧ (acc'.map (·.1)).Pairwise (· < ·) ∧ acc'.length ≤ 5 := by
  intro ks
  induction ks with
  | nil => intro v acc hl h hp; exact ⟨v, acc, rfl, h, by simpa using hp, by simpa using hl⟩
  | cons k ks ih =>
    intro v acc hl h hp
    simp only [List.length_cons] at hl
    obtain ⟨z, hz⟩ := drawn_ok x k m (by omega)
    obtain ⟨z2, hz2⟩ := drawn_ok x (20 + (k : Int)) m (by omega)
    obtain ⟨t, e1, o1, g1⟩ := sort_ok 1 2 z2 m (by omega)
    have hs : acc.length < sizeLine := by have := sz (acc.length + 1) (by omega); omega
    by_cases hk : 0 < z % 3
    · obtain ⟨v', acc', h1, h2⟩ := ih (some (.val (.int k))) (acc ++ [((k : Int), t)]) (by simp; omega) (fun q hq => by
        rcases List.mem_append.mp hq with hq | hq
        · exact h q hq
        · rw [List.mem_singleton] at hq; subst hq; exact ⟨o1, g1⟩) (by simpa using hp)
      refine ⟨v', acc', ?_, h2⟩
      rw [← h1]
      simp at e1
      simp [forLoop, frB, tgtAt, bodyAt, b__law_settling, Tr.n, G9.execs, G9.exec, ev, evB, evL, evP, evW, evK, evO, evC, evI, evIn, rdL, bnd, G9.ret, opt, stuck, rd, vl, vp, nr1, nr2, nr3, nr4, nr5, nr6, nr7, nr8, nr9, tupV, plArg, tst, val?, bool?, get1, conD, flPO, flW, runB, runI, Def.env, Def.envW, opIdx, opBin, opCmp, ↓exec_fr, ↓ev_lcB, dict0, eqDs, eqDn, eqDb, kindM, Mt.mut, opMth, opBlt, keyD, intO, ofPO, nox, consO, Tgt.bind, wipeE, Tgt.own, itemsD, dictKs, isVar, freshE, G9.cellOf, G9.newCell, mutW, mutM, setC, locW, Calls.locked, isT, G9.isNon, Cell.toD, at0, at1, at2, at3, cut1, cut01, sz1, sz2, sz3, sz4, t__law_drawn, t__law_sort, hz, hz2, e1, hk, hs, pD]
    · obtain ⟨v', acc', h1, h2⟩ := ih (some (.val (.int k))) acc (by omega) h (hp.sublist (by simp))
      refine ⟨v', acc', ?_, h2⟩
      rw [← h1]
      simp [forLoop, frB, tgtAt, bodyAt, b__law_settling, Tr.n, G9.execs, G9.exec, ev, evB, evL, evP, evW, evK, evO, evC, evI, evIn, rdL, bnd, G9.ret, opt, stuck, rd, vl, vp, nr1, nr2, nr3, nr4, nr5, nr6, nr7, nr8, nr9, tupV, plArg, tst, val?, bool?, get1, conD, flPO, flW, runB, runI, Def.env, Def.envW, opIdx, opBin, opCmp, ↓exec_fr, ↓ev_lcB, dict0, eqDs, eqDn, eqDb, kindM, Mt.mut, opMth, opBlt, keyD, intO, ofPO, nox, consO, Tgt.bind, wipeE, Tgt.own, itemsD, dictKs, isVar, freshE, G9.cellOf, G9.newCell, mutW, mutM, setC, locW, Calls.locked, isT, G9.isNon, Cell.toD, at0, at1, at2, at3, cut1, cut01, sz1, sz2, sz3, sz4, t__law_drawn, t__law_sort, hz, hk]
def goodS (ps : List (Int × Tr)) : Prop := (∀ q ∈ ps, q.2.ok ∧ q.2.h ≤ 2) ∧ (ps.map (·.1)).Pairwise (· < ·) ∧ ps.length ≤ 5
theorem settling_ok2 (x : Int) (n : Nat) (hn : 7 ≤ n) : ∃ ps : List (Int × Tr), callP T TI gl n "_law_settling" [.int x, .int 2] = .ok (.ptp (ps.map pD)) ∧ goodS ps := by
  obtain ⟨m, rfl⟩ : ∃ m, n = m + 1 := ⟨n - 1, by omega⟩
  rw [callP_T m _ _ _ t__law_settling]
  obtain ⟨v', acc', h1, h2⟩ := settling_loop2 x m (by omega) (List.range 5) none [] (by simp) (by simp) (by decide)
  refine ⟨acc', ?_, h2⟩
  have hr : rngD 0 5 = (List.range 5).map fun (k : Nat) => D.int k := by simp [rngD]
  simp only [b__law_settling, tgtAt, bodyAt, List.getElem?_cons_succ, List.getElem?_cons_zero, List.map_nil] at h1
  simp [d__law_settling, b__law_settling, Tr.n, G9.execs, G9.exec, ev, evB, evL, evP, evW, evK, evO, evC, evI, evIn, rdL, bnd, G9.ret, opt, stuck, rd, vl, vp, nr1, nr2, nr3, nr4, nr5, nr6, nr7, nr8, nr9, tupV, plArg, tst, val?, bool?, get1, conD, flPO, flW, runB, runI, Def.env, Def.envW, opIdx, opBin, opCmp, ↓exec_fr, ↓ev_lcB, dict0, eqDs, eqDn, eqDb, kindM, Mt.mut, opMth, opBlt, keyD, intO, ofPO, nox, consO, Tgt.bind, wipeE, Tgt.own, itemsD, dictKs, isVar, freshE, G9.cellOf, G9.newCell, mutW, mutM, setC, locW, Calls.locked, isT, G9.isNon, Cell.toD, at0, at1, at2, at3, cut1, cut01, sz1, sz2, sz3, sz4, rngOf, hr, h1]
theorem goodS.nd {ps : List (Int × Tr)} (h : goodS ps) : (ps.map (·.1)).Nodup := h.2.1.imp fun z => Int.ne_of_lt z
theorem goodS.merge {ps : List (Int × Tr)} (h : goodS ps) : mergeD [] (ps.map kD) = ps.map kD := merge_nd ps [] (by simpa using h.nd)
theorem goodS.val {ps : List (Int × Tr)} (h : goodS ps) : ∀ i v, look ps i = some v → v.ok ∧ v.h ≤ 2 := fun i v e => h.1 _ (look_mem e)
/-! ### the pairs of some -/
theorem lcLoop_fil {f : D → R (Option D)} {M : List Cell} {b : Int → Bool} : ∀ {l : List (Int × Tr)}, (∀ p ∈ l, f (pD p) M = .ok (if b p.1 = true then some (pD p) else none) M) → lcLoop f (l.map pD) M = .ok ((l.filter fun p => b p.1).map pD) M
  | [], _ => rfl
  | p :: l, h => by
    simp only [List.map_cons, lcLoop, bnd]
    rw [h p (by simp)]
    simp only
    rw [lcLoop_fil (b := b) fun d' h' => h d' (by simp [h'])]
    cases e : b p.1 <;> simp [e, consO] <;> rfl
theorem pD_n (p : Int × Tr) : nrm (pD p) = pD p := rfl
theorem only_ok (l : List (Int × Tr)) (sm : D) (b : Int → Bool) (n : Nat) (hl : l.length ≤ 1000) (hb : ∀ k, opCmp .In (.int k) (nrm sm) = some (b k)) (hn : 1 ≤ n) : callP T TI gl n "_law_only" [.ptp (l.map pD), sm] = .ok (.ptp ((l.filter fun p => b p.1).map pD)) := by
  obtain ⟨m, rfl⟩ : ∃ m, n = m + 1 := ⟨n - 1, by omega⟩
  rw [callP_T m _ _ _ t__law_only]
  have key : ∀ (C : Calls) (x1 x2 x3 x4 : Str) (p1 p2 p3 p4 p5 p6 p7 : Pos) (kk : Nat), lcLoop (lcBody C (.var 2 x1 p1) (.one 2 x2 p2) (some (.cmp (.idx (.var 2 x3 p3) (.con (.int 0) kk p4) p5) .In (.var 1 x4 p6) p7)) [some (.val (.ptp (l.map pD))), some (.val sm), none]) (l.map pD) [] = .ok ((l.filter fun p => b p.1).map pD) [] := fun C x1 x2 x3 x4 p1 p2 p3 p4 p5 p6 p7 kk => by
    refine lcLoop_fil (b := b) fun p hp => ?_
    have h1 : nrm (pD p) = .tup [.int p.1, p.2.d] := rfl
    cases e : b p.1 <;> simp [lcBody, evC, ev, bnd, G9.ret, opt, stuck, rd, vl, tst, val?, bool?, get1, conD, opIdx, at0, Tgt.bind, wipeE, Tgt.own, nox, h1, hb, e, nr3, nr5, pD]
  have hz := sz l.length hl
  simp [d__law_only, b__law_only, ev, evW, evI, rdL, G9.execs, G9.exec, runB, flPO, bnd, G9.ret, opt, stuck, rd, vl, vp, val?, get1, Def.env, opBlt, plArg, ↓ev_lcB, dictKs, itemsD, nr9, nr6, isVar, hz, key]
/-! ### both settlings -/
def putT (acc : List (Int × Tr)) (k : Int) (v : Tr) : List (Int × Tr) := if (look acc k).isSome = true then acc.map (fun q => if q.1 = k then (q.1, v) else q) else acc ++ [(k, v)]
theorem put_T (acc : List (Int × Tr)) (k : Int) (v : Tr) : putD (acc.map kD) (.inl k) v.d = (putT acc k v).map kD := by
  unfold putT
  split
  · rename_i e
    unfold putD
    rw [any_look, if_pos e, List.map_map, List.map_map]
    apply List.map_congr_left
    intro q _
    simp only [Function.comp, kD, Sum.inl.injEq]
    split <;> rfl
  · rename_i e
    exact put_new (by simpa using e) v
theorem look_putT (acc : List (Int × Tr)) (k i : Int) (v : Tr) : look (putT acc k v) i = if k = i then some v else look acc i := by
  unfold putT
  split
  · rename_i e
    have go1 : ∀ l : List (Int × Tr), look (l.map (fun q => if q.1 = k then (q.1, v) else q)) k = (look l k).map fun _ => v := by
      intro l
      induction l with
      | nil => rfl
      | cons p r ih =>
        by_cases hp : p.1 = k
        · simp [look, hp]
        · simp only [List.map_cons, look, if_neg hp, ih]
    have go2 : k ≠ i → ∀ l : List (Int × Tr), look (l.map (fun q => if q.1 = k then (q.1, v) else q)) i = look l i := by
      intro hki l
      induction l with
      | nil => rfl
      | cons p r ih =>
        by_cases hp : p.1 = k
        · have hi : p.1 ≠ i := fun z => hki (hp ▸ z)
          simp only [List.map_cons, look, if_pos hp, if_neg hi, ih]
        · simp only [List.map_cons, look, if_neg hp, ih]
    by_cases hki : k = i
    · subst hki
      rw [go1, if_pos rfl]
      obtain ⟨w, hw⟩ := Option.isSome_iff_exists.mp e
      rw [hw]; rfl
    · rw [go2 hki, if_neg hki]
  · rename_i e
    by_cases hki : k = i
    · subst hki; rw [look_new (by simpa using e)]; simp
    · rw [look_new_ne _ hki, if_neg hki]
theorem putT_keys {acc : List (Int × Tr)} (k : Int) (v : Tr) (h : (acc.map (·.1)).Nodup) : ((putT acc k v).map (·.1)).Nodup ∧ (putT acc k v).length ≤ acc.length + 1 ∧ ∀ q ∈ putT acc k v, q.2 = v ∨ q ∈ acc := by
  unfold putT
  split
  · refine ⟨?_, by simp, fun q hq => ?_⟩
    · rw [List.map_map]
      have : (acc.map ((fun x : Int × Tr => x.1) ∘ fun q => if q.1 = k then (q.1, v) else q)) = acc.map (·.1) := by
        apply List.map_congr_left
        intro q _
        simp only [Function.comp]
        split <;> rfl
      rw [this]; exact h
    · obtain ⟨q', h1, rfl⟩ := List.mem_map.mp hq
      split
      · exact .inl rfl
      · exact .inr h1
  · rename_i e
    refine ⟨?_, by simp, fun q hq => ?_⟩
    · rw [List.map_append, List.nodup_append]
      refine ⟨h, by simp, fun a ha b hb => ?_⟩
      simp at hb
      subst hb
      exact fun z => look_none (by simpa using e) (z ▸ ha)
    · rcases List.mem_append.mp hq with hq | hq
      · exact .inr hq
      · rw [List.mem_singleton] at hq; subst hq; exact .inl rfl
def bothT (g : Int → Option Tr) (acc P : List (Int × Tr)) : List (Int × Tr) := P.foldl (fun acc p => putT acc p.1 (stT g p.2)) acc
theorem look_both (g : Int → Option Tr) (i : Int) : ∀ (P acc : List (Int × Tr)), (P.map (·.1)).Nodup → look (bothT g acc P) i = match look P i with | some t => some (stT g t) | none => look acc i
  | [], acc, _ => rfl
  | p :: r, acc, h => by
    simp only [List.map_cons, List.nodup_cons] at h
    show look (bothT g (putT acc p.1 (stT g p.2)) r) i = _
    rw [look_both g i r _ h.2, look_putT]
    simp only [look]
    by_cases hi : p.1 = i
    · subst hi
      have : look r p.1 = none := by
        cases e : look r p.1 with
        | none => rfl
        | some v => exact absurd (List.mem_map.mpr ⟨_, look_mem e, rfl⟩) h.1
      rw [this]
      simp
    · rw [if_neg hi, if_neg hi]
theorem both_ok (g : Int → Option Tr) (hg : ∀ i v, g i = some v → v.ok ∧ v.h ≤ 2) : ∀ (P acc : List (Int × Tr)), (∀ q ∈ P, q.2.ok ∧ q.2.h ≤ 2) → (acc.map (·.1)).Nodup → (∀ q ∈ acc, q.2.ok ∧ q.2.h ≤ 4) → ((bothT g acc P).map (·.1)).Nodup ∧ (bothT g acc P).length ≤ acc.length + P.length ∧ ∀ q ∈ bothT g acc P, q.2.ok ∧ q.2.h ≤ 4
  | [], acc, _, n, h => ⟨n, by simp [bothT], h⟩
  | p :: r, acc, hP, n, h => by
    obtain ⟨k1, k2, k3⟩ := putT_keys p.1 (stT g p.2) n
    have hp := hP p (by simp)
    have o1 := stT_ok (fun i v e => (hg i v e).1) p.2 hp.1
    have o2 := stT_h (fun i v e => (hg i v e).2) p.2
    obtain ⟨b1, b2, b3⟩ := both_ok g hg r (putT acc p.1 (stT g p.2)) (fun q hq => hP q (by simp [hq])) k1 (fun q hq => by
      rcases k3 q hq with e | e
      · rw [e]; exact ⟨o1, by have := hp.2; omega⟩
      · exact h q e)
    refine ⟨b1, ?_, b3⟩
    show (bothT g (putT acc p.1 (stT g p.2)) r).length ≤ _
    simp only [List.length_cons]
    omega
theorem look_sp_eq {F : List (Int × Tr)} (i : Int) : look (sp F) i = look F i := by
  cases e : look F i with
  | some v => exact look_sp e
  | none =>
    cases e2 : look (sp F) i with
    | none => rfl
    | some v =>
      have : i ∈ (sp F).map (·.1) := List.mem_map.mpr ⟨_, look_mem e2, rfl⟩
      rw [sp_keys, srt_mem] at this
      exact absurd this (look_none e)
end K13

set_option Elab.async false
set_option linter.all false
set_option maxRecDepth 100000
set_option maxHeartbeats 4000000
namespace K13
open PySem L2 G9
theorem eqD_intsE (xs : List Int) : eqD (.tup (xs.map .int)) (.tup []) = some (decide (xs = [])) := by
  have := ints_refl xs
  cases xs with
  | nil => simp [eqD, eqOk, lay, lays, dep, deps, deq, deqs]
  | cons x r =>
    simp only [List.map_cons] at this
    simp [eqD, eqOk, lay, lays, dep, deps, deq, deqs, this] at this ⊢
theorem rng_ints (n : Nat) : rngD 0 (n : Int) = ((List.range n).map fun (k : Nat) => (k : Int)).map .int := by
  simp [rngD]
theorem ul_len (t : Tr) : (ul t).length ≤ 2 ^ t.h := by
  have h1 := unk_len t
  have h2 : (ul t).length = (dupI (unk t)).length := (srtI_perm _).length_eq
  have h3 : ∀ xs : List Int, (dupI xs).length ≤ xs.length := fun xs => by
    induction xs with
    | nil => simp [dupI]
    | cons x r ih => unfold dupI; split <;> simp <;> omega
  have := h3 (unk t)
  omega
theorem ctd_same {s : Tr} (h : ul s = []) : ctd s = s := by
  have hu : unk s = [] := by
    cases e : unk s with
    | nil => rfl
    | cons x r =>
      have : x ∈ ul s := (mem_ul s x).mpr (by rw [e]; simp)
      rw [h] at this; cases this
  unfold ctd
  have hid : stT (fun _ => none) s = s := st_id (fun i v h => by cases h) s
  refine (st_congr (t := s) fun i hi => ?_).trans hid
  rw [hu] at hi; cases hi
theorem counted_well_ok (s o : Tr) (P : List (Int × Tr)) (n : Nat) (os : s.ok) (hs : s.h ≤ 3) (oo : o.ok) (ho : o.h ≤ 3) (gP : goodS P) (hn : 20 ≤ n) : callP T TI gl n "_law_counted_well" [s.d, o.d, .ptp (P.map pD)] = .ok (.bl true) := by
  obtain ⟨m, rfl⟩ : ∃ m, n = m + 1 := ⟨n - 1, by omega⟩
  rw [callP_T m _ _ _ t__law_counted_well]
  have q1 := settled_ok (ps := P) (acc := P) gP.merge (n := m) os (by omega)
  have q1o := settled_ok (ps := P) (acc := P) gP.merge (n := m) oo (by omega)
  have o2 : (Tr.two "pair" s o).ok := ⟨.inr rfl, os, oo⟩
  have o3 : (Tr.two "way" s o).ok := ⟨.inl rfl, os, oo⟩
  have q1p := settled_ok (ps := P) (acc := P) gP.merge (n := m) o2 (by simp only [Tr.h]; omega)
  have q2 := unknowns_ok s m os (by omega) (by omega)
  have q2o := unknowns_ok o m oo (by omega) (by omega)
  have q2w := unknowns_ok (Tr.two "way" s o) m o3 (by simp only [Tr.h]; omega) (by simp only [Tr.h]; omega)
  obtain ⟨oc, hc⟩ := ctd_ok s os
  have q2c := unknowns_ok (ctd s) m oc (by omega) (by omega)
  have q3 := counted_ok s m os (by omega) (by omega)
  have q3o := counted_ok o m oo (by omega) (by omega)
  have q4 := counted_ok (ctd s) m oc (by omega) (by omega)
  rw [ctd_ctd] at q4
  have q6 := fits_self (backF (cnt [] (unk s))) (ctd s) m oc (by omega) (by rw [back_ok]; exact os) (by rw [back_ok]; omega) (by omega)
  rw [back_ok] at q6
  have q7 := fits_self (look (cnt [] (unk s))) s m os (by omega) oc (by have : (stT (look (cnt [] (unk s))) s).h = (ctd s).h := rfl; omega) (by omega)
  have e7 : stT (look (cnt [] (unk s))) s = ctd s := rfl
  rw [e7] at q7
  have q8 := fits_ok s o m os (by omega) oo (by omega) (by omega)
  have q9 := fits_ok o s m oo (by omega) os (by omega) (by omega)
  have r1 := eqD_T oc (by omega)
  have r2 := eqD_T oo (by omega)
  have us : srtI (dupI (unk s)) = ul s := rfl
  have uo : srtI (dupI (unk o)) = ul o := rfl
  have uc : srtI (dupI (unk (ctd s))) = (List.range (ul s).length).map fun (k : Nat) => (k : Int) := ul_ctd s
  have uw : srtI (dupI (unk (Tr.two "way" s o))) = srtI (dupI (ul s ++ ul o)) := srt_dup_same fun i => by
    simp only [unk, List.mem_append, mem_ul]
  rw [us] at q2
  rw [uo] at q2o
  rw [uc] at q2c
  rw [uw] at q2w
  have l1 := ul_len s
  have l2 := ul_len o
  have z1 : 2 ^ s.h ≤ 2 ^ 3 := Nat.pow_le_pow_right (by omega) hs
  have z2 : 2 ^ o.h ≤ 2 ^ 3 := Nat.pow_le_pow_right (by omega) ho
  have z3 : (ul s).length + (ul o).length ≤ sizeLine := sz _ (by omega)
  have r3 : opTrg (.int ((ul s).length : Int)) = some (.tup (((List.range (ul s).length).map fun (k : Nat) => (k : Int)).map .int)) := by
    simp only [opTrg]
    rw [if_pos ⟨by omega, by omega⟩, rng_ints]
  have r4 := eqD_ints ((List.range (ul s).length).map fun (k : Nat) => (k : Int))
  have r5 := eqD_intsE (ul s)
  have r6 := eqD_ne oc (by omega) os (by omega)
  have oF := stT_ok (fun i v h => (gP.val i v h).1) s os
  have oFo := stT_ok (fun i v h => (gP.val i v h).1) o oo
  have hF := stT_h (fun i v h => (gP.val i v h).2) s
  have hFo := stT_h (fun i v h => (gP.val i v h).2) o
  have r7 := eqD_T (t := Tr.two "pair" (stT (look P) s) (stT (look P) o)) ⟨.inr rfl, oF, oFo⟩ (by simp only [Tr.h]; omega)
  have r8 : opSet (.tup ((ul s).map .int ++ (ul o).map .int)) = some (.lst ((srtI (dupI (ul s ++ ul o))).map .int)) := by
    rw [← List.map_append]
    simp only [opSet, setD, intsD_I, Option.bind_some]
    rw [if_pos (by rw [List.length_append]; omega)]
  have r9 := eqD_ints (srtI (dupI (ul s ++ ul o)))
  simp only [Tr.d, stT] at q1p r7 q2w
  generalize hRL : ((List.range (ul s).length).map fun (k : Nat) => (k : Int)) = RL at q2c r3 r4
  have w2 : ∀ x y z : D, tupV [x, y, z] = .tup [x, y, z] := fun _ _ _ => rfl
  have tail : ∀ (b b2 : Bool), (fitT s o []).1 = b → (fitT o s []).1 = b2 → (b = true → b2 = true → eqD (ctd s).d (ctd o).d = some true) ∧ (b = true → callP T TI gl m "settled" [s.d, .ptp ((sp (fitT s o []).2).map pD)] = .ok o.d) := fun b b2 hb hb2 => by
    have k0 : keysOk [] := ⟨by simp, by simp⟩
    refine ⟨fun e1 e2 => ?_, fun e1 => ?_⟩
    · have f1 := fitT_sound s o [] (look (fitT s o []).2) oo (by omega) k0 (hb.trans e1) (fun i v h => h)
      have f2 := fitT_sound o s [] (look (fitT o s []).2) os (by omega) k0 (hb2.trans e2) (fun i v h => h)
      rw [← ctd_both f1 f2]
      exact r1
    · obtain ⟨k1, _, _⟩ := fitT_keep s o [] oo (by omega) k0
      have nd : ((sp (fitT s o []).2).map (·.1)).Nodup := by rw [sp_keys]; exact (srtI_perm _).nodup_iff.mpr k1.1
      have mg : mergeD [] ((sp (fitT s o []).2).map kD) = (sp (fitT s o []).2).map kD := merge_nd _ [] (by simpa using nd)
      have := settled_ok (ps := sp (fitT s o []).2) (acc := sp (fitT s o []).2) mg (n := m) os (by omega)
      rw [fitT_sound s o [] (look (sp (fitT s o []).2)) oo (by omega) k0 (hb.trans e1) (fun i v h => look_sp h)] at this
      exact this
  simp at q1 q1o q1p q2c q6 q7
  by_cases hu : ul s = []
  · have r5' : eqD (.tup ((ul s).map .int)) (.tup []) = some true := by rw [r5]; simp [hu]
    have r6' : eqD (ctd s).d s.d = some true := by rw [ctd_same hu]; exact eqD_T os (by omega)
    cases hb : (fitT s o []).1 with
    | false =>
      rw [hb] at q8
      simp at q8
      simp [d__law_counted_well, b__law_counted_well, Tr.n, G9.execs, G9.exec, ev, evB, evL, evP, evW, evK, evO, evC, evI, evIn, rdL, bnd, G9.ret, opt, stuck, rd, vl, vp, nr1, nr2, nr3, nr4, nr5, nr6, nr7, nr8, nr9, tupV, plArg, tst, val?, bool?, get1, conD, flPO, flW, runB, runI, Def.env, Def.envW, opIdx, opBin, opCmp, ↓exec_fr, ↓ev_lcB, dict0, eqDs, eqDn, eqDb, kindM, Mt.mut, opMth, opBlt, keyD, intO, ofPO, nox, consO, Tgt.bind, wipeE, Tgt.own, itemsD, dictKs, isVar, freshE, G9.cellOf, G9.newCell, mutW, mutM, setC, locW, Calls.locked, isT, G9.isNon, Cell.toD, at0, at1, at2, at3, cut1, cut01, sz1, sz2, sz3, sz4, t_settled, t_unknowns, t_counted, t_fits, q1, q1o, q1p, q2, q2o, q2w, q2c, q3, q3o, q4, q6, q7, q8, q9, r1, r2, r3, r4, r5', r6', r7, r8, r9, z3, eqD_non]
    | true =>
      rw [hb] at q8
      simp at q8
      cases hb2 : (fitT o s []).1 with
      | false =>
        rw [hb2] at q9
        simp at q9
        have t2 := (tail true false hb hb2).2 rfl
        try simp at t2
        simp [d__law_counted_well, b__law_counted_well, Tr.n, G9.execs, G9.exec, ev, evB, evL, evP, evW, evK, evO, evC, evI, evIn, rdL, bnd, G9.ret, opt, stuck, rd, vl, vp, nr1, nr2, nr3, nr4, nr5, nr6, nr7, nr8, nr9, tupV, plArg, tst, val?, bool?, get1, conD, flPO, flW, runB, runI, Def.env, Def.envW, opIdx, opBin, opCmp, ↓exec_fr, ↓ev_lcB, dict0, eqDs, eqDn, eqDb, kindM, Mt.mut, opMth, opBlt, keyD, intO, ofPO, nox, consO, Tgt.bind, wipeE, Tgt.own, itemsD, dictKs, isVar, freshE, G9.cellOf, G9.newCell, mutW, mutM, setC, locW, Calls.locked, isT, G9.isNon, Cell.toD, at0, at1, at2, at3, cut1, cut01, sz1, sz2, sz3, sz4, t_settled, t_unknowns, t_counted, t_fits, q1, q1o, q1p, q2, q2o, q2w, q2c, q3, q3o, q4, q6, q7, q8, q9, r1, r2, r3, r4, r5', r6', r7, r8, r9, z3, eqD_non, t2]
      | true =>
        rw [hb2] at q9
        simp at q9
        have t2 := (tail true true hb hb2).2 rfl
        have t1 := (tail true true hb hb2).1 rfl rfl
        try simp at t2
        simp [d__law_counted_well, b__law_counted_well, Tr.n, G9.execs, G9.exec, ev, evB, evL, evP, evW, evK, evO, evC, evI, evIn, rdL, bnd, G9.ret, opt, stuck, rd, vl, vp, nr1, nr2, nr3, nr4, nr5, nr6, nr7, nr8, nr9, tupV, plArg, tst, val?, bool?, get1, conD, flPO, flW, runB, runI, Def.env, Def.envW, opIdx, opBin, opCmp, ↓exec_fr, ↓ev_lcB, dict0, eqDs, eqDn, eqDb, kindM, Mt.mut, opMth, opBlt, keyD, intO, ofPO, nox, consO, Tgt.bind, wipeE, Tgt.own, itemsD, dictKs, isVar, freshE, G9.cellOf, G9.newCell, mutW, mutM, setC, locW, Calls.locked, isT, G9.isNon, Cell.toD, at0, at1, at2, at3, cut1, cut01, sz1, sz2, sz3, sz4, t_settled, t_unknowns, t_counted, t_fits, q1, q1o, q1p, q2, q2o, q2w, q2c, q3, q3o, q4, q6, q7, q8, q9, r1, r2, r3, r4, r5', r6', r7, r8, r9, z3, eqD_non, t2, t1]
  · have r5' : eqD (.tup ((ul s).map .int)) (.tup []) = some false := by rw [r5]; simp [hu]
    obtain ⟨dq, r6'⟩ : ∃ dq, eqD (ctd s).d s.d = some dq := ⟨_, r6⟩
    cases dq
    all_goals
      cases hb : (fitT s o []).1 with
      | false =>
        rw [hb] at q8
        simp at q8
        simp [d__law_counted_well, b__law_counted_well, Tr.n, G9.execs, G9.exec, ev, evB, evL, evP, evW, evK, evO, evC, evI, evIn, rdL, bnd, G9.ret, opt, stuck, rd, vl, vp, nr1, nr2, nr3, nr4, nr5, nr6, nr7, nr8, nr9, tupV, plArg, tst, val?, bool?, get1, conD, flPO, flW, runB, runI, Def.env, Def.envW, opIdx, opBin, opCmp, ↓exec_fr, ↓ev_lcB, dict0, eqDs, eqDn, eqDb, kindM, Mt.mut, opMth, opBlt, keyD, intO, ofPO, nox, consO, Tgt.bind, wipeE, Tgt.own, itemsD, dictKs, isVar, freshE, G9.cellOf, G9.newCell, mutW, mutM, setC, locW, Calls.locked, isT, G9.isNon, Cell.toD, at0, at1, at2, at3, cut1, cut01, sz1, sz2, sz3, sz4, t_settled, t_unknowns, t_counted, t_fits, q1, q1o, q1p, q2, q2o, q2w, q2c, q3, q3o, q4, q6, q7, q8, q9, r1, r2, r3, r4, r5', r6', r7, r8, r9, z3, eqD_non]
      | true =>
        rw [hb] at q8
        simp at q8
        cases hb2 : (fitT o s []).1 with
        | false =>
          rw [hb2] at q9
          simp at q9
          have t2 := (tail true false hb hb2).2 rfl
          try simp at t2
          simp [d__law_counted_well, b__law_counted_well, Tr.n, G9.execs, G9.exec, ev, evB, evL, evP, evW, evK, evO, evC, evI, evIn, rdL, bnd, G9.ret, opt, stuck, rd, vl, vp, nr1, nr2, nr3, nr4, nr5, nr6, nr7, nr8, nr9, tupV, plArg, tst, val?, bool?, get1, conD, flPO, flW, runB, runI, Def.env, Def.envW, opIdx, opBin, opCmp, ↓exec_fr, ↓ev_lcB, dict0, eqDs, eqDn, eqDb, kindM, Mt.mut, opMth, opBlt, keyD, intO, ofPO, nox, consO, Tgt.bind, wipeE, Tgt.own, itemsD, dictKs, isVar, freshE, G9.cellOf, G9.newCell, mutW, mutM, setC, locW, Calls.locked, isT, G9.isNon, Cell.toD, at0, at1, at2, at3, cut1, cut01, sz1, sz2, sz3, sz4, t_settled, t_unknowns, t_counted, t_fits, q1, q1o, q1p, q2, q2o, q2w, q2c, q3, q3o, q4, q6, q7, q8, q9, r1, r2, r3, r4, r5', r6', r7, r8, r9, z3, eqD_non, t2]
        | true =>
          rw [hb2] at q9
          simp at q9
          have t2 := (tail true true hb hb2).2 rfl
          have t1 := (tail true true hb hb2).1 rfl rfl
          try simp at t2
          simp [d__law_counted_well, b__law_counted_well, Tr.n, G9.execs, G9.exec, ev, evB, evL, evP, evW, evK, evO, evC, evI, evIn, rdL, bnd, G9.ret, opt, stuck, rd, vl, vp, nr1, nr2, nr3, nr4, nr5, nr6, nr7, nr8, nr9, tupV, plArg, tst, val?, bool?, get1, conD, flPO, flW, runB, runI, Def.env, Def.envW, opIdx, opBin, opCmp, ↓exec_fr, ↓ev_lcB, dict0, eqDs, eqDn, eqDb, kindM, Mt.mut, opMth, opBlt, keyD, intO, ofPO, nox, consO, Tgt.bind, wipeE, Tgt.own, itemsD, dictKs, isVar, freshE, G9.cellOf, G9.newCell, mutW, mutM, setC, locW, Calls.locked, isT, G9.isNon, Cell.toD, at0, at1, at2, at3, cut1, cut01, sz1, sz2, sz3, sz4, t_settled, t_unknowns, t_counted, t_fits, q1, q1o, q1p, q2, q2o, q2w, q2c, q3, q3o, q4, q6, q7, q8, q9, r1, r2, r3, r4, r5', r6', r7, r8, r9, z3, eqD_non, t2, t1]
  
end K13

set_option Elab.async false
set_option linter.all false
set_option maxRecDepth 100000
set_option maxHeartbeats 4000000
namespace G9
open PySem L2 G9
theorem execs_app (C : Calls) : ∀ (a b : List S) (s : En), G9.execs C (a ++ b) s = bnd (G9.execs C a s) fun f => match f with
    | .nx s' => G9.execs C b s'
    | f => G9.ret f
  | [], b, s => by simp only [List.nil_append, G9.execs]; rfl
  | st :: a, b, s => by
    simp only [List.cons_append, G9.execs, bnd_assoc]
    congr 1
    funext f
    cases f with
    | nx s' => simp only; exact execs_app C a b s'
    | _ => rfl
theorem execs_seq {C : Calls} {a b : List S} {s s' : En} {M M' : List Cell} (h : G9.execs C a s M = .ok (.nx s') M') : G9.execs C (a ++ b) s M = G9.execs C b s' M' := by
  rw [execs_app]
  unfold bnd
  rw [h]
end G9
namespace K13
open PySem L2 G9
abbrev C59 : Calls := ⟨callP T TI gl 59, false, gl, fun f => (T f).isSome, callI T TI gl 59, fun f => (TI f).isSome⟩
theorem segA (ns : List Int) : ∃ (s o : Tr) (P Q : List (Int × Tr)), s.ok ∧ s.h ≤ 3 ∧ o.ok ∧ o.h ≤ 3 ∧ goodS P ∧ goodS Q ∧ G9.execs C59 (b_law.take 4) [some (.val (.scr ns)), none, none, none, none, none, none, none, none, none, none, none, none] [] =
    .ok (.nx [some (.val (.scr ns)), some (.val s.d), some (.val o.d), some (.val (.ptp (P.map pD))), some (.val (.ptp (Q.map pD))), some (.val (stT (look P) s).d), some (.loc 0), none, none, none, none, none, none]) [.dict (dkOf Q) (dvOf Q)] := by
  obtain ⟨x0, m0⟩ := mixed_ok ns 0 59 (by omega)
  obtain ⟨x1, m1⟩ := mixed_ok ns 1 59 (by omega)
  obtain ⟨x2, m2⟩ := mixed_ok ns 2 59 (by omega)
  obtain ⟨x3, m3⟩ := mixed_ok ns 3 59 (by omega)
  obtain ⟨s, e1, o1, g1⟩ := sort_ok 2 3 x0 59 (by omega)
  obtain ⟨o, e2, o2, g2⟩ := sort_ok 2 3 x1 59 (by omega)
  obtain ⟨P, e3, gP⟩ := settling_ok2 x2 59 (by omega)
  obtain ⟨Q, e4, gQ⟩ := settling_ok2 x3 59 (by omega)
  have q1 := settled_ok (ps := P) (acc := P) gP.merge (n := 59) o1 (by omega)
  have pk := pairs_ok Q
  have hd : dictD (mergeD [] (Q.map kD)) = .dict (dkOf Q) (dvOf Q) := by rw [gQ.merge]; rfl
  refine ⟨s, o, P, Q, o1, g1, o2, g2, gP, gQ, ?_⟩
  simp at m0 m1 m2 m3 e1 e2 q1
  simp [C59, b_law, Tr.n, G9.execs, G9.exec, ev, evB, evL, evP, evW, evK, evO, evC, evI, evIn, rdL, bnd, G9.ret, opt, stuck, rd, vl, vp, nr1, nr2, nr3, nr4, nr5, nr6, nr7, nr8, nr9, tupV, plArg, tst, val?, bool?, get1, conD, flPO, flW, runB, runI, Def.env, Def.envW, opIdx, opBin, opCmp, ↓exec_fr, ↓ev_lcB, dict0, eqDs, eqDn, eqDb, kindM, Mt.mut, opMth, opBlt, keyD, intO, ofPO, nox, consO, Tgt.bind, wipeE, Tgt.own, itemsD, dictKs, isVar, freshE, G9.cellOf, G9.newCell, mutW, mutM, setC, locW, Calls.locked, isT, G9.isNon, Cell.toD, at0, at1, at2, at3, cut1, cut01, sz1, sz2, sz3, sz4, m0, m1, m2, m3, e1, e2, e3, e4, q1, pk, hd, t__law_mixed, t__law_sort, t__law_settling, t_settled]
theorem segB (Q : List (Int × Tr)) (gQ : goodS Q) (a b c d e : Option Wv) (w1 w2 w3 w4 : Option Wv) : ∀ (P acc : List (Int × Tr)) (k v : Option Wv), (∀ q ∈ P, q.2.ok ∧ q.2.h ≤ 2) → acc.length + P.length ≤ 100 →
    ∃ k' v', forLoop (frB C59 (tgtAt b_law 4) (bodyAt b_law 4)) (P.map pD) [a, b, c, d, some (.val (.ptp (Q.map pD))), e, some (.loc 0), k, v, w1, w2, w3, w4] [.dict (dkOf acc) (dvOf acc)] =
      .ok (.nx [a, b, c, d, some (.val (.ptp (Q.map pD))), e, some (.loc 0), k', v', w1, w2, w3, w4]) [.dict (dkOf (bothT (look Q) acc P)) (dvOf (bothT (look Q) acc P))] := by
  intro P
  induction P with
  | nil => intro acc k v _ _; exact ⟨k, v, rfl⟩
  | cons p r ih =>
    intro acc k v h hl
    simp only [List.length_cons] at hl
    have hp := h p (by simp)
    have q1 := settled_ok (ps := Q) (acc := Q) gQ.merge (n := 59) hp.1 (by have := hp.2; omega)
    have hlen : (putT acc p.1 (stT (look Q) p.2)).length ≤ acc.length + 1 := by unfold putT; split <;> simp
    obtain ⟨k', v', h1⟩ := ih (putT acc p.1 (stT (look Q) p.2)) (some (.val (.int p.1))) (some (.val p.2.d)) (fun q hq => h q (by simp [hq])) (by omega)
    refine ⟨k', v', ?_⟩
    show _ = Out.ok _ [.dict (dkOf (bothT (look Q) (putT acc p.1 (stT (look Q) p.2)) r)) (dvOf (bothT (look Q) (putT acc p.1 (stT (look Q) p.2)) r))]
    rw [← h1]
    have hs : acc.length < sizeLine := by have := sz (acc.length + 1) (by omega); omega
    have e2 : putD ((dkOf acc).zip (dvOf acc)) (.inl p.1) (stT (look Q) p.2).d = (putT acc p.1 (stT (look Q) p.2)).map kD := by rw [zip_of]; exact put_T _ _ _
    try simp at q1
    simp [C59, forLoop, frB, tgtAt, bodyAt, b_law, pD, Tr.n, G9.execs, G9.exec, ev, evB, evL, evP, evW, evK, evO, evC, evI, evIn, rdL, bnd, G9.ret, opt, stuck, rd, vl, vp, nr1, nr2, nr3, nr4, nr5, nr6, nr7, nr8, nr9, tupV, plArg, tst, val?, bool?, get1, conD, flPO, flW, runB, runI, Def.env, Def.envW, opIdx, opBin, opCmp, ↓exec_fr, ↓ev_lcB, dict0, eqDs, eqDn, eqDb, kindM, Mt.mut, opMth, opBlt, keyD, intO, ofPO, nox, consO, Tgt.bind, wipeE, Tgt.own, itemsD, dictKs, isVar, freshE, G9.cellOf, G9.newCell, mutW, mutM, setC, locW, Calls.locked, isT, G9.isNon, Cell.toD, at0, at1, at2, at3, cut1, cut01, sz1, sz2, sz3, sz4, q1, t_settled, dk_len, hs, e2]
    simp [dkOf, dvOf]
theorem lcA (C : Calls) (x1 x2 x3 x4 : Str) (p1 p2 p3 p4 p5 p6 : Pos) (kk : Nat) (a b c d e f g h i j k l : Option Wv) (F : List (Int × Tr)) :
    lcLoop (lcBody C (.tup [.var 7 x1 p1, .idx (.var 6 x2 p2) (.var 7 x3 p3) p4] kk p5) (.one 7 x4 p6) none [a, b, c, d, e, f, some (.loc 0), g, h, i, j, k, l]) ((srtI (F.map (·.1))).map D.int) [.dict (dkOf F) (dvOf F)] = .ok ((sp F).map pD) [.dict (dkOf F) (dvOf F)] := by
  unfold sp
  rw [List.map_map]
  refine lcLoop_map fun k hk => ?_
  obtain ⟨v', hv⟩ := look_some ((srt_mem F k).mp hk)
  simp [lcBody, Tr.n, G9.execs, G9.exec, ev, evB, evL, evP, evW, evK, evO, evC, evI, evIn, rdL, bnd, G9.ret, opt, stuck, rd, vl, vp, nr1, nr2, nr3, nr4, nr5, nr6, nr7, nr8, nr9, tupV, plArg, tst, val?, bool?, get1, conD, flPO, flW, runB, runI, Def.env, Def.envW, opIdx, opBin, opCmp, eqD, kindM, Mt.mut, opMth, opBlt, keyD, intO, ofPO, nox, lcLoop, consO, Tgt.bind, wipeE, Tgt.own, itemsD, dictKs, isVar, freshE, G9.cellOf, G9.newCell, mutW, mutM, setC, locW, forLoop, Calls.locked, isT, G9.isNon, Cell.toD, at0, at1, at2, at3, cut1, cut01, sz1, sz2, sz3, sz4, getK_of, hv, pD, fv]
theorem lcB (C : Calls) (x1 x2 x3 : Str) (p1 p2 p3 p4 p5 p6 : Pos) (kk k2 k3 : Nat) (a b c d e f f2 g h i j k l : Option Wv) (M : List Cell) (xs : List Int) :
    lcLoop (lcBody C (.tup [.var 7 x1 p1, .tup [.con (.str "unknown") k2 p2, .var 7 x2 p3] k3 p4] kk p5) (.one 7 x3 p6) none [a, b, c, d, e, f, f2, g, h, i, j, k, l]) (xs.map D.int) M = .ok ((xs.map fun k => (k, Tr.unk k)).map pD) M := by
  rw [List.map_map]
  refine lcLoop_map fun k hk => ?_
  simp [lcBody, Tr.n, G9.execs, G9.exec, ev, evB, evL, evP, evW, evK, evO, evC, evI, evIn, rdL, bnd, G9.ret, opt, stuck, rd, vl, vp, nr1, nr2, nr3, nr4, nr5, nr6, nr7, nr8, nr9, tupV, plArg, tst, val?, bool?, get1, conD, flPO, flW, runB, runI, Def.env, Def.envW, opIdx, opBin, opCmp, eqD, kindM, Mt.mut, opMth, opBlt, keyD, intO, ofPO, nox, lcLoop, consO, Tgt.bind, wipeE, Tgt.own, itemsD, dictKs, isVar, freshE, G9.cellOf, G9.newCell, mutW, mutM, setC, locW, forLoop, Calls.locked, isT, G9.isNon, Cell.toD, at0, at1, at2, at3, cut1, cut01, sz1, sz2, sz3, sz4, pD, Tr.d]
theorem lcC (C : Calls) (x1 x2 x3 : Str) (p1 p2 p3 p4 : Pos) (kk : Nat) (a b c d e f f2 g h i j k l : Option Wv) (M : List Cell) : ∀ (xs : List (Int × Tr)),
    lcLoop (lcBody C (.var 7 x1 p1) (.two 7 x2 p2 8 x3 p3 kk p4) none [a, b, c, d, e, f, f2, g, h, i, j, k, l]) (xs.map pD) M = .ok ((xs.map (·.1)).map D.int) M
  | [] => rfl
  | x :: r => by
    have ih := lcC C x1 x2 x3 p1 p2 p3 p4 kk a b c d e f f2 g h i j k l M r
    have h1 : lcBody C (.var 7 x1 p1) (.two 7 x2 p2 8 x3 p3 kk p4) none [a, b, c, d, e, f, f2, g, h, i, j, k, l] (pD x) M = .ok (some (.int x.1)) M := by
      simp [lcBody, Tr.n, G9.execs, G9.exec, ev, evB, evL, evP, evW, evK, evO, evC, evI, evIn, rdL, bnd, G9.ret, opt, stuck, rd, vl, vp, nr1, nr2, nr3, nr4, nr5, nr6, nr7, nr8, nr9, tupV, plArg, tst, val?, bool?, get1, conD, flPO, flW, runB, runI, Def.env, Def.envW, opIdx, opBin, opCmp, eqD, kindM, Mt.mut, opMth, opBlt, keyD, intO, ofPO, nox, lcLoop, consO, Tgt.bind, wipeE, Tgt.own, itemsD, dictKs, isVar, freshE, G9.cellOf, G9.newCell, mutW, mutM, setC, locW, forLoop, Calls.locked, isT, G9.isNon, Cell.toD, at0, at1, at2, at3, cut1, cut01, sz1, sz2, sz3, sz4, pD]
    simp only [List.map_cons, lcLoop, bnd]
    rw [h1]
    simp only
    rw [ih]
    rfl
theorem eqD_lints (xs : List Int) : eqD (.lst (xs.map .int)) (.lst (xs.map .int)) = some true := by
  have := ints_refl xs
  simp [eqD, eqOk, lay, dep, deq, this]
theorem pairs_ext : ∀ (a b : List (Int × Tr)), (a.map (·.1)).Pairwise (· < ·) → (b.map (·.1)).Pairwise (· < ·) → (∀ x, x ∈ a ↔ x ∈ b) → a = b
  | [], [], _, _, _ => rfl
  | [], y :: b, _, _, h => absurd ((h y).mpr (by simp)) (by simp)
  | x :: a, [], _, _, h => absurd ((h x).mp (by simp)) (by simp)
  | x :: a, y :: b, ha, hb, h => by
    simp only [List.map_cons, List.pairwise_cons] at ha hb
    have hx : x = y := by
      rcases List.mem_cons.mp ((h x).mp (by simp)) with e | e
      · exact e
      · rcases List.mem_cons.mp ((h y).mpr (by simp)) with e2 | e2
        · exact e2.symm
        · have l1 := hb.1 x.1 (List.mem_map.mpr ⟨x, e, rfl⟩)
          have l2 := ha.1 y.1 (List.mem_map.mpr ⟨y, e2, rfl⟩)
          omega
    subst hx
    have na : ∀ z ∈ a, z ≠ x := fun z hz e => by
      have := ha.1 z.1 (List.mem_map.mpr ⟨z, hz, rfl⟩)
      rw [e] at this; omega
    have nb : ∀ z ∈ b, z ≠ x := fun z hz e => by
      have := hb.1 z.1 (List.mem_map.mpr ⟨z, hz, rfl⟩)
      rw [e] at this; omega
    rw [pairs_ext a b ha.2 hb.2 fun z => ?_]
    constructor
    · intro hz
      rcases List.mem_cons.mp ((h z).mp (by simp [hz])) with e | e
      · exact absurd e (na z hz)
      · exact e
    · intro hz
      rcases List.mem_cons.mp ((h z).mpr (by simp [hz])) with e | e
      · exact absurd e (nb z hz)
      · exact e
theorem ul_lt (s : Tr) : (ul s).Pairwise (· < ·) := by
  have h1 : (ul s).Pairwise (· ≤ ·) := srtI_sorted _
  have h2 : (ul s).Nodup := (srtI_perm _).nodup_iff.mpr (dupI_nodup _)
  exact (List.Pairwise.and h1 h2).imp fun ⟨a, b⟩ => by omega
end K13

set_option Elab.async false
set_option linter.all false
set_option maxRecDepth 100000
set_option maxHeartbeats 4000000
namespace K13
open PySem L2 G9
theorem fs_comp (f g : Int → Option Tr) (i : Int) : fs (comp f g) i = stT g (fs f i) := by
  unfold fs comp
  cases f i with
  | none => rfl
  | some u => rfl
theorem look_ul (f : Int → Option Tr) (s : Tr) : stT (look ((ul s).map fun k => (k, fs f k))) s = stT f s := by
  refine st_congr fun i hi => ?_
  have : fs (look ((ul s).map fun k => (k, fs f k))) i = fs f i := by
    unfold fs
    rw [show look ((ul s).map fun k => (k, (f k).getD (.unk k))) i = some ((f i).getD (.unk i)) from look_map (fun k => (f k).getD (.unk k)) i (ul s) ((mem_ul s i).mpr hi)]
    rfl
  exact this
theorem ul_keys (f : Int → Tr) (s : Tr) : ((ul s).map fun k => (k, f k)).map (·.1) = ul s := by
  rw [List.map_map]
  exact List.map_id'' (fun _ => rfl) _
theorem ul_merge (f : Int → Tr) (s : Tr) : mergeD [] (((ul s).map fun k => (k, f k)).map kD) = ((ul s).map fun k => (k, f k)).map kD := by
  refine merge_nd _ [] ?_
  rw [List.nil_append, ul_keys]
  exact (srtI_perm _).nodup_iff.mpr (dupI_nodup _)
theorem segC (s : Tr) (P Q : List (Int × Tr)) (os : s.ok) (hs : s.h ≤ 3) (gP : goodS P) (gQ : goodS Q) (a c k v : Option Wv) :
    G9.execs C59 ((b_law.drop 5).take 9) [a, some (.val s.d), c, some (.val (.ptp (P.map pD))), some (.val (.ptp (Q.map pD))), some (.val (stT (look P) s).d), some (.loc 0), k, v, none, none, none, none] [.dict (dkOf (bothT (look Q) Q P)) (dvOf (bothT (look Q) Q P))] =
    .ok (.nx [a, some (.val s.d), c, some (.val (.ptp (P.map pD))), some (.val (.ptp (Q.map pD))), some (.val (stT (look P) s).d), some (.loc 0), k, v, some (.val (.ptp ((sp (bothT (look Q) Q P)).map pD))), some (.val (.ptp ((ul s).map .int))), some (.val (.ptp (((ul s).map fun k => (k, fs (look P) k)).map pD))), some (.val (.ptp (((ul s).map fun k => (k, fs (comp (look P) (look Q)) k)).map pD)))]) [.dict (dkOf (bothT (look Q) Q P)) (dvOf (bothT (look Q) Q P))] := by
  have oF := stT_ok (fun i v h => (gP.val i v h).1) s os
  have hF := stT_h (fun i v h => (gP.val i v h).2) s
  have oG := stT_ok (fun i v h => (gQ.val i v h).1) _ oF
  have hG := stT_h (fun i v h => (gQ.val i v h).2) (stT (look P) s)
  obtain ⟨b1, b2, b3⟩ := both_ok (look Q) gQ.val P Q gP.1 gQ.nd (fun q hq => ⟨(gQ.1 q hq).1, by have := (gQ.1 q hq).2; omega⟩)
  have lP := gP.2.2
  have lQ := gQ.2.2
  have l1 := ul_len s
  have z1 : 2 ^ s.h ≤ 2 ^ 3 := Nat.pow_le_pow_right (by omega) hs
  have e1 := srt_keys (bothT (look Q) Q P) (by omega)
  have e2 : (srtI ((bothT (look Q) Q P).map (·.1))).length ≤ sizeLine := by rw [sp_len]; exact sz _ (by omega)
  have e3 : (ul s).length ≤ sizeLine := sz _ (by omega)
  have mB : mergeD [] ((sp (bothT (look Q) Q P)).map kD) = (sp (bothT (look Q) Q P)).map kD := by
    refine merge_nd _ [] ?_
    rw [List.nil_append, sp_keys]
    exact (srtI_perm _).nodup_iff.mpr b1
  have c1 := settled_ok (ps := Q) (acc := Q) gQ.merge (n := 59) oF (by omega)
  have c2 := settled_ok (ps := sp (bothT (look Q) Q P)) (acc := sp (bothT (look Q) Q P)) mB (n := 59) os (by omega)
  have hB : stT (look (sp (bothT (look Q) Q P))) s = stT (look Q) (stT (look P) s) := by
    rw [st_comp]
    refine st_congr fun i _ => ?_
    have : look (sp (bothT (look Q) Q P)) i = comp (look P) (look Q) i := by
      rw [look_sp_eq, look_both _ _ _ _ gP.nd]
      rfl
    unfold fs
    rw [this]
  rw [hB] at c2
  have c3 := settled_ok (ps := []) (acc := []) rfl (n := 59) os (by omega)
  rw [st_none] at c3
  simp only [List.map_nil] at c3
  have c4 := unknowns_ok s 59 os (by omega) (by omega)
  have us : srtI (dupI (unk s)) = ul s := rfl
  rw [us] at c4
  have ui : srtI (dupI (ul s)) = ul s := srt_dup_same (a := ul s) (b := unk s) (fun i => mem_ul s i)
  have c5 : opSet (.tup ((ul s).map .int)) = some (.lst ((ul s).map .int)) := by
    simp only [opSet, setD, intsD_I, Option.bind_some]
    rw [if_pos (by omega), ui]
  have hid : stT (fun _ => none) s = s := st_id (fun i v h => by cases h) s
  have c6 := fits_self (fun _ => none) s 59 os (by omega) (by rw [hid]; exact os) (by rw [hid]; omega) (by omega)
  rw [hid] at c6
  have fn : (fun k => (k, fs (fun _ => none) k)) = fun k => (k, Tr.unk k) := rfl
  rw [fn] at c6
  have c7 := fits_self (look P) s 59 os (by omega) oF (by omega) (by omega)
  have c8 := settled_ok (ps := (ul s).map fun k => (k, fs (look P) k)) (acc := (ul s).map fun k => (k, fs (look P) k)) (ul_merge _ s) (n := 59) os (by omega)
  rw [look_ul] at c8
  have oC : (stT (comp (look P) (look Q)) s).ok := by rw [← st_comp]; exact oG
  have hC : (stT (comp (look P) (look Q)) s).h ≤ 50 := by rw [← st_comp]; omega
  have c9 := fits_self (comp (look P) (look Q)) s 59 os (by omega) oC hC (by omega)
  rw [← st_comp] at c9
  have c10 := settled_ok (ps := (ul s).map fun k => (k, fs (comp (look P) (look Q)) k)) (acc := (ul s).map fun k => (k, fs (comp (look P) (look Q)) k)) (ul_merge _ s) (n := 59) os (by omega)
  rw [look_ul, ← st_comp] at c10
  have r1 := eqD_T os (by omega)
  have r2 := eqD_T oF (by omega)
  have r3 := eqD_T oG (by omega)
  have r4 := eqD_lints (ul s)
  have r5 : eqD (.tup (((ul s).map fun k => (k, Tr.unk k)).map pD)) (.tup (((ul s).map fun k => (k, Tr.unk k)).map pD)) = some true := eqD_pd fun q hq => by
    obtain ⟨i, _, rfl⟩ := List.mem_map.mp hq
    exact ⟨trivial, by simp [Tr.h]⟩
  have pkP := pairs_ok P
  have hdP : dictD (mergeD [] (P.map kD)) = .dict (dkOf P) (dvOf P) := by rw [gP.merge]; rfl
  have l2 : ((ul s).map fun k => (k, fs (look P) k)).length ≤ 1000 := by rw [List.length_map]; omega
  have d1 := only_ok ((ul s).map fun k => (k, fs (look P) k)) (.dict (dkOf P) (dvOf P)) (fun k => (look P k).isSome) 59 l2 (fun k => by simp [nr7, opCmp, keyD, getK_of]) (by omega)
  have d2 := only_ok P (.ptp ((ul s).map .int)) (fun k => (ul s).any fun z => z == k) 59 (by omega) (fun k => by
    have hf : ((ul s).map D.int).all flatD = true := by simp [flatD]
    simp only [nr9, opCmp, inD, flatD, hf, Bool.true_and, Bool.true_or, if_true, List.any_map]
    rfl) (by omega)
  have hfil : (((ul s).map fun k => (k, fs (look P) k)).filter fun p => (look P p.1).isSome) = P.filter fun p => (ul s).any fun z => z == p.1 := by
    refine pairs_ext _ _ ?_ ?_ fun x => ?_
    · refine List.Pairwise.sublist (List.Sublist.map _ List.filter_sublist) ?_
      rw [ul_keys]; exact ul_lt s
    · exact List.Pairwise.sublist (List.Sublist.map _ List.filter_sublist) gP.2.1
    · simp only [List.mem_filter, List.mem_map, List.any_eq_true, beq_iff_eq]
      constructor
      · rintro ⟨⟨i, hi, rfl⟩, h2⟩
        obtain ⟨w, hw⟩ := Option.isSome_iff_exists.mp h2
        simp only at hw
        refine ⟨?_, i, hi, rfl⟩
        have : fs (look P) i = w := by unfold fs; rw [hw]; rfl
        rw [this]
        exact look_mem hw
      · rintro ⟨hx, i, hi, rfl⟩
        have hk : (look P x.1).isSome = true := mem_keys.mp (List.mem_map.mpr ⟨x, hx, rfl⟩)
        refine ⟨⟨x.1, hi, ?_⟩, hk⟩
        obtain ⟨w, hw⟩ := Option.isSome_iff_exists.mp hk
        have h1 := look_mem hw
        have un : ∀ {l : List (Int × Tr)}, (l.map (·.1)).Nodup → ∀ {a b : Int × Tr}, a ∈ l → b ∈ l → a.1 = b.1 → a = b := by
          intro l
          induction l with
          | nil => intro _ a b ha; cases ha
          | cons p r ih =>
            intro nd a b ha hb e
            simp only [List.map_cons, List.nodup_cons] at nd
            rcases List.mem_cons.mp ha with ha1 | ha1 <;> rcases List.mem_cons.mp hb with hb1 | hb1
            · rw [ha1, hb1]
            · exact absurd (show p.1 ∈ r.map (·.1) from List.mem_map.mpr ⟨b, hb1, by rw [← ha1]; exact e.symm⟩) nd.1
            · exact absurd (show p.1 ∈ r.map (·.1) from List.mem_map.mpr ⟨a, ha1, by rw [← hb1]; exact e⟩) nd.1
            · exact ih nd.2 ha1 hb1 e
        have h3 := un gP.nd h1 hx rfl
        have : fs (look P) x.1 = w := by unfold fs; rw [hw]; rfl
        rw [this]
        exact h3
  rw [hfil] at d1
  have r6 := eqD_pd (l := P.filter fun p => (ul s).any fun z => z == p.1) fun q hq => ⟨(gP.1 q (List.mem_filter.mp hq).1).1, by have := (gP.1 q (List.mem_filter.mp hq).1).2; omega⟩
  have kk : ∀ f : Int → Tr, (((ul s).map fun k => (k, f k)).map (·.1)) = ul s := fun f => ul_keys f s
  generalize hL0 : ((ul s).map fun k => (k, Tr.unk k)) = L0 at *
  have len1 : ((ul s).map fun k => (k, fs (look P) k)).length ≤ sizeLine := by rw [List.length_map]; exact e3
  have k1 := kk (fs (look P))
  generalize hL1 : ((ul s).map fun k => (k, fs (look P) k)) = L1 at *
  generalize hL2 : ((ul s).map fun k => (k, fs (comp (look P) (look Q)) k)) = L2 at *
  generalize hSB : sp (bothT (look Q) Q P) = SB at *
  have lA := lcA C59 (F := bothT (look Q) Q P)
  have lB := lcB C59 (xs := ul s)
  have lC := lcC C59 (xs := L1)
  rw [hSB] at lA
  rw [hL0] at lB
  rw [k1] at lC
  generalize hPf : (P.filter fun p => (ul s).any fun z => z == p.1) = Pf at *
  simp [C59, b_law, Tr.n, G9.execs, G9.exec, ev, evB, evL, evP, evW, evK, evO, evC, evI, evIn, rdL, bnd, G9.ret, opt, stuck, rd, vl, vp, nr1, nr2, nr3, nr4, nr5, nr6, nr7, nr8, nr9, tupV, plArg, tst, val?, bool?, get1, conD, flPO, flW, runB, runI, Def.env, Def.envW, opIdx, opBin, opCmp, ↓exec_fr, ↓ev_lcB, dict0, eqDs, eqDn, eqDb, kindM, Mt.mut, opMth, opBlt, keyD, intO, ofPO, nox, consO, Tgt.bind, wipeE, Tgt.own, itemsD, dictKs, isVar, freshE, G9.cellOf, G9.newCell, mutW, mutM, setC, locW, Calls.locked, isT, G9.isNon, Cell.toD, at0, at1, at2, at3, cut1, cut01, sz1, sz2, sz3, sz4, c1, c2, c3, c4, c5, c6, c7, c8, c9, c10, d1, d2, r1, r2, r3, r4, r5, r6, e1, e2, e3, lA, lB, lC, pkP, hdP, len1, t_settled, t_unknowns, t_fits, t__law_only]
end K13

set_option Elab.async false
set_option linter.all false
set_option maxRecDepth 100000
set_option maxHeartbeats 4000000
namespace K13
open PySem L2 G9
theorem segB2 (Q P : List (Int × Tr)) (gQ : goodS Q) (gP : goodS P) (a b c e : Option Wv) : ∃ k' v', G9.execs C59 ((b_law.drop 4).take 1) [a, b, c, some (.val (.ptp (P.map pD))), some (.val (.ptp (Q.map pD))), e, some (.loc 0), none, none, none, none, none, none] [.dict (dkOf Q) (dvOf Q)] =
      .ok (.nx [a, b, c, some (.val (.ptp (P.map pD))), some (.val (.ptp (Q.map pD))), e, some (.loc 0), k', v', none, none, none, none]) [.dict (dkOf (bothT (look Q) Q P)) (dvOf (bothT (look Q) Q P))] := by
  have lP := gP.2.2
  have lQ := gQ.2.2
  obtain ⟨k', v', h⟩ := segB Q gQ a b c (some (.val (.ptp (P.map pD)))) e none none none none P Q none none gP.1 (by omega)
  refine ⟨k', v', ?_⟩
  simp only [b_law, tgtAt, bodyAt, List.getElem?_cons_succ, List.getElem?_cons_zero] at h
  simp [b_law, Tr.n, G9.execs, G9.exec, ev, evB, evL, evP, evW, evK, evO, evC, evI, evIn, rdL, bnd, G9.ret, opt, stuck, rd, vl, vp, nr1, nr2, nr3, nr4, nr5, nr6, nr7, nr8, nr9, tupV, plArg, tst, val?, bool?, get1, conD, flPO, flW, runB, runI, Def.env, Def.envW, opIdx, opBin, opCmp, ↓exec_fr, ↓ev_lcB, dict0, eqDs, eqDn, eqDb, kindM, Mt.mut, opMth, opBlt, keyD, intO, ofPO, nox, consO, Tgt.bind, wipeE, Tgt.own, itemsD, dictKs, isVar, freshE, G9.cellOf, G9.newCell, mutW, mutM, setC, locW, Calls.locked, isT, G9.isNon, Cell.toD, at0, at1, at2, at3, cut1, cut01, sz1, sz2, sz3, sz4, h]
theorem segD (s : Tr) (P Q : List (Int × Tr)) (gP : goodS P) (gQ : goodS Q) (a b c e g w1 w2 w3 w4 : Option Wv) (M : List Cell) : ∀ (l : List (Int × Tr)) (k v : Option Wv), (∀ q ∈ l, q.2 = fs (comp (look P) (look Q)) q.1) →
    ∃ k' v', forLoop (frB C59 (tgtAt b_law 14) (bodyAt b_law 14)) (l.map pD) [a, b, c, some (.val (.ptp (P.map pD))), some (.val (.ptp (Q.map pD))), e, g, k, v, w1, w2, w3, w4] M =
      .ok (.nx [a, b, c, some (.val (.ptp (P.map pD))), some (.val (.ptp (Q.map pD))), e, g, k', v', w1, w2, w3, w4]) M := by
  intro l
  induction l with
  | nil => intro k v _; exact ⟨k, v, rfl⟩
  | cons p r ih =>
    intro k v h
    obtain ⟨k', v', h1⟩ := ih (some (.val (.int p.1))) (some (.val p.2.d)) (fun q hq => h q (by simp [hq]))
    refine ⟨k', v', ?_⟩
    rw [← h1]
    have hp := h p (by simp)
    rw [fs_comp] at hp
    have oF := stT_ok (fun i v h => (gP.val i v h).1) (Tr.unk p.1) trivial
    have hF := stT_h (fun i v h => (gP.val i v h).2) (Tr.unk p.1)
    simp only [Tr.h] at hF
    have oG := stT_ok (fun i v h => (gQ.val i v h).1) _ oF
    have hG := stT_h (fun i v h => (gQ.val i v h).2) (stT (look P) (Tr.unk p.1))
    have q1 := settled_ok (ps := P) (acc := P) gP.merge (t := Tr.unk p.1) (n := 59) trivial (by simp only [Tr.h]; omega)
    have q2 := settled_ok (ps := Q) (acc := Q) gQ.merge (n := 59) oF (by omega)
    have e1 : stT (look P) (Tr.unk p.1) = fs (look P) p.1 := rfl
    rw [e1] at q1 q2 oG hG
    simp only [Tr.d] at q1
    rw [← hp] at q2 oG hG
    have r1 := eqD_T oG (by rw [e1] at hF; omega)
    simp [C59, forLoop, frB, tgtAt, bodyAt, b_law, pD, Tr.n, G9.execs, G9.exec, ev, evB, evL, evP, evW, evK, evO, evC, evI, evIn, rdL, bnd, G9.ret, opt, stuck, rd, vl, vp, nr1, nr2, nr3, nr4, nr5, nr6, nr7, nr8, nr9, tupV, plArg, tst, val?, bool?, get1, conD, flPO, flW, runB, runI, Def.env, Def.envW, opIdx, opBin, opCmp, ↓exec_fr, ↓ev_lcB, dict0, eqDs, eqDn, eqDb, kindM, Mt.mut, opMth, opBlt, keyD, intO, ofPO, nox, consO, Tgt.bind, wipeE, Tgt.own, itemsD, dictKs, isVar, freshE, G9.cellOf, G9.newCell, mutW, mutM, setC, locW, Calls.locked, isT, G9.isNon, Cell.toD, at0, at1, at2, at3, cut1, cut01, sz1, sz2, sz3, sz4, q1, q2, r1, t_settled]
theorem law_true : ∀ ns : List Int, ns.length ≤ 63 → callP T TI gl 60 "law" [.scr ns] = .ok (.bl true) := by
  intro ns _
  rw [callP_T 59 _ _ _ t_law]
  obtain ⟨s, o, P, Q, os, hs, oo, ho, gP, gQ, h1⟩ := segA ns
  obtain ⟨k1, v1, h2⟩ := segB2 Q P gQ gP (some (.val (.scr ns))) (some (.val s.d)) (some (.val o.d)) (some (.val (stT (look P) s).d))
  have h3 := segC s P Q os hs gP gQ (some (.val (.scr ns))) (some (.val o.d)) k1 v1
  obtain ⟨k2, v2, h4⟩ := segD s P Q gP gQ (some (.val (.scr ns))) (some (.val s.d)) (some (.val o.d)) (some (.val (stT (look P) s).d)) (some (.loc 0)) (some (.val (.ptp ((sp (bothT (look Q) Q P)).map pD)))) (some (.val (.ptp ((ul s).map .int)))) (some (.val (.ptp (((ul s).map fun k => (k, fs (look P) k)).map pD)))) (some (.val (.ptp (((ul s).map fun k => (k, fs (comp (look P) (look Q)) k)).map pD)))) [.dict (dkOf (bothT (look Q) Q P)) (dvOf (bothT (look Q) Q P))] ((ul s).map fun k => (k, fs (comp (look P) (look Q)) k)) k1 v1 (fun q hq => by
    obtain ⟨i, _, rfl⟩ := List.mem_map.mp hq
    rfl)
  have h5 := counted_well_ok s o P 59 os hs oo ho gP (by omega)
  have hb : d_law.body = b_law.take 4 ++ ((b_law.drop 4).take 1 ++ ((b_law.drop 5).take 9 ++ b_law.drop 14)) := rfl
  have hl : ([.scr ns] : List D).length = d_law.ps.length := rfl
  have he : d_law.env [.scr ns] = [some (.val (.scr ns)), none, none, none, none, none, none, none, none, none, none, none, none] := rfl
  unfold runB
  rw [if_pos hl, hb, he, execs_seq h1, execs_seq h2, execs_seq h3]
  generalize hL2 : ((ul s).map fun k => (k, fs (comp (look P) (look Q)) k)) = L2 at *
  generalize hL1 : ((ul s).map fun k => (k, fs (look P) k)) = L1 at *
  simp only [b_law, tgtAt, bodyAt, List.getElem?_cons_succ, List.getElem?_cons_zero] at h4
  simp [b_law, Tr.n, G9.execs, G9.exec, ev, evB, evL, evP, evW, evK, evO, evC, evI, evIn, rdL, bnd, G9.ret, opt, stuck, rd, vl, vp, nr1, nr2, nr3, nr4, nr5, nr6, nr7, nr8, nr9, tupV, plArg, tst, val?, bool?, get1, conD, flPO, flW, runB, runI, Def.env, Def.envW, opIdx, opBin, opCmp, ↓exec_fr, ↓ev_lcB, dict0, eqDs, eqDn, eqDb, kindM, Mt.mut, opMth, opBlt, keyD, intO, ofPO, nox, consO, Tgt.bind, wipeE, Tgt.own, itemsD, dictKs, isVar, freshE, G9.cellOf, G9.newCell, mutW, mutM, setC, locW, Calls.locked, isT, G9.isNon, Cell.toD, at0, at1, at2, at3, cut1, cut01, sz1, sz2, sz3, sz4, h4, h5, t__law_counted_well]
end K13

open PySem PySem.W PyProof.Rows
set_option maxRecDepth 100000 in
set_option maxHeartbeats 0 in
theorem PySem.Challenge.cw_sortwell_k13_whole_settled_in_turn_holds : PySem.Challenge.rw_sortwell_k13_whole_settled_in_turn.Holds := by
  w_on; o_law; k_head; (case hw => w_witness2)
  k_fill
  refine K13.walk K13.law_true (l := PySem.Challenge.rw_sortwell_k13_whole_settled_in_turn) rfl rfl (fun w h Y => PySem.W.kIn_of Y) ?F
  case F =>
    intro w mg fa h KX G hmg
    refine' K13.all_mk KX G hmg ?a0 ?l0 ?c0 ?k0 ?a1 ?l1 ?c1 ?k1 ?a2 ?l2 ?c2 ?k2 ?a3 ?l3 ?c3 ?k3 ?a4 ?l4 ?c4 ?k4 ?a5 ?l5 ?c5 ?k5 ?a6 ?l6 ?c6 ?k6 ?a7 ?l7 ?c7 ?k7 ?a8 ?l8 ?c8 ?k8 ?a9 ?l9 ?c9 ?k9 ?a10 ?l10 ?c10 ?k10 ?a11 ?l11 ?c11 ?k11 ?a12 ?l12 ?c12 ?k12 ?a13 ?l13 ?c13 ?k13 ?a14 ?l14 ?c14 ?k14 ?z_len ?z_all ?z_dict ?z_list ?z_tuple ?z_sorted ?z_set ?z_range ?z_zip
    (case a0 => k_is); (case l0 => k_is); (case c0 => k_is); (case k0 => k_is)
    (case a1 => k_is); (case l1 => k_is); (case c1 => k_is); (case k1 => k_is)
    (case a2 => k_is); (case l2 => k_is); (case c2 => k_is); (case k2 => k_is)
    (case a3 => k_is); (case l3 => k_is); (case c3 => k_is); (case k3 => k_is)
    (case a4 => k_is); (case l4 => k_is); (case c4 => k_is); (case k4 => k_is)
    (case a5 => k_is); (case l5 => k_is); (case c5 => k_is); (case k5 => k_is)
    (case a6 => k_is); (case l6 => k_is); (case c6 => k_is); (case k6 => k_is)
    (case a7 => k_is); (case l7 => k_is); (case c7 => k_is); (case k7 => k_is)
    (case a8 => k_is); (case l8 => k_is); (case c8 => k_is); (case k8 => k_is)
    (case a9 => k_is); (case l9 => k_is); (case c9 => k_is); (case k9 => k_is)
    (case a10 => k_is); (case l10 => k_is); (case c10 => k_is); (case k10 => k_is)
    (case a11 => k_is); (case l11 => k_is); (case c11 => k_is); (case k11 => k_is)
    (case a12 => k_is); (case l12 => k_is); (case c12 => k_is); (case k12 => k_is)
    (case a13 => k_is); (case l13 => k_is); (case c13 => k_is); (case k13 => k_is)
    (case a14 => k_is); (case l14 => k_is); (case c14 => k_is); (case k14 => k_is)
    (case z_len => k_is)
    (case z_all => k_is)
    (case z_dict => k_is)
    (case z_list => k_is)
    (case z_tuple => k_is)
    (case z_sorted => k_is)
    (case z_set => k_is)
    (case z_range => k_is)
    (case z_zip => k_is)
#print axioms PySem.Challenge.cw_sortwell_k13_whole_settled_in_turn_holds
