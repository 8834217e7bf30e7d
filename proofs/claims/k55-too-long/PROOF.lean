import PyProof.Rows.All
import Wide.All
import OpenK.AllK
import Wide.FinOn
import PySem.Challenge.RW_stopglass_k55_too_long
import HandS.ForMost
import HandS.Walk
import HandS.Deep
import HandS.Conv
import HandS.TupAny
import HandS.Style
import HandS.Wide
import HandS.IsInst
import HandS.Zip
import KE.KeyNested
import KE.KDictKeyed
import HandS.Exc
import HandS.ExcCtx
import KE.GoesMore
import KE.KDictDisplayH
import HandS.Head0
import HandS.Head1
import HandS.Head2
import HandS.HeadEnd
import HandS.HeadHook1
import HandS.HeadHook2
import HandS.HotCalls
import HandS.ExcInit
import HandS.ExcOwn
import HandS.ExcField
import KE.KExcIs
import HandS.ExcIs
set_option Elab.async false
set_option linter.all false
set_option maxRecDepth 100000
set_option maxHeartbeats 4000000
/-! ## data trees, and how the abstract heap bears them -/
namespace Mn
open PySem L2

/-- the kinds of a dict's keys: atoms; flat tuples of atoms; nested tuples -/
inductive Kd where | a | n
  deriving DecidableEq

/-- data: what a value is, as a tree; ptr j: the j-th shared cell -/
inductive D where
  | non | bl (b : Bool) | int (i : Int) | str (x : Str)
  | tup (ds : List D) | lst (ds : List D) | dic (k : Kd) (kvs : List (D × D)) | ptr (j : Nat)

def D.atom : D → Option L2.Key
  | .int i => some (.inl i)
  | .str x => some (.inr x)
  | _ => none
mutual
def D.nk : D → Option NestedKey
  | .non => some .none
  | .bl b => some (.num (if b then 1 else 0))
  | .int i => some (.num i)
  | .str x => some (.text x)
  | .tup ds => match nks ds with
    | some ks => some (.tup ks)
    | none => none
  | .lst _ => none
  | .dic _ _ => none
  | .ptr _ => none
def nks : List D → Option (List NestedKey)
  | [] => some []
  | d :: r => match d.nk, nks r with
    | some k, some ks => some (k :: ks)
    | _, _ => none
end
/-- a key of a dict of the kind, up to == -/
inductive CK where | a (k : L2.Key) | n (k : NestedKey)
  deriving DecidableEq
def D.ck : Kd → D → Option CK
  | .a, d => d.atom.map .a
  | .n, .tup ds => match nks ds with
    | some ks => if (NestedKey.tup ks).depth ≤ 8 then some (.n (.tup ks)) else none
    | none => none
  | _, _ => none

/-! ### the heap bears data -/
/-- a dict whose keys are nested tuples: the keys, where their tuples stand, the values -/
def NDok (P : Program) (w : World) (a : Addr) (es : List (NestedKey × Addr × V)) (h : Heap) : Prop :=
  es.length ≤ sizeLine ∧ (a == sysModules) = false ∧ ∃ (xs : List (NestedKey × Addr × Value)) (o : Obj) (des : Array DictEntry) (ep : Nat),
    Paired (fun (p : NestedKey × Addr × V) (q : NestedKey × Addr × Value) => p.1 = q.1 ∧ p.2.1 = q.2.1 ∧ RelV p.2.2 q.2.2) es xs ∧
    h.get? a = some o ∧ o.ExactDict ∧ o.data = .dict des ep ∧ des.toList = xs.map (entryOfKey (nestedKind P w)) ∧ (xs.map (·.1)).Nodup
def ND (P : Program) (w : World) (a : Addr) (es : List (NestedKey × Addr × V)) : HO := .ext (NDok P w a es)

mutual
inductive Rep (P : Program) (w : World) (K : PySem.W.Frag) (F : Hp) (ρ : List Addr) : V → D → Prop
  | non : Rep P w K F ρ .non .non
  | bl (b : Bool) : Rep P w K F ρ (.bl b) (.bl b)
  | int (i : Int) : Rep P w K F ρ (.int i) (.int i)
  | str (x : Str) : Rep P w K F ρ (.str x) (.str x)
  | tup {a : Addr} {vs : List V} {ds : List D} : SqT K F a vs → Reps P w K F ρ vs ds → Rep P w K F ρ (.ref a) (.tup ds)
  | lst {a : Addr} {vs : List V} {ds : List D} : SqL K F a vs → Reps P w K F ρ vs ds → Rep P w K F ρ (.ref a) (.lst ds)
  | dicA {a : Addr} {ks : List (L2.Key × V)} {kvs : List (D × D)} : Rd F a (.dK ks) → RepA P w K F ρ ks kvs → Rep P w K F ρ (.ref a) (.dic .a kvs)
  | dicN {a : Addr} {es : List (NestedKey × Addr × V)} {kvs : List (D × D)} : Rd F a (ND P w a es) → RepN P w K F ρ es kvs → Rep P w K F ρ (.ref a) (.dic .n kvs)
  | ptr {a : Addr} {j : Nat} : ρ[j]? = some a → Rep P w K F ρ (.ref a) (.ptr j)
inductive Reps (P : Program) (w : World) (K : PySem.W.Frag) (F : Hp) (ρ : List Addr) : List V → List D → Prop
  | nil : Reps P w K F ρ [] []
  | cons {v : V} {d : D} {vs : List V} {ds : List D} : Rep P w K F ρ v d → Reps P w K F ρ vs ds → Reps P w K F ρ (v :: vs) (d :: ds)
inductive RepA (P : Program) (w : World) (K : PySem.W.Frag) (F : Hp) (ρ : List Addr) : List (L2.Key × V) → List (D × D) → Prop
  | nil : RepA P w K F ρ [] []
  | cons {k : L2.Key} {v : V} {kd d : D} {r : List (L2.Key × V)} {s : List (D × D)} : kd.atom = some k → Rep P w K F ρ v d → RepA P w K F ρ r s → RepA P w K F ρ ((k, v) :: r) ((kd, d) :: s)
inductive RepN (P : Program) (w : World) (K : PySem.W.Frag) (F : Hp) (ρ : List Addr) : List (NestedKey × Addr × V) → List (D × D) → Prop
  | nil : RepN P w K F ρ [] []
  | cons {k : NestedKey} {b : Addr} {v : V} {kd d : D} {r : List (NestedKey × Addr × V)} {s : List (D × D)} : kd.ck .n = some (.n k) → Rep P w K F ρ (.ref b) kd → Rep P w K F ρ v d → RepN P w K F ρ r s → RepN P w K F ρ ((k, b, v) :: r) ((kd, d) :: s)
end

section
variable {P : Program} {w : World} {K : PySem.W.Frag} {F F' H : Hp} {ρ ρ' : List Addr}
/-- all that was is -/
def Sub (F F' : Hp) : Prop := ∀ a o, F a = some o → F' a = some o
theorem Sub.refl (F : Hp) : Sub F F := fun _ _ h => h
theorem Sub.trans {A B C : Hp} (x : Sub A B) (y : Sub B C) : Sub A C := fun a o h => y a o (x a o h)
theorem Sub.new {a : Addr} {o : HO} (h : F a = none) : Sub F (upd F a o) := fun b u e => by
  rw [upd_ne (ne_of_none e h)]
  exact e
theorem Sub.rd {a : Addr} {u : HO} (s : Sub F F') (h : Rd F a u) : Rd F' a u := by
  rcases h with h | ⟨o, h⟩
  · exact .inl (s _ _ h)
  · exact .inr ⟨o, s _ _ h⟩
theorem Sub.l {a : Addr} {xs : List V} (s : Sub F F') (h : SqL K F a xs) : SqL K F' a xs := by
  rcases h with h | h
  · exact .inl (s.rd h)
  · exact .inr h
theorem Sub.t {a : Addr} {xs : List V} (s : Sub F F') (h : SqT K F a xs) : SqT K F' a xs := by
  rcases h with h | h
  · exact .inl (s.rd h)
  · exact .inr h
/-- ρ' goes on from ρ -/
def Pre (ρ ρ' : List Addr) : Prop := ∀ (j : Nat) (a : Addr), ρ[j]? = some a → ρ'[j]? = some a
theorem Pre.refl (ρ : List Addr) : Pre ρ ρ := fun _ _ h => h
theorem Pre.trans {a b c : List Addr} (x : Pre a b) (y : Pre b c) : Pre a c := fun j u h => y j u (x j u h)
theorem Pre.snoc (ρ : List Addr) (a : Addr) : Pre ρ (ρ ++ [a]) := fun j u h => by
  have hj : j < ρ.length := (List.getElem?_eq_some_iff.mp h).1
  rw [List.getElem?_append_left hj]
  exact h
mutual
theorem Rep.mono (s : Sub F F') (p : Pre ρ ρ') : ∀ {v : V} {d : D}, Rep P w K F ρ v d → Rep P w K F' ρ' v d
  | _, _, .non => .non
  | _, _, .bl b => .bl b
  | _, _, .int i => .int i
  | _, _, .str x => .str x
  | _, _, .tup h r => .tup (s.t h) (Reps.mono s p r)
  | _, _, .lst h r => .lst (s.l h) (Reps.mono s p r)
  | _, _, .dicA h r => .dicA (s.rd h) (RepA.mono s p r)
  | _, _, .dicN h r => .dicN (s.rd h) (RepN.mono s p r)
  | _, _, .ptr h => .ptr (p _ _ h)
theorem Reps.mono (s : Sub F F') (p : Pre ρ ρ') : ∀ {v : List V} {d : List D}, Reps P w K F ρ v d → Reps P w K F' ρ' v d
  | _, _, .nil => .nil
  | _, _, .cons h r => .cons (Rep.mono s p h) (Reps.mono s p r)
theorem RepA.mono (s : Sub F F') (p : Pre ρ ρ') : ∀ {v : List (L2.Key × V)} {d : List (D × D)}, RepA P w K F ρ v d → RepA P w K F' ρ' v d
  | _, _, .nil => .nil
  | _, _, .cons e h r => .cons e (Rep.mono s p h) (RepA.mono s p r)
theorem RepN.mono (s : Sub F F') (p : Pre ρ ρ') : ∀ {v : List (NestedKey × Addr × V)} {d : List (D × D)}, RepN P w K F ρ v d → RepN P w K F' ρ' v d
  | _, _, .nil => .nil
  | _, _, .cons e h1 h r => .cons e (Rep.mono s p h1) (Rep.mono s p h) (RepN.mono s p r)
end
theorem Reps.length : ∀ {vs : List V} {ds : List D}, Reps P w K F ρ vs ds → vs.length = ds.length
  | _, _, .nil => rfl
  | _, _, .cons _ r => by rw [List.length_cons, List.length_cons, r.length]
theorem Reps.get : ∀ {vs : List V} {ds : List D} {i : Nat} {d : D}, Reps P w K F ρ vs ds → ds[i]? = some d → ∃ v, vs[i]? = some v ∧ Rep P w K F ρ v d
  | _, _, _, _, .nil, e => by simp at e
  | _, _, 0, d, .cons r _, e => by simp at e; subst e; exact ⟨_, rfl, r⟩
  | _, _, i + 1, d, .cons _ t, e => by
    obtain ⟨v, h1, h2⟩ := Reps.get (i := i) (d := d) t (by simpa using e)
    exact ⟨v, by simpa using h1, h2⟩
theorem Reps.set {v : V} {d : D} (r : Rep P w K F ρ v d) : ∀ {vs : List V} {ds : List D} (i : Nat), Reps P w K F ρ vs ds → Reps P w K F ρ (vs.set i v) (ds.set i d)
  | _, _, _, .nil => .nil
  | _, _, 0, .cons _ t => .cons r t
  | _, _, i + 1, .cons q t => .cons q (Reps.set r i t)
theorem Reps.append : ∀ {vs : List V} {ds : List D} {vs' : List V} {ds' : List D}, Reps P w K F ρ vs ds → Reps P w K F ρ vs' ds' → Reps P w K F ρ (vs ++ vs') (ds ++ ds')
  | _, _, _, _, .nil, s => s
  | _, _, _, _, .cons r t, s => .cons r (t.append s)
theorem Reps.snoc {vs : List V} {ds : List D} {v : V} {d : D} (r : Reps P w K F ρ vs ds) (h : Rep P w K F ρ v d) : Reps P w K F ρ (vs ++ [v]) (ds ++ [d]) := r.append (.cons h .nil)
theorem Reps.take : ∀ {vs : List V} {ds : List D} (n : Nat), Reps P w K F ρ vs ds → Reps P w K F ρ (vs.take n) (ds.take n)
  | _, _, 0, _ => .nil
  | _, _, _ + 1, .nil => .nil
  | _, _, n + 1, .cons r t => .cons r (Reps.take n t)
theorem Reps.drop : ∀ {vs : List V} {ds : List D} (n : Nat), Reps P w K F ρ vs ds → Reps P w K F ρ (vs.drop n) (ds.drop n)
  | _, _, 0, r => r
  | _, _, _ + 1, .nil => .nil
  | _, _, n + 1, .cons _ t => Reps.drop n t
theorem Reps.dropLast {vs : List V} {ds : List D} (h : Reps P w K F ρ vs ds) : Reps P w K F ρ vs.dropLast ds.dropLast := by
  rw [List.dropLast_eq_take, List.dropLast_eq_take, h.length]
  exact h.take _
theorem Reps.reverse : ∀ {vs : List V} {ds : List D}, Reps P w K F ρ vs ds → Reps P w K F ρ vs.reverse ds.reverse
  | _, _, .nil => .nil
  | _, _, .cons r t => by
    rw [List.reverse_cons, List.reverse_cons]
    exact t.reverse.snoc r
theorem Reps.eraseIdx : ∀ {vs : List V} {ds : List D} (i : Nat), Reps P w K F ρ vs ds → Reps P w K F ρ (vs.eraseIdx i) (ds.eraseIdx i)
  | _, _, _, .nil => .nil
  | _, _, 0, .cons _ t => t
  | _, _, i + 1, .cons r t => .cons r (Reps.eraseIdx i t)
theorem Reps.ints : ∀ {ns : List Int}, Reps P w K F ρ (ns.map V.int) (ns.map D.int)
  | [] => .nil
  | n :: r => .cons (.int n) Reps.ints
theorem Reps.ints_inv : ∀ {ns : List Int} {vs : List V}, Reps P w K F ρ vs (ns.map D.int) → vs = ns.map V.int
  | [], _, .nil => rfl
  | n :: r, _, .cons h t => by
    cases h
    rw [Reps.ints_inv t]
    rfl

/-- the node that stands at a in H, its items in F: a list or a dict that may be changed -/
def NodeAt (P : Program) (w : World) (K : PySem.W.Frag) (F : Hp) (ρ : List Addr) (H : Hp) (a : Addr) : D → Prop
  | .lst ds => ∃ vs, H a = some (.lst vs) ∧ Reps P w K F ρ vs ds
  | .dic .a kvs => ∃ ks, H a = some (.dK ks) ∧ RepA P w K F ρ ks kvs
  | .dic .n kvs => ∃ es, H a = some (ND P w a es) ∧ RepN P w K F ρ es kvs
  | _ => False
theorem NodeAt.mono {a : Addr} {d : D} (s : Sub F F') (p : Pre ρ ρ') {H H' : Hp} (e : H' a = H a) (h : NodeAt P w K F ρ H a d) : NodeAt P w K F' ρ' H' a d := by
  cases d with
  | lst ds =>
    obtain ⟨vs, h1, h2⟩ := h
    exact ⟨vs, e.trans h1, h2.mono s p⟩
  | dic k kvs =>
    cases k with
    | a =>
      obtain ⟨vs, h1, h2⟩ := h
      exact ⟨vs, e.trans h1, h2.mono s p⟩
    | n =>
      obtain ⟨vs, h1, h2⟩ := h
      exact ⟨vs, e.trans h1, h2.mono s p⟩
  | _ => exact h.elim
/-- it stands in H as an object that may be written -/
theorem NodeAt.mut {a : Addr} {d : D} {H : Hp} (h : NodeAt P w K F ρ H a d) : ∃ o, H a = some o ∧ Mut (some o) := by
  cases d with
  | lst ds => obtain ⟨vs, h1, _⟩ := h; exact ⟨_, h1, trivial⟩
  | dic k kvs => cases k <;> (obtain ⟨vs, h1, _⟩ := h; exact ⟨_, h1, trivial⟩)
  | _ => exact h.elim
/-- a node handed to the frozen part -/
theorem NodeAt.frozen {a : Addr} {d : D} {H : Hp} {o : HO} (h : NodeAt P w K F ρ H a d) (ho : H a = some o) (hF : F a = none) : Rep P w K (upd F a o) ρ (.ref a) d := by
  have s : Sub F (upd F a o) := Sub.new hF
  have e : upd F a o a = some o := upd_same
  cases d with
  | lst ds =>
    obtain ⟨vs, h1, h2⟩ := h
    rw [ho] at h1; cases h1
    exact .lst (.of e) (h2.mono s (.refl _))
  | dic k kvs =>
    cases k with
    | a =>
      obtain ⟨vs, h1, h2⟩ := h
      rw [ho] at h1; cases h1
      exact .dicA (.inl e) (h2.mono s (.refl _))
    | n =>
      obtain ⟨vs, h1, h2⟩ := h
      rw [ho] at h1; cases h1
      exact .dicN (.inl e) (h2.mono s (.refl _))
  | _ => exact h.elim
end
end Mn

set_option Elab.async false
set_option linter.all false
set_option maxRecDepth 100000
set_option maxHeartbeats 4000000
/-! ## the small language, and what it does -/
namespace Mn
open PySem L2

def LIM : Nat := 100000

structure Fm where
  sl : List (Option (Bool × D))
  mu : List (Bool × D)

inductive Ref where | slot (i : Nat) | cell (j : Nat) | val (d : D)

def Fm.rd (s : Fm) : Ref → Option D
  | .slot i => match s.sl[i]? with
    | some (some (true, d)) => some d
    | _ => none
  | .cell j => match s.mu[j]? with
    | some c => some c.2
    | none => none
  | .val d => some d
def Fm.wr (s : Fm) : Ref → D → Option Fm
  | .slot i, d => match s.sl[i]? with
    | some (some (true, _)) => some { s with sl := s.sl.set i (some (true, d)) }
    | _ => none
  | .cell j, d => match s.mu[j]? with
    | some (false, _) => some { s with mu := s.mu.set j (false, d) }
    | _ => none
  | .val _, _ => none

inductive Bop where | add | sub | mul | fdiv | mod | and | or | xor | shl | shr | pow
  deriving DecidableEq
inductive Blt where | len | list | tuple | int | str | min2 | max2 | sum | any | all | sorted | dict | max1
  deriving DecidableEq
inductive Mth where | append | pop | popAt | get1 | get2 | index | extend | popKey | popKey2
  deriving DecidableEq

mutual
inductive E where
  | var (i : Nat)
  | cst (d : D)
  | glo (x : Str) (d : D)
  | tup (es : Es)
  | lst (es : Es)
  | dic0 (k : Kd)
  | dic1 (k : Kd) (a b : E)
  | newc (e : E)
  | op (o : Bop) (a b : E)
  | neg (a : E)
  | cmp (o : CmpOp) (a b : E)
  | chn (o o' : CmpOp) (a b c : E)
  | and (es : Es)
  | or (es : Es)
  | not (a : E)
  | ite (c a b : E)
  | ix (a i : E)
  | sl (a : E) (lo hi : Eo)
  | call (f : Nat) (es : Es)
  | blt (b : Blt) (es : Es)
  | isi (ty : String) (e : E)
  | mth (m : Mth) (a : E) (es : Es)
  | lc (own : List Nat) (tg : Tg) (it : It) (cs : Es) (e : E)
inductive Es where
  | nil
  | cons (e : E) (es : Es)
inductive Eo where
  | none
  | some (e : E)
inductive Tg where
  | name (i : Nat)
  | tup (ts : Tgs)
inductive Tgs where
  | nil
  | cons (t : Tg) (ts : Tgs)
inductive It where
  | val (e : E)
  | range (es : Es)
  | zip (a b : E)
  | enum (a : E)
  | items (a : E)
  | values (a : E)
end

inductive S where
  | set (i : Nat) (e : E)
  | asg (t : Tg) (e : E)
  | seti (a i e : E)
  | aug (i : Nat) (o : Bop) (e : E)
  | augi (a i : E) (o : Bop) (e : E)
  | ex (e : E)
  | ret (e : E)
  | ret0
  | ite (c : E) (t f : List S)
  | whil (c : E) (b : List S)
  | forr (t : Tg) (it : It) (b : List S)
  | brk | cont | pass
  | raise (e : E)
  | tryc (f : Nat) (es : Es) (i j : Nat)
  | never

/-! ### operations on data -/
mutual
def D.py : D → Option PyData
  | .non => some .none
  | .bl b => some (.bool b)
  | .int i => some (.int i)
  | .str x => some (.str x)
  | .tup ds => match pys ds with
    | some ps => some (.tuple ps)
    | none => none
  | .lst ds => match pys ds with
    | some ps => some (.list ps)
    | none => none
  | .dic _ _ => none
  | .ptr _ => none
def pys : List D → Option (List PyData)
  | [] => some []
  | d :: r => match d.py, pys r with
    | some p, some ps => some (p :: ps)
    | _, _ => none
end
def eqD (a b : D) : Option Bool := match a.py, b.py with
  | some x, some y => if SeqAt.shaped x = true ∧ SeqAt.shaped y = true then some (PyData.eqv x y) else none
  | _, _ => none
/-- any of a list is like d -/
def anyD (d : D) (ds : List D) : Option Bool := match d.py, pys ds with
  | some x, some ys => if SeqAt.shaped x = true ∧ SeqAt.shaped (.list ys) = true then some (ys.any fun z => PyData.eqv z x) else none
  | _, _ => none
def flatD : D → Bool
  | .non => true
  | .bl _ => true
  | .int _ => true
  | .str _ => true
  | _ => false
def eqF : D → D → Bool
  | .non, .non => true
  | .bl a, .bl b => a == b
  | .bl a, .int b => (if a then 1 else 0) == b
  | .int a, .bl b => a == (if b then 1 else 0)
  | .int a, .int b => a == b
  | .str a, .str b => a == b
  | _, _ => false
def inF (x : D) (ds : List D) : Bool := ds.any fun y => eqF y x

/-- what a dict holds at a key: none: no key of this kind -/
def dfind (k : Kd) (c : CK) : List (D × D) → Option D
  | [] => none
  | (q, v) :: r => if q.ck k = some c then some v else dfind k c r
def dget (k : Kd) (kvs : List (D × D)) (x : D) : Option (Option D) := match x.ck k with
  | some c => some (dfind k c kvs)
  | none => none
def dput1 (k : Kd) (c : CK) (x v : D) (kvs : List (D × D)) : List (D × D) :=
  if (dfind k c kvs).isSome = true then kvs.map (fun p => if p.1.ck k = some c then (p.1, v) else p) else kvs ++ [(x, v)]
def dput (k : Kd) (kvs : List (D × D)) (x v : D) : Option (List (D × D)) := match x.ck k with
  | some c => if kvs.length < LIM then some (dput1 k c x v kvs) else none
  | none => none

def bop : Bop → D → D → Option (Bool × D)
  | .add, .int a, .int b => some (false, .int (a + b))
  | .add, .str a, .str b => if a.length + b.length ≤ LIM then some (false, .str (a ++ b)) else none
  | .add, .tup a, .tup b => if a.length + b.length ≤ LIM then some (false, .tup (a ++ b)) else none
  | .sub, .int a, .int b => some (false, .int (a - b))
  | .mul, .int a, .int b => if a.natAbs < 2 ^ 64 ∨ b.natAbs < 2 ^ 64 then some (false, .int (a * b)) else none
  | .fdiv, .int a, .int b => if 0 < b ∧ b < 2 ^ 64 then some (false, .int (a / b)) else none
  | .mod, .int a, .int b => if 0 < b then some (false, .int (a % b)) else none
  | .and, .int a, .int b => some (false, .int (Builtin.bitAnd a b))
  | .or, .int a, .int b => some (false, .int (Builtin.bitOr a b))
  | .xor, .int a, .int b => some (false, .int (Builtin.bitXor a b))
  | _, _, _ => none
def cmpD : CmpOp → D → D → Option Bool
  | .Eq, a, b => eqD a b
  | .NotEq, a, b => match eqD a b with
    | some r => some (!r)
    | none => none
  | .Lt, .int a, .int b => some (decide (a < b))
  | .LtE, .int a, .int b => some (decide (a ≤ b))
  | .Gt, .int a, .int b => some (decide (b < a))
  | .GtE, .int a, .int b => some (decide (b ≤ a))
  | .Is, a, .non => some (match a with | .non => true | _ => false)
  | .IsNot, a, .non => some (match a with | .non => false | _ => true)
  | .Is, .bl a, .bl b => some (decide (a = b))
  | .IsNot, .bl a, .bl b => some (!decide (a = b))
  | .In, x, .lst ds => anyD x ds
  | .NotIn, x, .lst ds => match anyD x ds with
    | some r => some (!r)
    | none => none
  | .In, x, .tup ds => if flatD x = true ∧ ds.all flatD = true then some (inF x ds) else none
  | .NotIn, x, .tup ds => if flatD x = true ∧ ds.all flatD = true then some (!inF x ds) else none
  | .In, x, .dic k kvs => match dget k kvs x with
    | some r => some r.isSome
    | none => none
  | .NotIn, x, .dic k kvs => match dget k kvs x with
    | some r => some (!r.isSome)
    | none => none
  | _, _, _ => none
/-- an item by its place, of any sign -/
def ixD : D → D → Option D
  | .tup ds, .int i => atI ds i
  | .lst ds, .int i => atI ds i
  | .str x, .int i => if x.length ≤ LIM then match atI x.cps.toList i with
      | some c => some (.str ⟨#[c]⟩)
      | none => none else none
  | .dic k kvs, x => match dget k kvs x with
    | some r => r
    | none => none
  | _, _ => none
def cutD (ds : List D) (lo hi : Option Int) : List D := (ds.drop (HT.sIx ds.length 0 lo)).take (HT.sIx ds.length ds.length hi - HT.sIx ds.length 0 lo)
def slD : D → Option Int → Option Int → Option (Bool × D)
  | .tup ds, lo, hi => some (false, .tup (cutD ds lo hi))
  | .lst ds, lo, hi => some (true, .lst (cutD ds lo hi))
  | _, _, _ => none
def truD : D → Option Bool
  | .bl b => some b
  | .non => some false
  | .int i => some (i != 0)
  | .lst ds => some (!ds.isEmpty)
  | .tup ds => some (!ds.isEmpty)
  | _ => none
def isiD (T : String) (d : D) : Bool := match d with
  | .bl _ => T == "bool" || T == "int"
  | .int _ => T == "int"
  | .str _ => T == "str"
  | .tup _ => T == "tuple"
  | .lst _ => T == "list"
  | .dic _ _ => T == "dict"
  | _ => false
/-- ints of data -/
def intsD : List D → Option (List Int)
  | [] => some []
  | .int i :: r => match intsD r with
    | some is => some (i :: is)
    | none => none
  | _ :: _ => none
def blsD : List D → Option (List Bool)
  | [] => some []
  | .bl b :: r => match blsD r with
    | some bs => some (b :: bs)
    | none => none
  | _ :: _ => none
/-- a built-in function of contents -/
def bltD : Blt → List D → Option (Bool × D)
  | .len, [.lst ds] => some (false, .int ds.length)
  | .len, [.tup ds] => some (false, .int ds.length)
  | .len, [.str x] => if x.length ≤ LIM then some (false, .int x.length) else none
  | .list, [.lst ds] => some (true, .lst ds)
  | .list, [.tup ds] => some (true, .lst ds)
  | .tuple, [.lst ds] => some (false, .tup ds)
  | .tuple, [.tup ds] => some (false, .tup ds)
  | .int, [.int i] => some (false, .int i)
  | .int, [.bl b] => some (false, .int (if b then 1 else 0))
  | .min2, [.int a, .int b] => some (false, .int (if b < a then b else a))
  | .max2, [.int a, .int b] => some (false, .int (if b > a then b else a))
  | .any, [.lst ds] => match blsD ds with
    | some bs => some (false, .bl (bs.any id))
    | none => none
  | .all, [.lst ds] => match blsD ds with
    | some bs => some (false, .bl (bs.all id))
    | none => none
  | _, _ => none
/-- a method of contents: the answer, and the new content where it changes -/
def mthD : Mth → D → List D → Option ((Bool × D) × Option D)
  | .append, .lst ds, [d] => if ds.length < LIM then some ((false, .non), some (.lst (ds ++ [d]))) else none
  | .pop, .lst ds, [] => match ds[ds.length - 1]? with
    | some d => some ((false, d), some (.lst ds.dropLast))
    | none => none
  | .get2, .dic k kvs, [x, d] => match dget k kvs x with
    | some r => some ((false, r.getD d), none)
    | none => none
  | .get1, .dic k kvs, [x] => match dget k kvs x with
    | some r => some ((false, r.getD .non), none)
    | none => none
  | .index, .lst ds, [x] => if flatD x = true ∧ ds.all flatD = true then match ds.findIdx? (fun y => eqF y x) with
      | some j => some ((false, .int j), none)
      | none => none else none
  | _, _, _ => none

/-- the type whose method it is -/
def mthT : Mth → String
  | .append => "list" | .pop => "list" | .popAt => "list" | .index => "list" | .extend => "list" | .get1 => "dict" | .get2 => "dict" | .popKey => "dict" | .popKey2 => "dict"
def tyD : D → String
  | .non => "NoneType" | .bl _ => "bool" | .int _ => "int" | .str _ => "str" | .tup _ => "tuple" | .lst _ => "list" | .dic _ _ => "dict" | .ptr _ => ""
def mthK (m : Mth) (d : D) : Bool := tyD d == mthT m
def strD (x : Str) : List D := x.cps.toList.map fun c => .str ⟨#[c]⟩
mutual
def asgT : Tg → D → List (Option (Bool × D)) → Option (List (Option (Bool × D)))
  | .name i, d, sl => if i < sl.length then some (sl.set i (some (false, d))) else none
  | .tup ts, .tup ds, sl => asgTs ts ds sl
  | .tup _, _, _ => none
def asgTs : Tgs → List D → List (Option (Bool × D)) → Option (List (Option (Bool × D)))
  | .nil, [], sl => some sl
  | .cons t ts, d :: ds, sl => match asgT t d sl with
    | some sl => asgTs ts ds sl
    | none => none
  | _, _, _ => none
end
/-- slots forgotten -/
def wipeF (sl : List (Option (Bool × D))) : List Nat → List (Option (Bool × D))
  | [] => sl
  | v :: vs => (wipeF sl vs).set v none
/-- a comprehension's own names are the def's again -/
def bring (sl0 : List (Option (Bool × D))) (own : List Nat) (sl : List (Option (Bool × D))) : List (Option (Bool × D)) := sl.mapIdx fun i x => if own.contains i then (match sl0[i]? with
    | some (some (false, d)) => some (false, d)
    | _ => none) else x
def rangeD (a : Int) (n : Nat) : List D := (List.range n).map fun i => .int (a + (i : Nat))

/-- how a call ends: an answer; an exception that bears d -/
inductive Out where | ok (r : Bool × D) | exc (d : D)
inductive Flow where | next | ret (r : Bool × D) | brk | cont | exc (d : D)

def refD : D → Ref
  | .ptr j => .cell j
  | d => .val d
def valR : Option ((Bool × D) × Fm) → Option (Ref × Fm)
  | some ((_, d), s) => some (refD d, s)
  | none => none
/-- a container that is looked at, not handed on -/
def asRef (e : E) (s : Fm) (r : Option ((Bool × D) × Fm)) : Option (Ref × Fm) := match e with
  | .var i => match s.sl[i]? with
    | some (some (true, _)) => some (.slot i, s)
    | some (some (false, d)) => some (refD d, s)
    | _ => none
  | _ => valR r
def truR : Option (Ref × Fm) → Option (Bool × Fm)
  | some (p, s) => match s.rd p with
    | some d => match truD d with
      | some b => some (b, s)
      | none => none
    | none => none
  | none => none
def rds (s : Fm) : List Ref → Option (List D)
  | [] => some []
  | p :: ps => match s.rd p, rds s ps with
    | some d, some ds => some (d :: ds)
    | _, _ => none
section
variable (C : Nat → List D → List (Bool × D) → Option (Out × List (Bool × D))) (m : Nat)

/-- one item of a comprehension after another -/
def lcF (f : D → Fm → Option (Option D × Fm)) : List D → Fm → List D → Option (List D × Fm)
  | [], s, acc => some (acc, s)
  | d :: r, s, acc => match f d s with
    | some (none, s) => lcF f r s acc
    | some (some x, s) => if acc.length < LIM then lcF f r s (acc ++ [x]) else none
    | none => none

mutual
def ev : E → Fm → Option ((Bool × D) × Fm)
  | .var i, s => match s.sl[i]? with
    | some (some (o, d)) => some ((false, d), if o then { s with sl := s.sl.set i (some (false, d)) } else s)
    | _ => none
  | .cst d, s => some ((false, d), s)
  | .glo _ d, s => some ((false, d), s)
  | .tup es, s => match evs es s with
    | some (ds, s) => if ds.length ≤ LIM then some ((false, .tup ds), s) else none
    | none => none
  | .lst es, s => match evs es s with
    | some (ds, s) => if ds.length ≤ LIM then some ((true, .lst ds), s) else none
    | none => none
  | .dic0 k, s => some ((true, .dic k []), s)
  | .dic1 k a b, s => match ev a s with
    | some ((_, x), s) => match ev b s with
      | some ((_, y), s) => match x.ck k with
        | some _ => some ((true, .dic k [(x, y)]), s)
        | none => none
      | none => none
    | none => none
  | .newc e, s => match ev e s with
    | some ((true, d), s) => some ((false, .ptr s.mu.length), { s with mu := s.mu ++ [(false, d)] })
    | _ => none
  | .op o a b, s => match ev a s with
    | some ((_, x), s) => match ev b s with
      | some ((_, y), s) => match bop o x y with
        | some r => some (r, s)
        | none => none
      | none => none
    | none => none
  | .neg a, s => match ev a s with
    | some ((_, .int i), s) => some ((false, .int (-i)), s)
    | _ => none
  | .cmp o a b, s => match asRef a s (ev a s) with
    | some (p, s) => match asRef b s (ev b s) with
      | some (q, s) => match s.rd p, s.rd q with
        | some x, some y => match cmpD o x y with
          | some r => some ((false, .bl r), s)
          | none => none
        | _, _ => none
      | none => none
    | none => none
  | .chn o o' a b c, s => match ev a s with
    | some ((_, x), s) => match ev b s with
      | some ((_, y), s) => match cmpD o x y with
        | some true => match ev c s with
          | some ((_, z), s) => match cmpD o' y z with
            | some r => some ((false, .bl r), s)
            | none => none
          | none => none
        | some false => some ((false, .bl false), s)
        | none => none
      | none => none
    | none => none
  | .and es, s => match evAnd es s with
    | some (b, s) => some ((false, .bl b), s)
    | none => none
  | .or es, s => match evOr es s with
    | some (b, s) => some ((false, .bl b), s)
    | none => none
  | .not a, s => match truR (asRef a s (ev a s)) with
    | some (b, s) => some ((false, .bl (!b)), s)
    | none => none
  | .ite c a b, s => match truR (asRef c s (ev c s)) with
    | some (true, s) => ev a s
    | some (false, s) => ev b s
    | none => none
  | .ix a i, s => match asRef a s (ev a s) with
    | some (p, s) => match ev i s with
      | some ((_, y), s) => match s.rd p with
        | some x => match ixD x y with
          | some d => some ((false, d), s)
          | none => none
        | none => none
      | none => none
    | none => none
  | .sl a lo hi, s => match asRef a s (ev a s) with
    | some (p, s) => match evo lo s with
      | some (l, s) => match evo hi s with
        | some (h, s) => match s.rd p with
          | some x => match slD x l h with
            | some r => some (r, s)
            | none => none
          | none => none
        | none => none
      | none => none
    | none => none
  | .call f es, s => match evs es s with
    | some (ds, s) => match C f ds s.mu with
      | some (.ok r, mu) => some (r, { s with mu := mu })
      | _ => none
    | none => none
  | .blt b es, s => match evRs es s with
    | some (ps, s) => match rds s ps with
      | some xs => match bltD b xs with
        | some r => some (r, s)
        | none => none
      | none => none
    | none => none
  | .isi ty e, s => match asRef e s (ev e s) with
    | some (p, s) => match s.rd p with
      | some (.ptr _) => none
      | some d => some ((false, .bl (isiD ty d)), s)
      | none => none
    | none => none
  | .mth m a es, s => match asRef a s (ev a s) with
    | some (p, s) => match s.rd p with
      | some x0 => if mthK m x0 = true then match evs es s with
        | some (ds, s) => match s.rd p with
          | some x => match mthD m x ds with
            | some (r, none) => some (r, s)
            | some (r, some y) => match s.wr p y with
              | some s => some (r, s)
              | none => none
            | none => none
          | none => none
        | none => none
        else none
      | none => none
    | none => none
  | .lc own tg it cs e, s => match evI it s with
    | some (ds, s0) => match lcF (fun d s => match asgT tg d (wipeF s.sl own) with
        | some sl => match evTs cs ⟨sl, s.mu⟩ with
          | some (true, s) => match ev e s with
            | some ((_, x), s) => some (some x, { s with sl := wipeF s.sl own })
            | none => none
          | some (false, s) => some (none, { s with sl := wipeF s.sl own })
          | none => none
        | none => none) ds { s0 with sl := wipeF s0.sl own } [] with
      | some (xs, s1) => some ((true, .lst xs), ⟨bring s0.sl own s1.sl, s1.mu⟩)
      | none => none
    | none => none
def evs : Es → Fm → Option (List D × Fm)
  | .nil, s => some ([], s)
  | .cons e es, s => match ev e s with
    | some ((_, d), s) => match evs es s with
      | some (ds, s) => some (d :: ds, s)
      | none => none
    | none => none
def evo : Eo → Fm → Option (Option Int × Fm)
  | .none, s => some (none, s)
  | .some e, s => match ev e s with
    | some ((_, .int i), s) => some (some i, s)
    | _ => none
def evRs : Es → Fm → Option (List Ref × Fm)
  | .nil, s => some ([], s)
  | .cons e es, s => match asRef e s (ev e s) with
    | some (p, s) => match evRs es s with
      | some (ps, s) => some (p :: ps, s)
      | none => none
    | none => none
def evAnd : Es → Fm → Option (Bool × Fm)
  | .nil, s => some (true, s)
  | .cons e es, s => match ev e s with
    | some ((_, .bl true), s) => evAnd es s
    | some ((_, .bl false), s) => some (false, s)
    | _ => none
def evOr : Es → Fm → Option (Bool × Fm)
  | .nil, s => some (false, s)
  | .cons e es, s => match ev e s with
    | some ((_, .bl false), s) => evOr es s
    | some ((_, .bl true), s) => some (true, s)
    | _ => none
/-- the tests of a comprehension -/
def evTs : Es → Fm → Option (Bool × Fm)
  | .nil, s => some (true, s)
  | .cons e es, s => match truR (asRef e s (ev e s)) with
    | some (true, s) => evTs es s
    | some (false, s) => some (false, s)
    | none => none
/-- what is walked: the items -/
def evI : It → Fm → Option (List D × Fm)
  | .val e, s => match ev e s with
    | some ((_, .lst ds), s) => some (ds, s)
    | some ((_, .tup ds), s) => some (ds, s)
    | some ((_, .str x), s) => some (strD x, s)
    | some ((_, .dic _ kvs), s) => some (kvs.map (·.1), s)
    | _ => none
  | .range es, s => match evs es s with
    | some ([.int n], s) => if n ≤ 2 ^ 40 ∧ -(2 ^ 40) ≤ n then some (rangeD 0 n.toNat, s) else none
    | some ([.int a, .int b], s) => if -(2 ^ 40) ≤ a ∧ a ≤ 2 ^ 40 ∧ -(2 ^ 40) ≤ b ∧ b ≤ 2 ^ 40 then some (rangeD a (b - a).toNat, s) else none
    | _ => none
  | .zip a b, s => match ev a s with
    | some ((_, .lst xs), s) => match ev b s with
      | some ((_, .lst ys), s) => some ((xs.zip ys).map fun p => .tup [p.1, p.2], s)
      | _ => none
    | some ((_, .tup xs), s) => match ev b s with
      | some ((_, .tup ys), s) => some ((xs.zip ys).map fun p => .tup [p.1, p.2], s)
      | _ => none
    | _ => none
  | .enum a, s => match ev a s with
    | some ((_, .lst xs), s) => some (xs.mapIdx fun i x => .tup [.int (i : Nat), x], s)
    | some ((_, .tup xs), s) => some (xs.mapIdx fun i x => .tup [.int (i : Nat), x], s)
    | _ => none
  | .items a, s => match ev a s with
    | some ((_, .dic .a kvs), s) => some (kvs.map fun p => .tup [p.1, p.2], s)
    | _ => none
  | .values a, s => match ev a s with
    | some ((_, .dic .a kvs), s) => some (kvs.map fun p => p.2, s)
    | _ => none
end

/-- a[i] = v by contents -/
def setD : D → D → D → Option D
  | .lst ds, .int i, v => match ixN ds.length i with
    | some j => some (.lst (ds.set j v))
    | none => none
  | .dic k kvs, x, v => match dput k kvs x v with
    | some kvs => some (.dic k kvs)
    | none => none
  | _, _, _ => none

def whilF (c : Fm → Option (Bool × Fm)) (b : Fm → Option (Flow × Fm)) : Nat → Fm → Option (Flow × Fm)
  | 0, _ => none
  | n + 1, s => match c s with
    | some (false, s) => some (.next, s)
    | some (true, s) => match b s with
      | some (.next, s) => whilF c b n s
      | some (.cont, s) => whilF c b n s
      | some (.brk, s) => some (.next, s)
      | some (.ret r, s) => some (.ret r, s)
      | some (.exc d, s) => some (.exc d, s)
      | none => none
    | none => none
def forF (t : Tg) (b : Fm → Option (Flow × Fm)) : List D → Fm → Option (Flow × Fm)
  | [], s => some (.next, s)
  | d :: r, s => match asgT t d s.sl with
    | some sl => match b { s with sl := sl } with
      | some (.next, s) => forF t b r s
      | some (.cont, s) => forF t b r s
      | some (.brk, s) => some (.next, s)
      | some (.ret r, s) => some (.ret r, s)
      | some (.exc d, s) => some (.exc d, s)
      | none => none
    | none => none
def evT (e : E) (s : Fm) : Option (Bool × Fm) := truR (asRef e s (ev C e s))
/-- an answer: a name's own list goes along -/
def evM (e : E) (s : Fm) : Option ((Bool × D) × Fm) := match e with
  | .var i => match s.sl[i]? with
    | some (some (o, d)) => some ((o, d), if o then { s with sl := s.sl.set i none } else s)
    | _ => none
  | _ => ev C e s
mutual
def exS : S → Fm → Option (Flow × Fm)
  | .set i e, s => match ev C e s with
    | some (r, s) => if i < s.sl.length then some (.next, { s with sl := s.sl.set i (some r) }) else none
    | none => none
  | .asg t e, s => match ev C e s with
    | some ((_, d), s) => match asgT t d s.sl with
      | some sl => some (.next, { s with sl := sl })
      | none => none
    | none => none
  | .seti a i e, s => match ev C e s with
    | some ((_, v), s) => match asRef a s (ev C a s) with
      | some (p, s) => match ev C i s with
        | some ((_, y), s) => match s.rd p with
          | some x => match setD x y v with
            | some z => match s.wr p z with
              | some s => some (.next, s)
              | none => none
            | none => none
          | none => none
        | none => none
      | none => none
    | none => none
  | .aug i o e, s => match s.sl[i]? with
    | some (some (false, x)) => if flatD x = true then match ev C e s with
        | some ((_, y), s) => match bop o x y with
          | some r => if i < s.sl.length then some (.next, { s with sl := s.sl.set i (some r) }) else none
          | none => none
        | none => none
      else none
    | _ => none
  | .augi a i o e, s => match asRef a s (ev C a s) with
    | some (p, s) => match ev C i s with
      | some ((_, y), s) => match s.rd p with
        | some x => match ixD x y with
          | some u => match ev C e s with
            | some ((_, v), s) => match bop o u v with
              | some (false, w) => match s.rd p with
                | some x => match setD x y w with
                  | some z => match s.wr p z with
                    | some s => some (.next, s)
                    | none => none
                  | none => none
                | none => none
              | _ => none
            | none => none
          | none => none
        | none => none
      | none => none
    | none => none
  | .ex e, s => match ev C e s with
    | some (_, s) => some (.next, s)
    | none => none
  | .ret e, s => match evM C e s with
    | some (r, s) => some (.ret r, s)
    | none => none
  | .ret0, s => some (.ret (false, .non), s)
  | .ite c t f, s => match evT C c s with
    | some (true, s) => exSs t s
    | some (false, s) => exSs f s
    | none => none
  | .whil c b, s => whilF (evT C c) (exSs b) m s
  | .forr t it b, s => match evI C it s with
    | some (ds, s) => forF t (exSs b) ds s
    | none => none
  | .brk, s => some (.brk, s)
  | .cont, s => some (.cont, s)
  | .pass, s => some (.next, s)
  | .raise e, s => match ev C e s with
    | some ((_, .str x), s) => some (.exc (.str x), s)
    | _ => none
  | .tryc f es i j, s => match evs C es s with
    | some (ds, s) => match C f ds s.mu with
      | some (.ok _, mu) => some (.next, { s with mu := mu })
      | some (.exc d, mu) => if i < s.sl.length ∧ j < s.sl.length then some (.next, ⟨(s.sl.set i (some (false, d))).set j none, mu⟩) else none
      | none => none
    | none => none
  | .never, _ => none
def exSs : List S → Fm → Option (Flow × Fm)
  | [], s => some (.next, s)
  | a :: r, s => match exS a s with
    | some (.next, s) => exSs r s
    | some (f, s) => some (f, s)
    | none => none
end
end
structure Fn where
  name : Str
  np : Nat
  N : List Str
  body : List S
def startF (n : Nat) (ds : List D) : List (Option (Bool × D)) := ds.map (fun d => some (false, d)) ++ List.replicate (n - ds.length) none
def run (fns : List Fn) (m : Nat) : Nat → Nat → List D → List (Bool × D) → Option (Out × List (Bool × D))
  | 0, _, _, _ => none
  | n + 1, f, ds, mu => match fns[f]? with
    | some fn => if ds.length = fn.np then match exSs (run fns m n) m fn.body ⟨startF fn.N.length ds, mu⟩ with
        | some (.ret r, s) => some (.ok r, s.mu)
        | some (.next, s) => some (.ok (false, .non), s.mu)
        | some (.exc d, s) => some (.exc d, s.mu)
        | _ => none
      else none
    | none => none
end Mn

set_option Elab.async false
set_option linter.all false
set_option maxRecDepth 100000
set_option maxHeartbeats 4000000
/-! ## a state of the small language, and the abstract heap -/
namespace Mn
open PySem L2

section
variable (P : Program) (w : World) (K : PySem.W.Frag)
/-- the cell's node, free or locked -/
def CellAt (F : Hp) (ρ : List Addr) (H : Hp) (a : Addr) (c : Bool × D) : Prop :=
  NodeAt P w K F ρ H a c.2 ∨ (c.1 = true ∧ ∃ o u, H a = some (.frz o u) ∧ NodeAt P w K F ρ (upd H a u) a c.2)
structure Ok (U F : Hp) (ρ : List Addr) (s : Fm) (σ : L2.St) (H : Hp) : Prop where
  fh : ∀ a u, F a = some u → H a = some u ∨ (Mut (some u) ∧ ∃ o, H a = some (.frz o u))
  uh : ∀ a o, U a = some o → H a = some o
  uf : ∀ a o, U a = some o → F a = none
  len : s.sl.length = σ.length
  slot : ∀ (i : Nat) (o : Bool) (d : D), s.sl[i]? = some (some (o, d)) → ∃ v, σ[i]? = some (some v) ∧ (o = false → Rep P w K F ρ v d) ∧
    (o = true → ∃ a, v = .ref a ∧ NodeAt P w K F ρ H a d ∧ F a = none ∧ U a = none ∧ a ∉ ρ)
  apart : ∀ (i j : Nat) (d e : D) (a : Addr), s.sl[i]? = some (some (true, d)) → s.sl[j]? = some (some (true, e)) → σ[i]? = some (some (.ref a)) → σ[j]? = some (some (.ref a)) → i = j
  cells : ρ.length = s.mu.length
  cell : ∀ (j : Nat) (c : Bool × D), s.mu[j]? = some c → ∃ a, ρ[j]? = some a ∧ CellAt P w K F ρ H a c ∧ F a = none ∧ U a = none
  nd : ρ.Nodup
/-- a value and what it is -/
def Res (U F : Hp) (ρ : List Addr) (s : Fm) (σ : L2.St) (H : Hp) (v : V) (r : Bool × D) : Prop :=
  (r.1 = false → Rep P w K F ρ v r.2) ∧ (r.1 = true → ∃ a, v = .ref a ∧ NodeAt P w K F ρ H a r.2 ∧ F a = none ∧ U a = none ∧ a ∉ ρ ∧
    ∀ (i : Nat) (d : D), s.sl[i]? = some (some (true, d)) → σ[i]? ≠ some (some (.ref a)))
def RefAt (U F : Hp) (ρ : List Addr) (s : Fm) (σ : L2.St) (H : Hp) (v : V) : Ref → Prop
  | .slot i => σ[i]? = some (some v)
  | .cell j => ∃ a, v = .ref a ∧ ρ[j]? = some a
  | .val d => Rep P w K F ρ v d
end
structure Nx (F : Hp) (ρ : List Addr) (H F' : Hp) (ρ' : List Addr) (H' : Hp) : Prop where
  sub : Sub F F'
  pre : Pre ρ ρ'
  lk : ∀ a o u, H a = some (.frz o u) → H' a = some (.frz o u)
theorem Nx.refl (F : Hp) (ρ : List Addr) (H : Hp) : Nx F ρ H F ρ H := ⟨.refl _, .refl _, fun _ _ _ h => h⟩
theorem Nx.trans {F F1 F2 : Hp} {ρ ρ1 ρ2 : List Addr} {H H1 H2 : Hp} (x : Nx F ρ H F1 ρ1 H1) (y : Nx F1 ρ1 H1 F2 ρ2 H2) : Nx F ρ H F2 ρ2 H2 :=
  ⟨x.sub.trans y.sub, x.pre.trans y.pre, fun a o u h => y.lk a o u (x.lk a o u h)⟩

section
variable {P : Program} {w : World} {K : PySem.W.Frag} {U F F' H H' : Hp} {ρ ρ' : List Addr} {s : Fm} {σ : L2.St} {v : V} {d : D} {r : Bool × D} {a p : Addr} {o : HO}

theorem mut_nofrz {u : HO} (h : Mut (some u)) (o : Obj) (x : HO) : u ≠ .frz o x := fun e => by subst e; exact h
/-- what is frozen may be read in the heap -/
theorem Ok.rd (k : Ok P w K U F ρ s σ H) {u : HO} (h : Rd F a u) : Rd H a u := by
  rcases h with h | ⟨o, h⟩
  · rcases k.fh a u h with e | ⟨_, o, e⟩
    · exact .inl e
    · exact .inr ⟨o, e⟩
  · rcases k.fh a _ h with e | ⟨m, _, e⟩
    · exact .inr ⟨o, e⟩
    · exact (show False from m).elim
theorem Ok.l (k : Ok P w K U F ρ s σ H) {xs : List V} (h : SqL K F a xs) : SqL K H a xs := by
  rcases h with h | h
  · exact .inl (k.rd h)
  · exact .inr h
theorem Ok.t (k : Ok P w K U F ρ s σ H) {xs : List V} (h : SqT K F a xs) : SqT K H a xs := by
  rcases h with h | h
  · exact .inl (k.rd h)
  · exact .inr h
theorem Ok.noF (k : Ok P w K U F ρ s σ H) (h : H p = none) : F p = none := by
  cases e : F p with
  | none => rfl
  | some u =>
    rcases k.fh p u e with q | ⟨_, _, q⟩
    · rw [h] at q; cases q
    · rw [h] at q; cases q
theorem Ok.noU (k : Ok P w K U F ρ s σ H) (h : H p = none) : U p = none := by
  cases e : U p with
  | none => rfl
  | some u =>
    have q := k.uh p u e
    rw [h] at q; cases q
theorem CellAt.there {c : Bool × D} (h : CellAt P w K F ρ H a c) : ∃ o, H a = some o := by
  rcases h with h | ⟨_, o, u, h, _⟩
  · obtain ⟨o, e, _⟩ := h.mut
    exact ⟨o, e⟩
  · exact ⟨_, h⟩
theorem Ok.cell_at (k : Ok P w K U F ρ s σ H) {j : Nat} (h : ρ[j]? = some a) : ∃ c, s.mu[j]? = some c ∧ CellAt P w K F ρ H a c ∧ F a = none ∧ U a = none := by
  have hj : j < s.mu.length := by rw [← k.cells]; exact (List.getElem?_eq_some_iff.mp h).1
  obtain ⟨a', e, c, f, u⟩ := k.cell j s.mu[j] (by simp [hj])
  rw [h] at e; cases e
  exact ⟨_, by simp [hj], c, f, u⟩
theorem Ok.noC (k : Ok P w K U F ρ s σ H) (h : H p = none) : p ∉ ρ := fun hp => by
  obtain ⟨j, e⟩ := List.mem_iff_getElem?.mp hp
  obtain ⟨c, _, q, _, _⟩ := k.cell_at e
  obtain ⟨o, e2⟩ := q.there
  rw [h] at e2; cases e2
theorem Ok.noS (k : Ok P w K U F ρ s σ H) (h : H p = none) {i : Nat} {d : D} (e : s.sl[i]? = some (some (true, d))) : σ[i]? ≠ some (some (.ref p)) := fun q => by
  obtain ⟨v, e1, _, h2⟩ := k.slot i true d e
  obtain ⟨a, ea, n, _⟩ := h2 rfl
  rw [q] at e1; cases e1
  cases ea
  obtain ⟨o, e2, _⟩ := n.mut
  rw [h] at e2; cases e2

theorem CellAt.mono {c : Bool × D} (sb : Sub F F') (p : Pre ρ ρ') (e : H' a = H a) (h : CellAt P w K F ρ H a c) : CellAt P w K F' ρ' H' a c := by
  rcases h with h | ⟨l, o, u, h, q⟩
  · exact .inl (h.mono sb p e)
  · exact .inr ⟨l, o, u, e.trans h, q.mono sb p (by rw [upd_same, upd_same])⟩

/-- other heaps, where all that is known stands as it stood -/
theorem Ok.grow (k : Ok P w K U F ρ s σ H) (sb : Sub F F') (hk : ∀ b u, H b = some u → H' b = some u) (hf : ∀ b u, F' b = some u → F b = some u ∨ (H b = none ∧ H' b = some u)) : Ok P w K U F' ρ s σ H' := by
  have hn : ∀ b, F b = none → (∃ o, H b = some o) → F' b = none := fun b n ⟨o, e⟩ => by
    cases q : F' b with
    | none => rfl
    | some u =>
      rcases hf b u q with z | ⟨z, _⟩
      · rw [n] at z; cases z
      · rw [e] at z; cases z
  refine ⟨fun b u e => ?_, fun b u e => hk _ _ (k.uh b u e), fun b u e => hn b (k.uf b u e) ⟨u, k.uh b u e⟩, k.len, fun i o d e => ?_, k.apart, k.cells, fun j c e => ?_, k.nd⟩
  · rcases hf b u e with z | ⟨_, z⟩
    · rcases k.fh b u z with q | ⟨m, o, q⟩
      · exact .inl (hk _ _ q)
      · exact .inr ⟨m, o, hk _ _ q⟩
    · exact .inl z
  · obtain ⟨v, e1, h1, h2⟩ := k.slot i o d e
    refine ⟨v, e1, fun z => (h1 z).mono sb (.refl _), fun z => ?_⟩
    obtain ⟨a, ea, n, f, u, c⟩ := h2 z
    obtain ⟨q, eq, _⟩ := n.mut
    exact ⟨a, ea, n.mono sb (.refl _) (by rw [eq, hk _ _ eq]), hn a f ⟨q, eq⟩, u, c⟩
  · obtain ⟨a, ea, c1, f, u⟩ := k.cell j c e
    obtain ⟨q, eq⟩ := c1.there
    exact ⟨a, ea, c1.mono sb (.refl _) (by rw [eq, hk _ _ eq]), hn a f ⟨q, eq⟩, u⟩
/-- a new frozen object -/
theorem Ok.newF (k : Ok P w K U F ρ s σ H) (h : H p = none) : Ok P w K U (upd F p o) ρ s σ (upd H p o) :=
  k.grow (.new (k.noF h)) (fun b u e => by rw [upd_ne (ne_of_none e h)]; exact e) fun b u e => by
    by_cases hb : b = p
    · subst hb
      rw [upd_same] at e
      exact .inr ⟨h, by rw [upd_same]; exact e⟩
    · rw [upd_ne hb] at e
      exact .inl e
theorem Nx.newF (hF : F p = none) (h : H p = none) : Nx F ρ H (upd F p o) ρ (upd H p o) := ⟨.new hF, .refl _, fun a q u e => by rw [upd_ne (ne_of_none e h)]; exact e⟩
/-- a new object of one's own -/
theorem Ok.newO (k : Ok P w K U F ρ s σ H) (h : H p = none) : Ok P w K U F ρ s σ (upd H p o) :=
  k.grow (.refl _) (fun b u e => by rw [upd_ne (ne_of_none e h)]; exact e) fun b u e => .inl e
theorem Nx.newO (h : H p = none) : Nx F ρ H F ρ (upd H p o) := ⟨.refl _, .refl _, fun a q u e => by rw [upd_ne (ne_of_none e h)]; exact e⟩
theorem Ok.resO (k : Ok P w K U F ρ s σ H) (h : H p = none) (n : NodeAt P w K F ρ (upd H p o) p d) : Res P w K U F ρ s σ (upd H p o) (.ref p) (true, d) :=
  ⟨fun z => Bool.noConfusion z, fun _ => ⟨p, rfl, n, k.noF h, k.noU h, k.noC h, fun _ _ e => k.noS h e⟩⟩
theorem Res.val (h : Rep P w K F ρ v d) : Res P w K U F ρ s σ H v (false, d) := ⟨fun _ => h, fun z => Bool.noConfusion z⟩
theorem Res.rep (h : Res P w K U F ρ s σ H v (false, d)) : Rep P w K F ρ v d := h.1 rfl

/-- frozen: an object of one's own that is in no slot and no cell -/
theorem Ok.freeze (k : Ok P w K U F ρ s σ H) (ho : H a = some o) (hF : F a = none) (hU : U a = none) (hc : a ∉ ρ) (hs : ∀ (i : Nat) (d : D), s.sl[i]? = some (some (true, d)) → σ[i]? ≠ some (some (.ref a))) :
    Ok P w K U (upd F a o) ρ s σ H := by
  have sb : Sub F (upd F a o) := .new hF
  refine ⟨fun b u e => ?_, k.uh, fun b u e => ?_, k.len, fun i q d e => ?_, k.apart, k.cells, fun j c e => ?_, k.nd⟩
  · by_cases hb : b = a
    · subst hb
      rw [upd_same] at e
      cases e
      exact .inl ho
    · rw [upd_ne hb] at e
      exact k.fh b u e
  · by_cases hb : b = a
    · subst hb
      rw [hU] at e; cases e
    · rw [upd_ne hb]
      exact k.uf b u e
  · obtain ⟨v, e1, h1, h2⟩ := k.slot i q d e
    refine ⟨v, e1, fun z => (h1 z).mono sb (.refl _), fun z => ?_⟩
    subst z
    obtain ⟨b, eb, n, f, u, c⟩ := h2 rfl
    have hb : b ≠ a := fun z => by
      subst z
      subst eb
      exact hs i d e e1
    exact ⟨b, eb, n.mono sb (.refl _) rfl, by rw [upd_ne hb]; exact f, u, c⟩
  · obtain ⟨b, eb, c1, f, u⟩ := k.cell j c e
    have hb : b ≠ a := fun z => by
      subst z
      exact hc (List.mem_of_getElem? eb)
    exact ⟨b, eb, c1.mono sb (.refl _) rfl, by rw [upd_ne hb]; exact f, u⟩
theorem Nx.freeze (hF : F a = none) : Nx F ρ H (upd F a o) ρ H := ⟨.new hF, .refl _, fun _ _ _ h => h⟩
/-- a result is handed on -/
theorem Ok.hand (k : Ok P w K U F ρ s σ H) (h : Res P w K U F ρ s σ H v r) : ∃ F', Nx F ρ H F' ρ H ∧ Ok P w K U F' ρ s σ H ∧ Rep P w K F' ρ v r.2 := by
  obtain ⟨q, d⟩ := r
  cases q with
  | false => exact ⟨F, .refl _ _ _, k, h.1 rfl⟩
  | true =>
    obtain ⟨a, e, n, f, u, c, hs⟩ := h.2 rfl
    subst e
    obtain ⟨o, ho, _⟩ := n.mut
    exact ⟨upd F a o, .freeze f, k.freeze ho f u c hs, n.frozen ho f⟩
/-- a slot is forgotten -/
theorem Ok.forget (k : Ok P w K U F ρ s σ H) {sl : List (Option (Bool × D))} {σ' : L2.St} (hl : sl.length = σ'.length) (h : ∀ (i : Nat) (x : Bool × D), sl[i]? = some (some x) → s.sl[i]? = some (some x) ∧ σ'[i]? = σ[i]?) : Ok P w K U F ρ { s with sl := sl } σ' H := by
  refine ⟨k.fh, k.uh, k.uf, hl, fun i o d e => ?_, fun i j d e a h1 h2 h3 h4 => ?_, k.cells, k.cell, k.nd⟩
  · obtain ⟨e1, e2⟩ := h i (o, d) e
    rw [e2]
    exact k.slot i o d e1
  · obtain ⟨e1, q1⟩ := h i _ h1
    obtain ⟨e2, q2⟩ := h j _ h2
    rw [q1] at h3
    rw [q2] at h4
    exact k.apart i j d e a e1 e2 h3 h4
/-- a slot takes a result -/
theorem Ok.store (k : Ok P w K U F ρ s σ H) (h : Res P w K U F ρ s σ H v r) {i : Nat} : Ok P w K U F ρ { s with sl := s.sl.set i (some r) } (σ.set i (some v)) H := by
  have key : ∀ (j : Nat) (x : Bool × D), (s.sl.set i (some r))[j]? = some (some x) → (j = i ∧ x = r ∧ (σ.set i (some v))[j]? = some (some v)) ∨ (j ≠ i ∧ s.sl[j]? = some (some x) ∧ (σ.set i (some v))[j]? = σ[j]?) := fun j x e => by
    by_cases hj : j = i
    · subst hj
      have hlt : j < s.sl.length := by
        by_cases z : j < s.sl.length
        · exact z
        · rw [List.getElem?_eq_none (by simpa using z)] at e; cases e
      rw [List.getElem?_set_self hlt] at e
      cases e
      exact .inl ⟨rfl, rfl, List.getElem?_set_self (by rw [← k.len]; exact hlt)⟩
    · rw [List.getElem?_set_ne (Ne.symm hj)] at e
      exact .inr ⟨hj, e, List.getElem?_set_ne (Ne.symm hj)⟩
  refine ⟨k.fh, k.uh, k.uf, by rw [List.length_set, List.length_set]; exact k.len, fun j o d e => ?_, fun j l d e b h1 h2 h3 h4 => ?_, k.cells, k.cell, k.nd⟩
  · rcases key j _ e with ⟨rfl, rfl, e2⟩ | ⟨hj, e1, e2⟩
    · refine ⟨v, e2, fun z => h.1 z, fun z => ?_⟩
      obtain ⟨a, ea, n, f, u, c, _⟩ := h.2 z
      exact ⟨a, ea, n, f, u, c⟩
    · rw [e2]
      exact k.slot j o d e1
  · rcases key j _ h1 with ⟨rfl, er, e2⟩ | ⟨hj, e1, e2⟩
    · rcases key l _ h2 with ⟨rfl, _, _⟩ | ⟨hl, g1, g2⟩
      · rfl
      · subst er
        obtain ⟨a, ea, _, _, _, _, ns⟩ := h.2 rfl
        rw [e2] at h3; cases h3
        cases ea
        rw [g2] at h4
        exact (ns l e g1 h4).elim
    · rcases key l _ h2 with ⟨rfl, er, g2⟩ | ⟨hl, g1, g2⟩
      · subst er
        obtain ⟨a, ea, _, _, _, _, ns⟩ := h.2 rfl
        rw [g2] at h4; cases h4
        cases ea
        rw [e2] at h3
        exact (ns j d e1 h3).elim
      · rw [e2] at h3
        rw [g2] at h4
        exact k.apart j l d e b e1 g1 h3 h4
/-- a slot's own object is frozen where it is handed on -/
theorem Ok.slotF (k : Ok P w K U F ρ s σ H) {i : Nat} (e : s.sl[i]? = some (some (true, d))) (hv : σ[i]? = some (some v)) :
    ∃ F', Nx F ρ H F' ρ H ∧ Ok P w K U F' ρ { s with sl := s.sl.set i (some (false, d)) } σ H ∧ Rep P w K F' ρ v d := by
  obtain ⟨v', e1, _, h2⟩ := k.slot i true d e
  rw [hv] at e1; cases e1
  obtain ⟨a, ea, n, f, u, c⟩ := h2 rfl
  subst ea
  obtain ⟨o, ho, _⟩ := n.mut
  have hlt : i < s.sl.length := (List.getElem?_eq_some_iff.mp e).1
  have k1 : Ok P w K U F ρ { s with sl := s.sl.set i none } σ H := k.forget (by rw [List.length_set]; exact k.len) fun j x q => by
    by_cases hj : j = i
    · subst hj
      rw [List.getElem?_set_self hlt] at q; cases q
    · rw [List.getElem?_set_ne (Ne.symm hj)] at q
      exact ⟨q, rfl⟩
  have k2 := k1.freeze ho f u c fun j d' q z => by
    have q' : (s.sl.set i none)[j]? = some (some (true, d')) := q
    by_cases hj : j = i
    · subst hj
      rw [List.getElem?_set_self hlt] at q'; cases q'
    · rw [List.getElem?_set_ne (Ne.symm hj)] at q'
      exact hj (k.apart j i d' d a q' e z hv)
  have r : Rep P w K (upd F a o) ρ (.ref a) d := n.frozen ho f
  refine ⟨upd F a o, .freeze f, ?_, r⟩
  have k3 := k2.store (i := i) (Res.val (H := H) r)
  have e3 : (s.sl.set i none).set i (some (false, d)) = s.sl.set i (some (false, d)) := List.set_set ..
  have e4 : σ.set i (some (.ref a)) = σ := by
    refine List.ext_getElem? fun j => ?_
    by_cases hj : j = i
    · subst hj
      rw [hv, List.getElem?_set_self (by rw [← k.len]; exact hlt)]
    · rw [List.getElem?_set_ne (Ne.symm hj)]
  rw [e4] at k3
  show Ok P w K U (upd F a o) ρ ⟨s.sl.set i (some (false, d)), s.mu⟩ σ H
  have k3' : Ok P w K U (upd F a o) ρ ⟨(s.sl.set i none).set i (some (false, d)), s.mu⟩ σ H := k3
  rw [e3] at k3'
  exact k3'

theorem rd_slot {s : Fm} {i : Nat} {d : D} (e : s.rd (.slot i) = some d) : s.sl[i]? = some (some (true, d)) := by
  simp only [Fm.rd] at e
  split at e
  · rename_i d' hs
    cases e
    exact hs
  · cases e
theorem rd_cell {s : Fm} {j : Nat} {d : D} (e : s.rd (.cell j) = some d) : ∃ c, s.mu[j]? = some c ∧ c.2 = d := by
  simp only [Fm.rd] at e
  split at e
  · rename_i c hs
    cases e
    exact ⟨c, hs, rfl⟩
  · cases e
theorem wr_slot {s s' : Fm} {i : Nat} {y : D} (e : s.wr (.slot i) y = some s') : (∃ d, s.sl[i]? = some (some (true, d))) ∧ s' = { s with sl := s.sl.set i (some (true, y)) } := by
  simp only [Fm.wr] at e
  split at e
  · rename_i d' hs
    cases e
    exact ⟨⟨_, hs⟩, rfl⟩
  · cases e
theorem wr_cell {s s' : Fm} {j : Nat} {y : D} (e : s.wr (.cell j) y = some s') : (∃ d, s.mu[j]? = some (false, d)) ∧ s' = { s with mu := s.mu.set j (false, y) } := by
  simp only [Fm.wr] at e
  split at e
  · rename_i d' hs
    cases e
    exact ⟨⟨_, hs⟩, rfl⟩
  · cases e

/-- what stands at a value: its content, the top in H -/
def At (P : Program) (w : World) (K : PySem.W.Frag) (F : Hp) (ρ : List Addr) (H : Hp) (v : V) : D → Prop
  | .non => v = .non
  | .bl b => v = .bl b
  | .int i => v = .int i
  | .str x => v = .str x
  | .tup ds => ∃ a vs, v = .ref a ∧ SqT K H a vs ∧ Reps P w K F ρ vs ds
  | .lst ds => ∃ a vs, v = .ref a ∧ SqL K H a vs ∧ Reps P w K F ρ vs ds
  | .dic .a kvs => ∃ a ks, v = .ref a ∧ Rd H a (.dK ks) ∧ RepA P w K F ρ ks kvs
  | .dic .n kvs => ∃ a es, v = .ref a ∧ Rd H a (ND P w a es) ∧ RepN P w K F ρ es kvs
  | .ptr j => ∃ a, v = .ref a ∧ ρ[j]? = some a
theorem Ok.atF (k : Ok P w K U F ρ s σ H) (h : Rep P w K F ρ v d) : At P w K F ρ H v d := by
  cases h with
  | non => exact rfl
  | bl b => exact rfl
  | int i => exact rfl
  | str x => exact rfl
  | tup h r => exact ⟨_, _, rfl, k.t h, r⟩
  | lst h r => exact ⟨_, _, rfl, k.l h, r⟩
  | dicA h r => exact ⟨_, _, rfl, k.rd h, r⟩
  | dicN h r => exact ⟨_, _, rfl, k.rd h, r⟩
  | ptr h => exact ⟨_, rfl, h⟩
theorem NodeAt.at (n : NodeAt P w K F ρ H a d) : At P w K F ρ H (.ref a) d := by
  cases d with
  | lst ds =>
    obtain ⟨vs, h1, h2⟩ := n
    exact ⟨a, vs, rfl, .of h1, h2⟩
  | dic k kvs =>
    cases k with
    | a => obtain ⟨vs, h1, h2⟩ := n; exact ⟨a, vs, rfl, .inl h1, h2⟩
    | n => obtain ⟨vs, h1, h2⟩ := n; exact ⟨a, vs, rfl, .inl h1, h2⟩
  | _ => exact n.elim
theorem CellAt.at {c : Bool × D} (h : CellAt P w K F ρ H a c) : At P w K F ρ H (.ref a) c.2 := by
  obtain ⟨l, d⟩ := c
  rcases h with h | ⟨_, o, u, e, n⟩
  · exact h.at
  · have n : NodeAt P w K F ρ (upd H a u) a d := n
    cases d with
    | lst ds =>
      obtain ⟨vs, h1, h2⟩ := n
      rw [upd_same] at h1; cases h1
      exact ⟨a, vs, rfl, .inl (.inr ⟨o, e⟩), h2⟩
    | dic k kvs =>
      cases k with
      | a => obtain ⟨vs, h1, h2⟩ := n; rw [upd_same] at h1; cases h1; exact ⟨a, vs, rfl, .inr ⟨o, e⟩, h2⟩
      | n => obtain ⟨vs, h1, h2⟩ := n; rw [upd_same] at h1; cases h1; exact ⟨a, vs, rfl, .inr ⟨o, e⟩, h2⟩
    | _ => exact n.elim
/-- what a container that is looked at holds -/
theorem Ok.at (k : Ok P w K U F ρ s σ H) {p : Ref} (h : RefAt P w K U F ρ s σ H v p) (e : s.rd p = some d) : At P w K F ρ H v d := by
  cases p with
  | slot i =>
    have h : σ[i]? = some (some v) := h
    have hs := rd_slot e
    obtain ⟨v', e1, _, h2⟩ := k.slot i true d hs
    rw [h] at e1; cases e1
    obtain ⟨a, ea, n, _⟩ := h2 rfl
    subst ea
    exact n.at
  | cell j =>
    obtain ⟨a, ea, hr⟩ := h
    obtain ⟨c, hs, rfl⟩ := rd_cell e
    obtain ⟨a', e', c1, _, _⟩ := k.cell j c hs
    rw [hr] at e'; cases e'
    subst ea
    exact c1.at
  | val x =>
    have e : some x = some d := e
    cases e
    exact k.atF h
theorem RefAt.mono {p : Ref} {s' : Fm} (x : Nx F ρ H F' ρ' H') (h : RefAt P w K U F ρ s σ H v p) : RefAt P w K U F' ρ' s' σ H' v p := by
  cases p with
  | slot i => exact h
  | cell j =>
    obtain ⟨a, ea, hr⟩ := h
    exact ⟨a, ea, x.pre _ _ hr⟩
  | val d => exact Rep.mono x.sub x.pre h
/-- one's own object (of a slot or a cell) is written -/
theorem Ok.write (k : Ok P w K U F ρ s σ H) {y : D} {s' : Fm} (hF : F a = none) (hU : U a = none) (n : NodeAt P w K F ρ (upd H a o) a y)
    (hs : ∀ (i : Nat) (q : Bool) (e : D), s'.sl[i]? = some (some (q, e)) → (q = true ∧ e = y ∧ σ[i]? = some (some (.ref a)) ∧ a ∉ ρ ∧ ∃ d, s.sl[i]? = some (some (true, d))) ∨ (s.sl[i]? = some (some (q, e)) ∧ (q = true → σ[i]? ≠ some (some (.ref a)))))
    (hc : ∀ (j : Nat) (c : Bool × D), s'.mu[j]? = some c → (c.2 = y ∧ ρ[j]? = some a) ∨ (s.mu[j]? = some c ∧ ρ[j]? ≠ some a)) (hl : s'.sl.length = s.sl.length) (hm : s'.mu.length = s.mu.length) : Ok P w K U F ρ s' σ (upd H a o) := by
  refine ⟨fun b u e => ?_, fun b u e => ?_, k.uf, by rw [hl]; exact k.len, fun i q e h => ?_, fun i j d e b h1 h2 h3 h4 => ?_, by rw [hm]; exact k.cells, fun j c h => ?_, k.nd⟩
  · have hb : b ≠ a := fun z => by subst z; rw [hF] at e; cases e
    rw [upd_ne hb]
    exact k.fh b u e
  · have hb : b ≠ a := fun z => by subst z; rw [hU] at e; cases e
    rw [upd_ne hb]
    exact k.uh b u e
  · rcases hs i q e h with ⟨rfl, rfl, h1, h2, _⟩ | ⟨h1, h2⟩
    · exact ⟨_, h1, fun z => Bool.noConfusion z, fun _ => ⟨a, rfl, n, hF, hU, h2⟩⟩
    · obtain ⟨v, e1, g1, g2⟩ := k.slot i q e h1
      refine ⟨v, e1, g1, fun z => ?_⟩
      obtain ⟨b, eb, nb, f, u, c⟩ := g2 z
      have hb : b ≠ a := fun z' => by
        subst z'; subst eb
        exact h2 z e1
      exact ⟨b, eb, nb.mono (.refl _) (.refl _) (upd_ne hb), f, u, c⟩
  · have old : ∀ (i : Nat) (e : D), s'.sl[i]? = some (some (true, e)) → ∃ e', s.sl[i]? = some (some (true, e')) := fun i e h => by
      rcases hs i true e h with ⟨_, _, _, _, h⟩ | ⟨h, _⟩
      · exact h
      · exact ⟨e, h⟩
    obtain ⟨d', h1'⟩ := old i d h1
    obtain ⟨e', h2'⟩ := old j e h2
    exact k.apart i j d' e' b h1' h2' h3 h4
  · rcases hc j c h with ⟨rfl, h2⟩ | ⟨h1, h2⟩
    · exact ⟨a, h2, .inl n, hF, hU⟩
    · obtain ⟨b, eb, cb, f, u⟩ := k.cell j c h1
      have hb : b ≠ a := fun z => by subst z; exact h2 eb
      exact ⟨b, eb, cb.mono (.refl _) (.refl _) (upd_ne hb), f, u⟩
theorem Nx.write {u : HO} (h : H a = some u) (m : Mut (some u)) : Nx F ρ H F ρ (upd H a o) := ⟨.refl _, .refl _, fun b q x e => by
  have hb : b ≠ a := fun z => by
    subst z
    rw [h] at e; cases e
    exact m
  rw [upd_ne hb]
  exact e⟩
theorem nodup_at {l : List Addr} (hn : l.Nodup) {i j : Nat} {x : Addr} (h1 : l[i]? = some x) (h2 : l[j]? = some x) : i = j := by
  obtain ⟨a1, e1⟩ := List.getElem?_eq_some_iff.mp h1
  obtain ⟨a2, e2⟩ := List.getElem?_eq_some_iff.mp h2
  exact (List.getElem_inj hn).mp (e1.trans e2.symm)
theorem Ok.wr (k : Ok P w K U F ρ s σ H) {p : Ref} {y : D} {s' : Fm} (h : RefAt P w K U F ρ s σ H v p) (e : s.wr p y = some s') :
    ∃ a x, v = .ref a ∧ s.rd p = some x ∧ F a = none ∧ NodeAt P w K F ρ H a x ∧ ∀ o, NodeAt P w K F ρ (upd H a o) a y → Ok P w K U F ρ s' σ (upd H a o) ∧ Nx F ρ H F ρ (upd H a o) := by
  cases p with
  | slot i =>
    have h : σ[i]? = some (some v) := h
    obtain ⟨⟨d, hs⟩, rfl⟩ := wr_slot e
    · have hlt : i < s.sl.length := (List.getElem?_eq_some_iff.mp hs).1
      obtain ⟨v', e1, _, h2⟩ := k.slot i true d hs
      rw [h] at e1; cases e1
      obtain ⟨a, ea, n, f, u, c⟩ := h2 rfl
      subst ea
      refine ⟨a, d, rfl, by simp only [Fm.rd]; rw [hs], f, n, fun o n' => ⟨k.write f u n' (fun j q e hj => ?_) (fun j c' hj => ?_) (by simp) rfl, ?_⟩⟩
      · have hj : (s.sl.set i (some (true, y)))[j]? = some (some (q, e)) := hj
        by_cases z : j = i
        · subst z
          rw [List.getElem?_set_self hlt] at hj
          cases hj
          exact .inl ⟨rfl, rfl, h, c, d, hs⟩
        · rw [List.getElem?_set_ne (Ne.symm z)] at hj
          exact .inr ⟨hj, fun zq z' => by subst zq; exact z (k.apart j i e d a hj hs z' h)⟩
      · exact .inr ⟨hj, fun z => c (List.mem_of_getElem? z)⟩
      · obtain ⟨o', ho, m⟩ := n.mut
        exact .write ho m
  | cell j =>
    obtain ⟨a, ea, hr⟩ := h
    obtain ⟨⟨d, hs⟩, rfl⟩ := wr_cell e
    · have hlt : j < s.mu.length := (List.getElem?_eq_some_iff.mp hs).1
      obtain ⟨a', e', c1, f, u⟩ := k.cell j _ hs
      rw [hr] at e'; cases e'
      have n : NodeAt P w K F ρ H a d := by
        rcases c1 with c1 | ⟨z, _⟩
        · exact c1
        · cases z
      subst ea
      refine ⟨a, d, rfl, by simp only [Fm.rd]; rw [hs], f, n, fun o n' => ⟨k.write f u n' (fun i q e hi => ?_) (fun i c' hi => ?_) rfl (by simp), ?_⟩⟩
      · refine .inr ⟨hi, fun zq z' => ?_⟩
        subst zq
        obtain ⟨v2, e2, _, g2⟩ := k.slot i true e hi
        rw [z'] at e2; cases e2
        obtain ⟨b, eb, _, _, _, cb⟩ := g2 rfl
        cases eb
        exact cb (List.mem_of_getElem? hr)
      · have hi : (s.mu.set j (false, y))[i]? = some c' := hi
        by_cases z : i = j
        · subst z
          rw [List.getElem?_set_self hlt] at hi
          cases hi
          exact .inl ⟨rfl, hr⟩
        · rw [List.getElem?_set_ne (Ne.symm z)] at hi
          exact .inr ⟨hi, fun z' => z (nodup_at k.nd z' hr)⟩
      · obtain ⟨o', ho, m⟩ := n.mut
        exact .write ho m
  | val x => cases e
/-- a new shared cell -/
theorem Ok.newC (k : Ok P w K U F ρ s σ H) (n : NodeAt P w K F ρ H a d) (hF : F a = none) (hU : U a = none) (hc : a ∉ ρ) (hs : ∀ (i : Nat) (d : D), s.sl[i]? = some (some (true, d)) → σ[i]? ≠ some (some (.ref a))) :
    Ok P w K U F (ρ ++ [a]) { s with mu := s.mu ++ [(false, d)] } σ H := by
  have pr : Pre ρ (ρ ++ [a]) := .snoc _ _
  refine ⟨k.fh, k.uh, k.uf, k.len, fun i q e h => ?_, k.apart, by simp [k.cells], fun j c h => ?_, ?_⟩
  · obtain ⟨v, e1, g1, g2⟩ := k.slot i q e h
    refine ⟨v, e1, fun z => (g1 z).mono (.refl _) pr, fun z => ?_⟩
    subst z
    obtain ⟨b, eb, nb, f, u, cb⟩ := g2 rfl
    refine ⟨b, eb, nb.mono (.refl _) pr rfl, f, u, fun hb => ?_⟩
    rcases List.mem_append.mp hb with z | z
    · exact cb z
    · have e' : b = a := by simpa using z
      subst e'; subst eb
      exact hs i e h e1
  · have h : (s.mu ++ [(false, d)])[j]? = some c := h
    by_cases hj : j < s.mu.length
    · rw [List.getElem?_append_left hj] at h
      obtain ⟨b, eb, cb, f, u⟩ := k.cell j c h
      exact ⟨b, pr _ _ eb, cb.mono (.refl _) pr rfl, f, u⟩
    · rw [List.getElem?_append_right (by omega)] at h
      have e0 : j - s.mu.length = 0 := by
        by_cases z : j - s.mu.length = 0
        · exact z
        · rw [List.getElem?_eq_none (by simp; omega)] at h; cases h
      rw [e0] at h
      have h : some (false, d) = some c := h
      cases h
      have ej : j = ρ.length := by have := k.cells; omega
      exact ⟨a, by rw [ej]; simp, .inl (n.mono (.refl _) pr rfl), hF, hU⟩
  · rw [List.nodup_append]
    refine ⟨k.nd, by simp, fun x hx y hy => ?_⟩
    have e' : y = a := by simpa using hy
    subst e'
    exact fun z => hc (z ▸ hx)
theorem Nx.newC : Nx F ρ H F (ρ ++ [a]) H := ⟨.refl _, .snoc _ _, fun _ _ _ h => h⟩

/-! ### a call: the caller's own objects stand outside -/
def Own (s : Fm) (σ : L2.St) (b : Addr) : Prop := ∃ (i : Nat) (d : D), s.sl[i]? = some (some (true, d)) ∧ σ[i]? = some (some (.ref b))
open Classical in
noncomputable def outer (U : Hp) (s : Fm) (σ : L2.St) (H : Hp) : Hp := fun b => if Own s σ b then H b else U b
theorem outer_own {b : Addr} (h : Own s σ b) : outer U s σ H b = H b := by unfold outer; rw [if_pos h]
theorem outer_not {b : Addr} (h : ¬ Own s σ b) : outer U s σ H b = U b := by unfold outer; rw [if_neg h]
theorem Ok.own (k : Ok P w K U F ρ s σ H) {b : Addr} (h : Own s σ b) : (∃ d, NodeAt P w K F ρ H b d) ∧ F b = none ∧ U b = none ∧ b ∉ ρ := by
  obtain ⟨i, d, h1, h2⟩ := h
  obtain ⟨v, e1, _, g⟩ := k.slot i true d h1
  rw [h2] at e1; cases e1
  obtain ⟨a, ea, n, f, u, c⟩ := g rfl
  cases ea
  exact ⟨⟨d, n⟩, f, u, c⟩
theorem Ok.enter (k : Ok P w K U F ρ s σ H) {n : Nat} {N : List Str} {vs : List V} {ds : List D} (hn : n = N.length) (r : Reps P w K F ρ vs ds) : Ok P w K (outer U s σ H) F ρ ⟨startF n ds, s.mu⟩ (L2.start N vs) H := by
  subst hn
  have hl := r.length
  refine ⟨k.fh, fun b u e => ?_, fun b u e => ?_, ?_, fun i o d e => ?_, fun i j d e b h1 => ?_, k.cells, fun j c e => ?_, k.nd⟩
  · by_cases hb : Own s σ b
    · rw [outer_own hb] at e; exact e
    · rw [outer_not hb] at e; exact k.uh b u e
  · by_cases hb : Own s σ b
    · exact (k.own hb).2.1
    · rw [outer_not hb] at e; exact k.uf b u e
  · show (startF N.length ds).length = (L2.start N vs).length
    unfold startF L2.start
    simp [hl]
  · have e : (startF N.length ds)[i]? = some (some (o, d)) := e
    unfold startF at e
    have hi : i < ds.length := by
      by_cases z : i < ds.length
      · exact z
      · rw [List.getElem?_append_right (by simpa using z), List.getElem?_replicate] at e
        split at e <;> cases e
    rw [List.getElem?_append_left (by simpa using hi), List.getElem?_map] at e
    cases q : ds[i]? with
    | none => rw [q] at e; cases e
    | some x =>
      rw [q] at e
      cases e
      obtain ⟨v, e1, e2⟩ := r.get q
      refine ⟨v, ?_, fun _ => e2, fun z => Bool.noConfusion z⟩
      unfold L2.start
      rw [List.getElem?_append_left (by rw [List.length_map]; omega), List.getElem?_map, e1]
      rfl
  · have e : (startF N.length ds)[i]? = some (some (true, d)) := h1
    unfold startF at e
    by_cases z : i < ds.length
    · rw [List.getElem?_append_left (by simpa using z), List.getElem?_map] at e
      cases q : ds[i]? with
      | none => rw [q] at e; cases e
      | some x => rw [q] at e; cases e
    · rw [List.getElem?_append_right (by simpa using z), List.getElem?_replicate] at e
      split at e <;> cases e
  · obtain ⟨a, ea, c1, f, u⟩ := k.cell j c e
    refine ⟨a, ea, c1, f, ?_⟩
    have hb : ¬ Own s σ a := fun h => (k.own h).2.2.2 (List.mem_of_getElem? ea)
    rw [outer_not hb]
    exact u
theorem Ok.leave (k : Ok P w K U F ρ s σ H) {sl' : List (Option (Bool × D))} {mu' : List (Bool × D)} {σ' : L2.St} (x : Nx F ρ H F' ρ' H') (k' : Ok P w K (outer U s σ H) F' ρ' ⟨sl', mu'⟩ σ' H') : Ok P w K U F' ρ' { s with mu := mu' } σ H' := by
  have old : ∀ b u, U b = some u → outer U s σ H b = some u := fun b u e => by
    by_cases hb : Own s σ b
    · have := (k.own hb).2.2.1
      rw [e] at this; cases this
    · rw [outer_not hb]; exact e
  refine ⟨k'.fh, fun b u e => k'.uh b u (old b u e), fun b u e => k'.uf b u (old b u e), k.len, fun i o d e => ?_, k.apart, k'.cells, fun j c e => ?_, k'.nd⟩
  · obtain ⟨v, e1, g1, g2⟩ := k.slot i o d e
    refine ⟨v, e1, fun z => (g1 z).mono x.sub x.pre, fun z => ?_⟩
    obtain ⟨a, ea, n, f, u, c⟩ := g2 z
    subst z
    subst ea
    have ho : Own s σ a := ⟨i, d, e, e1⟩
    obtain ⟨q, hq, _⟩ := n.mut
    have hU : outer U s σ H a = some q := by rw [outer_own ho]; exact hq
    have hH : H' a = H a := (k'.uh a q hU).trans hq.symm
    refine ⟨a, rfl, n.mono x.sub x.pre hH, k'.uf a q hU, u, fun hc => ?_⟩
    obtain ⟨j, hj⟩ := List.mem_iff_getElem?.mp hc
    obtain ⟨_, _, _, _, z⟩ := k'.cell_at hj
    rw [hU] at z; cases z
  · obtain ⟨a, ea, c1, f, u⟩ := k'.cell j c e
    refine ⟨a, ea, c1, f, ?_⟩
    by_cases hb : Own s σ a
    · exact (k.own hb).2.2.1
    · rw [outer_not hb] at u
      exact u
theorem Ok.leaveR (k : Ok P w K U F ρ s σ H) {sl' : List (Option (Bool × D))} {mu' : List (Bool × D)} {σ' : L2.St} (h : Res P w K (outer U s σ H) F' ρ' ⟨sl', mu'⟩ σ' H' v r) : Res P w K U F' ρ' { s with mu := mu' } σ H' v r := by
  refine ⟨h.1, fun z => ?_⟩
  obtain ⟨a, ea, n, f, u, c, _⟩ := h.2 z
  have hb : ¬ Own s σ a := fun q => by
    rw [outer_own q] at u
    obtain ⟨⟨d, nd⟩, _⟩ := k.own q
    obtain ⟨o, ho, _⟩ := nd.mut
    rw [u] at ho; cases ho
  rw [outer_not hb] at u
  exact ⟨a, ea, n, f, u, c, fun i d e q => hb ⟨i, d, e, q⟩⟩
end
end Mn

set_option Elab.async false
set_option linter.all false
set_option maxRecDepth 100000
set_option maxHeartbeats 4000000
/-! ## dicts, by values -/
namespace Mn
open PySem L2 PyProof.Rows

theorem bl_num (b : Bool) : (if b then (1 : Int) else 0) = (if b = true then 1 else 0) := by cases b <;> rfl
section
variable {X : Cx} {pins : List (Addr × Obj)} {σ : L2.St} {U F H : Hp} {ρ : List Addr} {fm : Fm} {τ : L2.St} {s : Shared}
mutual
theorem nis (I : Inv X pins σ H s) (k : Ok X.prog X.w X.K U F ρ fm τ H) : ∀ (d : D) (q : NestedKey) (v : V) (u : Value), Rep X.prog X.w X.K F ρ v d → d.nk = some q → RelV v u → NestedIs s.heap q u
  | .non, q, v, u, h, e, r => by
    cases h; cases r
    simp only [D.nk] at e; cases e
    exact .none
  | .bl b, q, v, u, h, e, r => by
    cases h; cases r
    simp only [D.nk] at e; cases e
    exact .bool (bl_num b)
  | .int i, q, v, u, h, e, r => by
    cases h
    obtain ⟨t, rfl⟩ := r
    simp only [D.nk] at e; cases e
    exact .int _ _
  | .str x, q, v, u, h, e, r => by
    cases h
    obtain ⟨t, rfl⟩ := r
    simp only [D.nk] at e; cases e
    exact .text _ _
  | .tup ds, q, v, u, h, e, r => by
    cases h with
    | tup hs ha =>
      cases r
      simp only [D.nk] at e
      cases e' : nks ds with
      | none => rw [e'] at e; cases e
      | some ks =>
        rw [e'] at e
        cases e
        obtain ⟨its, rv, ⟨o, ho, hc, n, hd⟩, _⟩ := I.tuple (k.t hs)
        exact .tup ho hc hd (by simpa using niss I k ds ks _ its ha e' rv)
  | .lst _, _, _, _, _, e, _ => by simp only [D.nk] at e; cases e
  | .dic _ _, _, _, _, _, e, _ => by simp only [D.nk] at e; cases e
  | .ptr _, _, _, _, _, e, _ => by simp only [D.nk] at e; cases e
theorem niss (I : Inv X pins σ H s) (k : Ok X.prog X.w X.K U F ρ fm τ H) : ∀ (ds : List D) (qs : List NestedKey) (vs : List V) (us : List Value), Reps X.prog X.w X.K F ρ vs ds → nks ds = some qs → Vals vs us → NestedAll s.heap qs us
  | [], qs, vs, us, h, e, r => by
    cases h; cases r
    simp only [nks] at e; cases e
    exact .nil
  | d :: ds, qs, vs, us, h, e, r => by
    cases h with
    | cons h1 h2 =>
      cases r with
      | cons r1 r2 =>
        simp only [nks] at e
        cases e1 : d.nk with
        | none => rw [e1] at e; cases e
        | some q =>
          cases e2 : nks ds with
          | none => rw [e1, e2] at e; cases e
          | some qr =>
            rw [e1, e2] at e
            cases e
            exact .cons (nis I k d q _ _ h1 e1 r1) (niss I k ds qr _ _ h2 e2 r2)
end
theorem ck_n {x : D} {c : CK} (h : x.ck .n = some c) : ∃ (ds : List D) (ks : List NestedKey), x = .tup ds ∧ nks ds = some ks ∧ (NestedKey.tup ks).depth ≤ 8 ∧ c = .n (.tup ks) := by
  cases x with
  | tup ds =>
    simp only [D.ck] at h
    cases e : nks ds with
    | none => rw [e] at h; cases h
    | some ks =>
      rw [e] at h
      by_cases q : (NestedKey.tup ks).depth ≤ 8
      · simp only [if_pos q] at h
        cases h
        exact ⟨ds, ks, rfl, e, q, rfl⟩
      · simp only [if_neg q] at h; cases h
  | _ => simp [D.ck] at h
theorem ck_a {x : D} {c : CK} (h : x.ck .a = some c) : ∃ q, x.atom = some q ∧ c = .a q := by
  simp only [D.ck, Option.map_eq_some_iff] at h
  obtain ⟨q, e, rfl⟩ := h
  exact ⟨q, e, rfl⟩
theorem atom_V {P : Program} {w : World} {K : PySem.W.Frag} {x : D} {q : L2.Key} {v : V} (h : Rep P w K F ρ v x) (e : x.atom = some q) : v = kV q := by
  cases x with
  | int i => cases h; cases e; rfl
  | str x => cases h; cases e; rfl
  | _ => cases e
theorem key_is (I : Inv X pins σ H s) (k : Ok X.prog X.w X.K U F ρ fm τ H) {x : D} {q : NestedKey} {v : V} (h : Rep X.prog X.w X.K F ρ v x) (e : x.ck .n = some (.n q)) : ∃ b, v = .ref b ∧ (nestedKind X.prog X.w).is s.heap q b := by
  obtain ⟨ds, ks, rfl, e1, e2, e3⟩ := ck_n e
  cases e3
  cases h with
  | tup hs ha =>
    have r := nis I k (.tup ds) (.tup ks) _ (.ref _) (.tup hs ha) (by simp only [D.nk, e1]) rfl
    exact ⟨_, rfl, r, e2⟩

/-! ### entries -/
abbrev EX : List (NestedKey × Addr × V) → List (NestedKey × Addr × Value) → Prop := Paired (fun (p : NestedKey × Addr × V) (q : NestedKey × Addr × Value) => p.1 = q.1 ∧ p.2.1 = q.2.1 ∧ RelV p.2.2 q.2.2)
theorem nd_of (I : Inv X pins σ H s) (k : Ok X.prog X.w X.K U F ρ fm τ H) {a : Addr} {es : List (NestedKey × Addr × V)} {kvs : List (D × D)} (e : Rd H a (ND X.prog X.w a es)) (r : RepN X.prog X.w X.K F ρ es kvs) :
    es.length ≤ sizeLine ∧ (a == sysModules) = false ∧ ∃ xs, EX es xs ∧ s.heap.DictOfH (nestedKind X.prog X.w) a xs := by
  obtain ⟨⟨z, y, xs, o, des, ep, px, h1, h2, h3, h4, h5⟩, _, _⟩ : NDok X.prog X.w a es s.heap ∧ _ := (show ObjOk X.prog X.w H s.heap a (ND X.prog X.w a es) from e.ok I.hok)
  refine ⟨z, y, xs, px, o, des, ep, h1, h2, h3, h4, ?_, h5⟩
  have all : ∀ {l : List (NestedKey × Addr × V)} {m : List (NestedKey × Addr × Value)} {kv : List (D × D)}, EX l m → RepN X.prog X.w X.K F ρ l kv → ∀ x ∈ m, (nestedKind X.prog X.w).is s.heap x.1 x.2.1 := by
    intro l m kv q
    induction q generalizing kv with
    | nil => intro _ x hx; exact nomatch hx
    | @cons p q ps qs hq t ih =>
      intro r x hx
      cases r with
      | cons e1 r1 r2 r3 =>
        rcases List.mem_cons.mp hx with e | hx
        · subst e
          obtain ⟨b, eb, hb⟩ := key_is I k r1 e1
          cases eb
          rw [← hq.1, ← hq.2.1]
          exact hb
        · exact ih r3 x hx
  exact all px r
/-- found alike -/
theorem RepN.find {P : Program} {w : World} {K : PySem.W.Frag} {q : NestedKey} : ∀ {es : List (NestedKey × Addr × V)} {kvs : List (D × D)} {xs : List (NestedKey × Addr × Value)}, RepN P w K F ρ es kvs → EX es xs →
    (dfind .n (.n q) kvs = none ∧ atKey xs q = none) ∨ ∃ d p v, dfind .n (.n q) kvs = some d ∧ atKey xs q = some p ∧ RelV v p.2 ∧ Rep P w K F ρ v d
  | _, _, _, .nil, .nil => .inl ⟨rfl, rfl⟩
  | _, _, _, .cons (k := k) (kd := kd) (d := d) (s := sr) e r1 r2 r3, .cons (b := y) (l₂ := ys) h t => by
    by_cases c : k = q
    · refine .inr ⟨d, y.2, _, ?_, ?_, h.2.2, r2⟩
      · subst c; simp only [dfind, e, if_pos]
      · have h1 : k = y.1 := h.1
        have c' : y.1 = q := by rw [← h1]; exact c
        simp [atKey, List.find?_cons, c']
    · have e1 : dfind .n (.n q) ((kd, d) :: sr) = dfind .n (.n q) sr := by
        simp only [dfind, e]
        rw [if_neg]
        intro z
        cases z
        exact c rfl
      have e2 : atKey (y :: ys) q = atKey ys q := by
        have h1 : k = y.1 := h.1
        have c' : ¬ y.1 = q := by rw [← h1]; exact c
        simp [atKey, List.find?_cons, c']
      rw [e1, e2]
      exact RepN.find r3 t
theorem RepN.repl {P : Program} {w : World} {K : PySem.W.Frag} {q : NestedKey} {vd : D} {v : V} {u : Value} (rv : Rep P w K F ρ v vd) (ru : RelV v u) : ∀ {es : List (NestedKey × Addr × V)} {kvs : List (D × D)} {xs : List (NestedKey × Addr × Value)}, RepN P w K F ρ es kvs → EX es xs →
    ∃ es', es'.length = es.length ∧ RepN P w K F ρ es' (kvs.map (fun p => if p.1.ck .n = some (.n q) then (p.1, vd) else p)) ∧ EX es' (xs.map (putAt q u))
  | _, _, _, .nil, .nil => ⟨[], rfl, .nil, .nil⟩
  | _, _, _, .cons (k := k) (b := b) (v := v0) (kd := kd) (d := d) (r := er) (s := sr) e r1 r2 r3, .cons (b := y) (l₂ := ys) h t => by
    obtain ⟨es', hl, h1, h2⟩ := RepN.repl rv ru (q := q) r3 t
    by_cases c : k = q
    · refine ⟨(k, b, v) :: es', by simp [hl], ?_, ?_⟩
      · rw [List.map_cons, if_pos (by rw [e, c])]
        exact .cons e r1 rv h1
      · rw [List.map_cons]
        refine .cons ?_ h2
        have hy : k = y.1 := h.1
        unfold putAt
        rw [if_pos (by rw [← hy]; exact c)]
        exact ⟨h.1, h.2.1, ru⟩
    · refine ⟨(k, b, v0) :: es', by simp [hl], ?_, ?_⟩
      · rw [List.map_cons, if_neg (by rw [e]; intro z; cases z; exact c rfl)]
        exact .cons e r1 r2 h1
      · rw [List.map_cons]
        refine .cons ?_ h2
        have hy : k = y.1 := h.1
        unfold putAt
        rw [if_neg (by rw [← hy]; exact c)]
        exact h
theorem RepN.snoc {P : Program} {w : World} {K : PySem.W.Frag} {q : NestedKey} {x vd : D} {b : Addr} {v : V} (e : x.ck .n = some (.n q)) (rx : Rep P w K F ρ (.ref b) x) (rv : Rep P w K F ρ v vd) : ∀ {es : List (NestedKey × Addr × V)} {kvs : List (D × D)}, RepN P w K F ρ es kvs →
    RepN P w K F ρ (es ++ [(q, b, v)]) (kvs ++ [(x, vd)])
  | _, _, .nil => .cons e rx rv .nil
  | _, _, .cons e1 r1 r2 r3 => .cons e1 r1 r2 (RepN.snoc e rx rv r3)
theorem RepN.length {P : Program} {w : World} {K : PySem.W.Frag} : ∀ {es : List (NestedKey × Addr × V)} {kvs : List (D × D)}, RepN P w K F ρ es kvs → es.length = kvs.length
  | _, _, .nil => rfl
  | _, _, .cons _ _ _ r => by rw [List.length_cons, List.length_cons, r.length]
theorem RepA.length {P : Program} {w : World} {K : PySem.W.Frag} : ∀ {es : List (L2.Key × V)} {kvs : List (D × D)}, RepA P w K F ρ es kvs → es.length = kvs.length
  | _, _, .nil => rfl
  | _, _, .cons _ _ r => by rw [List.length_cons, List.length_cons, r.length]
theorem ckA {x : D} {k : L2.Key} (e : x.atom = some k) : x.ck .a = some (.a k) := by simp only [D.ck, e, Option.map_some]
theorem RepA.find {P : Program} {w : World} {K : PySem.W.Frag} {q : L2.Key} : ∀ {ks : List (L2.Key × V)} {kvs : List (D × D)}, RepA P w K F ρ ks kvs →
    (dfind .a (.a q) kvs = none ∧ valV ks q = none) ∨ ∃ d v, dfind .a (.a q) kvs = some d ∧ valV ks q = some v ∧ Rep P w K F ρ v d
  | _, _, .nil => .inl ⟨rfl, rfl⟩
  | _, _, .cons (k := k) (kd := kd) (d := d) (s := sr) e r2 r3 => by
    by_cases c : k = q
    · refine .inr ⟨d, _, ?_, valV_pos c, r2⟩
      simp only [dfind, ckA e, c, if_pos]
    · have e1 : dfind .a (.a q) ((kd, d) :: sr) = dfind .a (.a q) sr := by
        simp only [dfind, ckA e]
        rw [if_neg]
        intro z
        cases z
        exact c rfl
      rw [e1, valV_neg c]
      exact RepA.find r3
theorem RepA.repl {P : Program} {w : World} {K : PySem.W.Frag} {q : L2.Key} {vd : D} {v : V} (rv : Rep P w K F ρ v vd) : ∀ {ks : List (L2.Key × V)} {kvs : List (D × D)}, RepA P w K F ρ ks kvs →
    RepA P w K F ρ (ks.map fun kv => if kv.1 = q then (kv.1, v) else kv) (kvs.map (fun p => if p.1.ck .a = some (.a q) then (p.1, vd) else p))
  | _, _, .nil => .nil
  | _, _, .cons (k := k) (v := v0) (kd := kd) (d := d) e r2 r3 => by
    rw [List.map_cons, List.map_cons]
    by_cases c : k = q
    · rw [if_pos c, if_pos (by rw [ckA e, c])]
      exact .cons e rv (RepA.repl rv r3)
    · rw [if_neg c, if_neg (by rw [ckA e]; intro z; cases z; exact c rfl)]
      exact .cons e r2 (RepA.repl rv r3)
theorem RepA.snoc {P : Program} {w : World} {K : PySem.W.Frag} {q : L2.Key} {x vd : D} {v : V} (e : x.atom = some q) (rv : Rep P w K F ρ v vd) : ∀ {es : List (L2.Key × V)} {kvs : List (D × D)}, RepA P w K F ρ es kvs →
    RepA P w K F ρ (es ++ [(q, v)]) (kvs ++ [(x, vd)])
  | _, _, .nil => .cons e rv .nil
  | _, _, .cons e1 r2 r3 => .cons e1 r2 (RepA.snoc e rv r3)
theorem RepA.put {P : Program} {w : World} {K : PySem.W.Frag} {q : L2.Key} {x vd : D} {v : V} (e : x.atom = some q) (rv : Rep P w K F ρ v vd) {ks : List (L2.Key × V)} {kvs : List (D × D)} (r : RepA P w K F ρ ks kvs) :
    RepA P w K F ρ (putK ks q v) (dput1 .a (.a q) x vd kvs) := by
  have ha : (ks.any fun kv => decide (kv.1 = q)) = (dfind .a (.a q) kvs).isSome := by
    rw [valV_any]
    rcases r.find (q := q) with ⟨h1, h2⟩ | ⟨d, v, h1, h2, _⟩
    · rw [h1, h2]; rfl
    · rw [h1, h2]; rfl
  unfold putK dput1
  rw [ha]
  split
  · exact r.repl rv
  · exact r.snoc e rv

section
variable {a : Addr} {kvs : List (D × D)} {A : Around} {E : Value → Shared → Prop} {v y : V} {x d : D} {u : Value} {kd : Kd}
/-- d[y], there -/
theorem v_get {Q : Value → Shared → Prop} (hu : A.units + 16 < cLine) (I : Inv X pins σ H s) (k : Ok X.prog X.w X.K U F ρ fm τ H) (at_ : At X.prog X.w X.K F ρ H v (.dic kd kvs)) (rx : Rep X.prog X.w X.K F ρ y x)
    (hd : dget kd kvs x = some (some d)) (ry : RelV y u) (h : ∀ v' w' s', Inv X pins σ H s' → RelV v' w' → Rep X.prog X.w X.K F ρ v' d → Q w' s') : ∃ b, v = .ref b ∧ wpAny (model X.prog X.w) A (getItem (.ref b) u) Q E s := by
  unfold dget at hd
  cases kd with
  | a =>
    obtain ⟨b, ks, rfl, e, r⟩ := at_
    refine ⟨b, rfl, ?_⟩
    split at hd
    · rename_i c hc
      obtain ⟨q, eq, rfl⟩ := ck_a hc
      cases atom_V rx eq
      have hd' := Option.some.inj hd
      rcases r.find (q := q) with ⟨h1, _⟩ | ⟨d', v', h1, h2, h3⟩
      · rw [hd'] at h1; cases h1
      · rw [hd'] at h1; cases h1
        exact d_getItem (by omega) I (v := v') (.inl ⟨ks, q, e, rfl, h2.symm⟩) ry fun w' s' I' r' => h v' w' s' I' r' h3
    · cases hd
  | n =>
    obtain ⟨b, es, rfl, e, r⟩ := at_
    refine ⟨b, rfl, ?_⟩
    split at hd
    · rename_i c hc
      obtain ⟨ds, ks, rfl, _, _, rfl⟩ := ck_n hc
      obtain ⟨z, hm, xs, px, dd⟩ := nd_of I k e r
      obtain ⟨b', eb, hb⟩ := key_is I k rx hc
      subst eb
      cases ry
      have hd' := Option.some.inj hd
      rcases r.find px (q := .tup ks) with ⟨h1, _⟩ | ⟨d', p, v', h1, h2, h3, h4⟩
      · rw [hd'] at h1; cases h1
      · rw [hd'] at h1; cases h1
        refine wpAny_getItem_heap (show A.in1.units + 8 < cLine by show A.units + 1 + 8 < cLine; omega) hb dd h2 ?_
        exact h v' p.2 _ (I.tok _) h3 h4
    · cases hd
theorem v_in {Q : Value → Shared → Prop} {r : Option D} (hu : A.units + 16 < cLine) (I : Inv X pins σ H s) (k : Ok X.prog X.w X.K U F ρ fm τ H) (at_ : At X.prog X.w X.K F ρ H v (.dic kd kvs)) (rx : Rep X.prog X.w X.K F ρ y x)
    (hd : dget kd kvs x = some r) (ry : RelV y u) (neg : Bool) (h : ∀ s', Inv X pins σ H s' → Q (.bool (if neg then !r.isSome else r.isSome)) s') : ∃ b, v = .ref b ∧ wpAny (model X.prog X.w) A (compareOp (if neg then .NotIn else .In) u (.ref b)) Q E s := by
  unfold dget at hd
  cases kd with
  | a =>
    obtain ⟨b, ks, rfl, e, rr⟩ := at_
    refine ⟨b, rfl, ?_⟩
    split at hd
    · rename_i c hc
      obtain ⟨q, eq, rfl⟩ := ck_a hc
      cases atom_V rx eq
      cases hd
      have g : DGet H b (kV q) (valV ks q) := .inl ⟨ks, q, e, rfl, rfl⟩
      have es : (valV ks q).isSome = (dfind .a (.a q) kvs).isSome := by
        rcases rr.find (q := q) with ⟨h1, h2⟩ | ⟨d', v', h1, h2, _⟩
        · rw [h1, h2]; rfl
        · rw [h1, h2]; rfl
      cases neg with
      | false =>
        refine d_in (by omega) I g ry fun s' I' => ?_
        have := h s' I'
        rw [← es] at this
        exact this
      | true =>
        refine d_notIn (by omega) I g ry fun s' I' => ?_
        have := h s' I'
        rw [← es] at this
        exact this
    · cases hd
  | n =>
    obtain ⟨b, es, rfl, e, rr⟩ := at_
    refine ⟨b, rfl, ?_⟩
    split at hd
    · rename_i c hc
      obtain ⟨ds, ks, rfl, _, _, rfl⟩ := ck_n hc
      obtain ⟨z, hm, xs, px, dd⟩ := nd_of I k e rr
      obtain ⟨b', eb, hb⟩ := key_is I k rx hc
      subst eb
      cases ry
      cases hd
      have es : (atKey xs (.tup ks)).isSome = (dfind .n (.n (.tup ks)) kvs).isSome := by
        rcases rr.find px (q := .tup ks) with ⟨h1, h2⟩ | ⟨d', p, v', h1, h2, _⟩
        · rw [h1, h2]; rfl
        · rw [h1, h2]; rfl
      have hr : (nestedKind X.prog X.w).room A.in1 := show A.in1.units + 8 < cLine by show A.units + 1 + 8 < cLine; omega
      cases neg with
      | false =>
        refine wpAny_in_heap hr hb hm dd ?_
        rw [es]
        exact h _ (I.tok _)
      | true =>
        refine wpAny_notIn_heap hr hb hm dd ?_
        rw [es]
        exact h _ (I.tok _)
    · cases hd
/-- d[y] = v2 -/
theorem v_put {Q : Unit → Shared → Prop} {kvs' : List (D × D)} {v2 : V} {u2 : Value} {d2 : D} (hu : A.units + 16 < cLine) (I : Inv X pins σ H s) (k : Ok X.prog X.w X.K U F ρ fm τ H) (n : NodeAt X.prog X.w X.K F ρ H a (.dic kd kvs)) (hF : F a = none) (rx : Rep X.prog X.w X.K F ρ y x)
    (rv : Rep X.prog X.w X.K F ρ v2 d2) (hd : dput kd kvs x d2 = some kvs') (ry : RelV y u) (r2 : RelV v2 u2) (h : ∀ o s', NodeAt X.prog X.w X.K F ρ (upd H a o) a (.dic kd kvs') → Inv X pins σ (upd H a o) s' → Q () s') :
    wpAny (model X.prog X.w) A (setItem (.ref a) u u2) Q E s := by
  unfold dput at hd
  have hL : (LIM : Nat) < sizeLine := by rw [sizeLine_eq]; decide
  cases kd with
  | a =>
    obtain ⟨ks, e, r⟩ := n
    split at hd
    · rename_i c hc
      obtain ⟨q, eq, rfl⟩ := ck_a hc
      cases atom_V rx eq
      split at hd
      · rename_i hl
        cases hd
        have hlk : ks.length < sizeLine := by have := r.length; omega
        refine d_setItem (by omega) I (.k e hlk) ry r2 fun s' I' => h _ s' ⟨_, upd_same, r.put eq rv⟩ I'
      · cases hd
    · cases hd
  | n =>
    obtain ⟨es, e, r⟩ := n
    split at hd
    · rename_i c hc
      obtain ⟨ds, ks, rfl, _, _, rfl⟩ := ck_n hc
      split at hd
      · rename_i hl
        cases hd
        obtain ⟨z, hm, xs, px, dd⟩ := nd_of I k (.inl e) r
        obtain ⟨b', eb, hb⟩ := key_is I k rx hc
        subst eb
        cases ry
        have hr : (nestedKind X.prog X.w).room A.in1 := show A.in1.units + 8 < cLine by show A.units + 1 + 8 < cLine; omega
        have hlk : xs.length ≤ sizeLine := by have := r.length; have := px.length; omega
        obtain ⟨es', hle, hR, hX⟩ : ∃ es', es'.length ≤ es.length + 1 ∧ RepN X.prog X.w X.K F ρ es' (dput1 .n (.n (.tup ks)) (.tup ds) d2 kvs) ∧ EX es' (storedH xs (.tup ks) b' u2) := by
          unfold dput1 storedH
          rcases r.find px (q := .tup ks) with ⟨h1, h2⟩ | ⟨d', p, v', h1, h2, _⟩
          · rw [h1, h2]
            exact ⟨es ++ [(.tup ks, b', v2)], by simp, r.snoc hc rx rv, Paired.snoc px ⟨rfl, rfl, r2⟩⟩
          · rw [h1, h2]
            obtain ⟨es', g1, g2, g3⟩ := r.repl rv r2 (q := .tup ks) px
            exact ⟨es', by omega, g2, g3⟩
        refine wpAny_setItem_heap (hsz := hlk) hr hb dd fun h' dd' hs => ?_
        obtain ⟨o', des, ep, hq, h2, h3, h4, _, h5⟩ := dd'
        refine h (ND X.prog X.w a es') _ ⟨es', upd_same, hR⟩ ?_
        refine d_write I (by rw [e]; exact True.intro) hs ⟨o', hq⟩ ⟨⟨?_, hm, _, o', des, ep, hX, hq, h2, h3, h4, h5⟩, ⟨o', hq⟩, ?_⟩
        · have := r.length; omega
        · rintro g1 g2 ⟨z1, z2, xs1, o1, des1, ep1, q1, q2, q3⟩ hk
          exact ⟨z1, z2, xs1, o1, des1, ep1, q1, hk _ q2, q3⟩
      · cases hd
    · cases hd
end
end
end Mn

set_option Elab.async false
set_option linter.all false
set_option maxRecDepth 100000
set_option maxHeartbeats 4000000
/-! ## operations, by values -/
namespace Mn
open PySem L2 PyProof.Rows

/-- what is wanted behind an operation -/
def VQ (P : Program) (w : World) (K : PySem.W.Frag) (U F : Hp) (ρ : List Addr) (fm : Fm) (τ : L2.St) (H : Hp) (q : Bool × D) (Q : VK) : Prop :=
  ∀ v F' ρ' H', Nx F ρ H F' ρ' H' → Ok P w K U F' ρ' fm τ H' → Res P w K U F' ρ' fm τ H' v q → Q v H'
section
variable {P : Program} {w : World} {K : PySem.W.Frag} {U F H : Hp} {ρ : List Addr} {fm : Fm} {τ : L2.St} {q : Bool × D} {Q : VK} {v : V} {d : D} {p : Addr} {o : HO}
theorem VQ.val (h : VQ P w K U F ρ fm τ H (false, d) Q) (k : Ok P w K U F ρ fm τ H) (r : Rep P w K F ρ v d) : Q v H := h v F ρ H (.refl _ _ _) k (.val r)
theorem VQ.newF (h : VQ P w K U F ρ fm τ H (false, d) Q) (k : Ok P w K U F ρ fm τ H) (hp : H p = none) (r : Rep P w K (upd F p o) ρ (.ref p) d) : Q (.ref p) (upd H p o) :=
  h _ _ _ _ (.newF (k.noF hp) hp) (k.newF hp) (.val r)
theorem VQ.newO (h : VQ P w K U F ρ fm τ H (true, d) Q) (k : Ok P w K U F ρ fm τ H) (hp : H p = none) (n : NodeAt P w K F ρ (upd H p o) p d) : Q (.ref p) (upd H p o) :=
  h _ _ _ _ (.newO hp) (k.newO hp) (k.resO hp n)
theorem VQ.newTup {vs : List V} {ds : List D} (h : VQ P w K U F ρ fm τ H (false, .tup ds) Q) (k : Ok P w K U F ρ fm τ H) (hp : H p = none) (r : Reps P w K F ρ vs ds) : Q (.ref p) (upd H p (.tup vs)) :=
  h.newF k hp (.tup (.of upd_same) (r.mono (.new (k.noF hp)) (.refl _)))
theorem VQ.newLst {vs : List V} {ds : List D} (h : VQ P w K U F ρ fm τ H (true, .lst ds) Q) (k : Ok P w K U F ρ fm τ H) (hp : H p = none) (r : Reps P w K F ρ vs ds) : Q (.ref p) (upd H p (.lst vs)) :=
  h.newO k hp ⟨vs, upd_same, r⟩
theorem lim_line {n : Nat} (h : n ≤ LIM) : n ≤ sizeLine := by rw [sizeLine_eq]; unfold LIM at h; omega
theorem lim_lt {n : Nat} (h : n < LIM) : n < sizeLine := by rw [sizeLine_eq]; unfold LIM at h; omega
end

def opOf : Bop → Operator
  | .add => .Add | .sub => .Sub | .mul => .Mult | .fdiv => .FloorDiv | .mod => .Mod | .and => .BitAnd | .or => .BitOr | .xor => .BitXor | .shl => .LShift | .shr => .RShift | .pow => .Pow

def rB (P : Program) (w : World) (K : PySem.W.Frag) (o : Bop) : R2 := fun x y H Q => ∃ U F ρ fm τ dx dy q, Ok P w K U F ρ fm τ H ∧ Rep P w K F ρ x dx ∧ Rep P w K F ρ y dy ∧ bop o dx dy = some q ∧ VQ P w K U F ρ fm τ H q Q
section
variable {X : Cx}
theorem log_small {j : Int} (h0 : 0 < j) (h1 : j < 2 ^ 64) : CDivW 0 j := by
  refine ⟨h0, ?_⟩
  have h2 : j.natAbs < 2 ^ 64 := by omega
  have := (Nat.log2_lt (by omega : j.natAbs ≠ 0)).mpr h2
  omega
theorem mul_small {i j : Int} (h : i.natAbs < 2 ^ 64 ∨ j.natAbs < 2 ^ 64) : CMul i j := by
  rcases h with h | h
  · exact .inl (by constructor <;> omega)
  · exact .inr (by constructor <;> omega)
theorem or_bop {o : Bop} : OpR X (binaryOp (opOf o)) (rB X.prog X.w X.K o) := by
  intro pins s σ H x y v u Q I rx ry h
  obtain ⟨U, F, ρ, fm, τ, dx, dy, q, k, hx, hy, e, vq⟩ := h
  unfold bop at e
  split at e
  · cases e; cases hx; cases hy
    exact op_add pins s σ H _ _ v u Q I rx ry ⟨_, _, rfl, rfl, vq.val k (.int _)⟩
  · split at e
    · rename_i hl
      cases e; cases hx; cases hy
      exact op_add_str pins s σ H _ _ v u Q I rx ry ⟨_, _, rfl, rfl, lim_line hl, vq.val k (.str _)⟩
    · cases e
  · split at e
    · rename_i hl
      cases e
      cases hx with
      | tup h1 r1 =>
        cases hy with
        | tup h2 r2 =>
          refine op_catA pins s σ H _ _ v u Q I rx ry ⟨_, _, _, _, rfl, rfl, k.t h1, k.t h2, by rw [r1.length, r2.length]; exact lim_line hl, fun z => ?_, fun _ z => ?_, fun _ _ p hp => vq.newTup k hp (r1.append r2)⟩
          · subst z
            cases r1
            exact vq.val k (.tup h2 r2)
          · subst z
            cases r2
            rw [List.append_nil] at vq
            exact vq.val k (.tup h1 r1)
    · cases e
  · cases e; cases hx; cases hy
    exact op_sub pins s σ H _ _ v u Q I rx ry ⟨_, _, rfl, rfl, vq.val k (.int _)⟩
  · split at e
    · rename_i hl
      cases e; cases hx; cases hy
      exact op_mul pins s σ H _ _ v u Q I rx ry ⟨_, _, rfl, rfl, mul_small hl, vq.val k (.int _)⟩
    · cases e
  · split at e
    · rename_i hl
      cases e; cases hx; cases hy
      exact op_fdivW pins s σ H _ _ v u Q I rx ry ⟨_, _, rfl, rfl, log_small hl.1 hl.2, vq.val k (.int _)⟩
    · cases e
  · split at e
    · rename_i hl
      cases e; cases hx; cases hy
      exact op_mod pins s σ H _ _ v u Q I rx ry ⟨_, _, rfl, rfl, hl, vq.val k (.int _)⟩
    · cases e
  · cases e; cases hx; cases hy
    exact op_and pins s σ H _ _ v u Q I rx ry ⟨_, _, rfl, rfl, vq.val k (.int _)⟩
  · cases e; cases hx; cases hy
    exact op_or pins s σ H _ _ v u Q I rx ry ⟨_, _, rfl, rfl, vq.val k (.int _)⟩
  · cases e; cases hx; cases hy
    exact op_xor pins s σ H _ _ v u Q I rx ry ⟨_, _, rfl, rfl, vq.val k (.int _)⟩
  · cases e
/-- in place: ints and texts -/
def rIB (P : Program) (w : World) (K : PySem.W.Frag) (o : Bop) : R2 := fun x y H Q => (o = .add ∨ o = .sub ∨ o = .mul) ∧ (∀ a : Addr, x ≠ .ref a) ∧ rB P w K o x y H Q
theorem or_iop {o : Bop} : OpR X (inplaceOp (opOf o)) (rIB X.prog X.w X.K o) := by
  intro pins s σ H x y v u Q I rx ry h
  obtain ⟨ho, nr, U, F, ρ, fm, τ, dx, dy, q, k, hx, hy, e, vq⟩ := h
  unfold bop at e
  split at e
  · cases e; cases hx; cases hy
    exact iop_add pins s σ H _ _ v u Q I rx ry ⟨_, _, rfl, rfl, vq.val k (.int _)⟩
  · split at e
    · rename_i hl
      cases e; cases hx; cases hy
      exact iop_add_str pins s σ H _ _ v u Q I rx ry ⟨_, _, rfl, rfl, lim_line hl, vq.val k (.str _)⟩
    · cases e
  · cases hx
    exact absurd rfl (nr _)
  · cases e; cases hx; cases hy
    exact iop_sub pins s σ H _ _ v u Q I rx ry ⟨_, _, rfl, rfl, vq.val k (.int _)⟩
  · split at e
    · rename_i hl
      cases e; cases hx; cases hy
      exact iop_mul pins s σ H _ _ v u Q I rx ry ⟨_, _, rfl, rfl, mul_small hl, vq.val k (.int _)⟩
    · cases e
  all_goals first | (cases e; done) | (rcases ho with z | z | z <;> cases z)

/-! ### data as the library's data -/
variable {U F H : Hp} {ρ : List Addr} {fm : Fm} {τ : L2.St} {pins : List (Addr × Obj)} {σ : L2.St} {s : Shared}
mutual
theorem Ok.dp (k : Ok X.prog X.w X.K U F ρ fm τ H) : ∀ (d : D) (v : V) (p : PyData), Rep X.prog X.w X.K F ρ v d → d.py = some p → Dp X.K H v p
  | .non, v, p, h, e => by cases h; simp only [D.py] at e; cases e; exact .non
  | .bl b, v, p, h, e => by cases h; simp only [D.py] at e; cases e; exact .bl _
  | .int i, v, p, h, e => by cases h; simp only [D.py] at e; cases e; exact .int _
  | .str x, v, p, h, e => by cases h; simp only [D.py] at e; cases e; exact .str _
  | .tup ds, v, p, h, e => by
    cases h with
    | tup hs r =>
      simp only [D.py] at e
      cases e1 : pys ds with
      | none => rw [e1] at e; cases e
      | some ps =>
        rw [e1] at e; cases e
        exact .tup (k.t hs) (Ok.dps k ds _ ps r e1)
  | .lst ds, v, p, h, e => by
    cases h with
    | lst hs r =>
      simp only [D.py] at e
      cases e1 : pys ds with
      | none => rw [e1] at e; cases e
      | some ps =>
        rw [e1] at e; cases e
        exact .lst (k.l hs) (Ok.dps k ds _ ps r e1)
  | .dic _ _, _, _, _, e => by simp only [D.py] at e; cases e
  | .ptr _, _, _, _, e => by simp only [D.py] at e; cases e
theorem Ok.dps (k : Ok X.prog X.w X.K U F ρ fm τ H) : ∀ (ds : List D) (vs : List V) (ps : List PyData), Reps X.prog X.w X.K F ρ vs ds → pys ds = some ps → DpAll X.K H vs ps
  | [], v, p, h, e => by cases h; simp only [pys] at e; cases e; exact .nil
  | d :: ds, v, p, h, e => by
    cases h with
    | cons h1 h2 =>
      simp only [pys] at e
      cases e1 : d.py with
      | none => rw [e1] at e; cases e
      | some q =>
        cases e2 : pys ds with
        | none => rw [e1, e2] at e; cases e
        | some qs =>
          rw [e1, e2] at e; cases e
          exact .cons (Ok.dp k d _ q h1 e1) (Ok.dps k ds _ qs h2 e2)
end
/-- contents -/
theorem Ok.atp (k : Ok X.prog X.w X.K U F ρ fm τ H) {d : D} {v : V} {p : PyData} (h : At X.prog X.w X.K F ρ H v d) (e : d.py = some p) : Dp X.K H v p := by
  cases d with
  | non => cases (show v = .non from h); simp only [D.py] at e; cases e; exact .non
  | bl b => cases (show v = .bl b from h); simp only [D.py] at e; cases e; exact .bl _
  | int i => cases (show v = .int i from h); simp only [D.py] at e; cases e; exact .int _
  | str x => cases (show v = .str x from h); simp only [D.py] at e; cases e; exact .str _
  | tup ds =>
    obtain ⟨a, vs, rfl, hs, r⟩ := h
    simp only [D.py] at e
    cases e1 : pys ds with
    | none => rw [e1] at e; cases e
    | some ps => rw [e1] at e; cases e; exact .tup hs (k.dps ds _ ps r e1)
  | lst ds =>
    obtain ⟨a, vs, rfl, hs, r⟩ := h
    simp only [D.py] at e
    cases e1 : pys ds with
    | none => rw [e1] at e; cases e
    | some ps => rw [e1] at e; cases e; exact .lst hs (k.dps ds _ ps r e1)
  | dic _ _ => simp only [D.py] at e; cases e
  | ptr _ => simp only [D.py] at e; cases e
theorem flat_rep {P : Program} {w : World} {K : PySem.W.Frag} {v : V} {d : D} (h : Rep P w K F ρ v d) (f : flatD d = true) : flatV v = true := by
  cases h <;> first | rfl | cases f
theorem flat_reps {P : Program} {w : World} {K : PySem.W.Frag} : ∀ {vs : List V} {ds : List D}, Reps P w K F ρ vs ds → ds.all flatD = true → vs.all flatV = true
  | _, _, .nil, _ => rfl
  | _, _, .cons h r, f => by
    rw [List.all_cons, Bool.and_eq_true] at f ⊢
    exact ⟨flat_rep h f.1, flat_reps r f.2⟩
theorem eqF_rep {P : Program} {w : World} {K : PySem.W.Frag} {v y : V} {d e : D} (h : Rep P w K F ρ v d) (g : Rep P w K F ρ y e) (f1 : flatD d = true) (f2 : flatD e = true) : eqV v y = eqF d e := by
  cases h <;> first | (cases f1; done) | (cases g <;> first | rfl | cases f2)
theorem inF_rep {P : Program} {w : World} {K : PySem.W.Frag} {y : V} {e : D} (g : Rep P w K F ρ y e) (f2 : flatD e = true) : ∀ {vs : List V} {ds : List D}, Reps P w K F ρ vs ds → ds.all flatD = true → inV y vs = inF e ds
  | _, _, .nil, _ => rfl
  | _, _, .cons h r, f => by
    rw [List.all_cons, Bool.and_eq_true] at f
    have ih := inF_rep g f2 r f.2
    unfold inV inF at ih ⊢
    rw [List.any_cons, List.any_cons, eqF_rep h g f.1 f2, ih]
theorem At.flat {P : Program} {w : World} {K : PySem.W.Frag} {v : V} {d : D} (h : At P w K F ρ H v d) (f : flatD d = true) : Rep P w K F ρ v d := by
  cases d with
  | non => cases (show v = .non from h); exact .non
  | bl b => cases (show v = .bl b from h); exact .bl _
  | int i => cases (show v = .int i from h); exact .int _
  | str x => cases (show v = .str x from h); exact .str _
  | _ => cases f

/-- a comparison of contents; its left side, where it is to be found in a dict, is handed on -/
def rC (P : Program) (w : World) (K : PySem.W.Frag) (o : CmpOp) : R2 := fun x y H Q => ∃ U F ρ fm τ dx dy r, Ok P w K U F ρ fm τ H ∧ At P w K F ρ H x dx ∧ At P w K F ρ H y dy ∧ ((∃ k kvs, dy = .dic k kvs) → Rep P w K F ρ x dx) ∧ cmpD o dx dy = some r ∧ Q (.bl r) H
theorem or_cmp {o : CmpOp} (hu : X.A.units + 66 < cLine) : OpR X (compareOp o) (rC X.prog X.w X.K o) := by
  intro pins s σ H x y v u Q I rx ry h
  obtain ⟨U, F, ρ, fm, τ, dx, dy, r, k, hx, hy, hh, e, q⟩ := h
  have eq_ : ∀ {r : Bool}, eqD dx dy = some r → ∃ p1 p2, Dp X.K H x p1 ∧ Dp X.K H y p2 ∧ SeqAt.shaped p1 = true ∧ SeqAt.shaped p2 = true ∧ PyData.eqv p1 p2 = r := by
    intro r e
    unfold eqD at e
    split at e
    · rename_i p1 p2 e1 e2
      split at e
      · rename_i hs
        cases e
        exact ⟨p1, p2, k.atp hx e1, k.atp hy e2, hs.1, hs.2, rfl⟩
      · cases e
    · cases e
  unfold cmpD at e
  split at e
  · obtain ⟨p1, p2, h1, h2, h3, h4, h5⟩ := eq_ e
    exact op_eqD (by omega) pins s σ H x y v u Q I rx ry ⟨p1, p2, h1, h2, h3, h4, by rw [h5]; exact q⟩
  · split at e
    · rename_i r' e'
      cases e
      obtain ⟨p1, p2, h1, h2, h3, h4, h5⟩ := eq_ e'
      exact op_neD (by omega) pins s σ H x y v u Q I rx ry ⟨p1, p2, h1, h2, h3, h4, by rw [h5]; exact q⟩
    · cases e
  · cases e
    exact op_lt pins s σ H x y v u Q I rx ry ⟨_, _, hx, hy, q⟩
  · cases e
    exact op_le pins s σ H x y v u Q I rx ry ⟨_, _, hx, hy, q⟩
  · cases e
    exact op_gt pins s σ H x y v u Q I rx ry ⟨_, _, hx, hy, q⟩
  · cases e
    exact op_ge pins s σ H x y v u Q I rx ry ⟨_, _, hx, hy, q⟩
  · cases e
    cases (show y = .non from hy)
    refine op_isN pins s σ H x _ v u Q I rx ry ⟨rfl, ?_⟩
    cases dx with
    | non => cases (show x = .non from hx); exact q
    | bl b => cases (show x = .bl b from hx); exact q
    | int i => cases (show x = .int i from hx); exact q
    | str z => cases (show x = .str z from hx); exact q
    | tup ds => obtain ⟨_, _, rfl, _⟩ := hx; exact q
    | lst ds => obtain ⟨_, _, rfl, _⟩ := hx; exact q
    | dic k' _ => cases k' <;> (obtain ⟨_, _, rfl, _⟩ := hx; exact q)
    | ptr _ => obtain ⟨_, rfl, _⟩ := hx; exact q
  · cases e
    cases (show y = .non from hy)
    refine op_notN pins s σ H x _ v u Q I rx ry ⟨rfl, ?_⟩
    cases dx with
    | non => cases (show x = .non from hx); exact q
    | bl b => cases (show x = .bl b from hx); exact q
    | int i => cases (show x = .int i from hx); exact q
    | str z => cases (show x = .str z from hx); exact q
    | tup ds => obtain ⟨_, _, rfl, _⟩ := hx; exact q
    | lst ds => obtain ⟨_, _, rfl, _⟩ := hx; exact q
    | dic k' _ => cases k' <;> (obtain ⟨_, _, rfl, _⟩ := hx; exact q)
    | ptr _ => obtain ⟨_, rfl, _⟩ := hx; exact q
  · cases e
    exact op_isBl pins s σ H x y v u Q I rx ry ⟨_, _, hx, hy, q⟩
  · cases e
    exact op_notBl pins s σ H x y v u Q I rx ry ⟨_, _, hx, hy, q⟩
  · rename_i ds
    unfold anyD at e
    split at e
    · rename_i p1 ps e1 e2
      split at e
      · rename_i hs
        cases e
        exact op_inD (by omega) pins s σ H x y v u Q I rx ry ⟨p1, ps, k.atp hx e1, k.atp hy (by simp only [D.py, e2]), hs.1, hs.2, q⟩
      · cases e
    · cases e
  · rename_i ds
    split at e
    · rename_i r' e'
      cases e
      unfold anyD at e'
      split at e'
      · rename_i p1 ps e1 e2
        split at e'
        · rename_i hs
          cases e'
          exact op_notInD (by omega) pins s σ H x y v u Q I rx ry ⟨p1, ps, k.atp hx e1, k.atp hy (by simp only [D.py, e2]), hs.1, hs.2, q⟩
        · cases e'
      · cases e'
    · cases e
  · split at e
    · rename_i hf
      cases e
      obtain ⟨a, vs, rfl, hs, rr⟩ := hy
      have hx' := hx.flat hf.1
      refine op_in_seq pins s σ H x _ v u Q I rx ry ⟨a, vs, rfl, .inr hs, flat_rep hx' hf.1, flat_reps rr hf.2, ?_⟩
      rw [inF_rep hx' hf.1 rr hf.2]
      exact q
    · cases e
  · split at e
    · rename_i hf
      cases e
      obtain ⟨a, vs, rfl, hs, rr⟩ := hy
      have hx' := hx.flat hf.1
      refine op_notIn_seq pins s σ H x _ v u Q I rx ry ⟨a, vs, rfl, .inr hs, flat_rep hx' hf.1, flat_reps rr hf.2, ?_⟩
      rw [inF_rep hx' hf.1 rr hf.2]
      exact q
    · cases e
  · rename_i kd kvs
    split at e
    · rename_i r' e'
      cases e
      obtain ⟨b, rfl, h⟩ := v_in (Q := EP X pins σ Q) (E := X.xe) (A := X.A) (by omega) I k hy (hh ⟨kd, kvs, rfl⟩) e' rx false fun s' I' => ⟨.bl _, H, I', rfl, q⟩
      cases ry
      exact h
    · cases e
  · rename_i kd kvs
    split at e
    · rename_i r' e'
      cases e
      obtain ⟨b, rfl, h⟩ := v_in (Q := EP X pins σ Q) (E := X.xe) (A := X.A) (by omega) I k hy (hh ⟨kd, kvs, rfl⟩) e' rx true fun s' I' => ⟨.bl _, H, I', rfl, q⟩
      cases ry
      exact h
    · cases e
  · cases e
end
end Mn

set_option Elab.async false
set_option linter.all false
set_option maxRecDepth 100000
set_option maxHeartbeats 4000000
/-! ## places, slices, built-ins, methods, stores, by values -/
namespace Mn
open PySem L2 PyProof.Rows
section
variable {X : Cx} {U F H : Hp} {ρ : List Addr} {fm : Fm} {τ : L2.St} {pins : List (Addr × Obj)} {σ : L2.St} {s : Shared}

def rNeg (P : Program) (w : World) (K : PySem.W.Frag) : V → Hp → VK → Prop := fun x H Q => ∃ U F ρ fm τ i, Ok P w K U F ρ fm τ H ∧ Rep P w K F ρ x (.int i) ∧ VQ P w K U F ρ fm τ H (false, .int (-i)) Q
theorem or_neg : UnR X (unaryOp .USub) (rNeg X.prog X.w X.K) := by
  intro pins s σ H x v Q I rx h
  obtain ⟨U, F, ρ, fm, τ, i, k, hx, vq⟩ := h
  cases hx
  exact un_neg pins s σ H _ v Q I rx ⟨_, rfl, vq.val k (.int _)⟩

theorem dic_type (I : Inv X pins σ H s) (k : Ok X.prog X.w X.K U F ρ fm τ H) {v : V} {kd : Kd} {kvs : List (D × D)} (h : At X.prog X.w X.K F ρ H v (.dic kd kvs)) :
    ∃ b, v = .ref b ∧ s.TypeIs (.ref b) "dict" ∧ (∀ c, Value.ref b = .ref c → ∃ ob, s.heap.get? c = some ob ∧ ob.dict = none) ∧ (b == sysModules) = false := by
  cases kd with
  | a =>
    obtain ⟨b, ks, rfl, e, r⟩ := h
    obtain ⟨_, hd, vs, _, dd⟩ := dk_rd I.hok e
    refine ⟨b, rfl, dd.typeIs, fun c q => ?_, hd⟩
    cases q
    obtain ⟨ob, _, _, h1, h2, _⟩ := dd
    exact ⟨ob, h1, h2.2.1⟩
  | n =>
    obtain ⟨b, es, rfl, e, r⟩ := h
    obtain ⟨_, hd, xs, _, dd⟩ := nd_of I k e r
    refine ⟨b, rfl, dd.typeIs, fun c q => ?_, hd⟩
    cases q
    obtain ⟨ob, _, _, h1, h2, _⟩ := dd
    exact ⟨ob, h1, h2.2.1⟩

def rI (P : Program) (w : World) (K : PySem.W.Frag) : R2 := fun x y H Q => ∃ U F ρ fm τ dx dy d, Ok P w K U F ρ fm τ H ∧ At P w K F ρ H x dx ∧ Rep P w K F ρ y dy ∧ ixD dx dy = some d ∧ VQ P w K U F ρ fm τ H (false, d) Q
theorem atI_reps {P : Program} {w : World} {K : PySem.W.Frag} {vs : List V} {ds : List D} {i : Int} {d : D} (r : Reps P w K F ρ vs ds) (h : atI ds i = some d) : ∃ v, atI vs i = some v ∧ Rep P w K F ρ v d := by
  unfold atI at h ⊢
  rw [r.length]
  cases e : ixN ds.length i with
  | none => rw [e] at h; cases h
  | some j =>
    rw [e] at h
    obtain ⟨v, h1, h2⟩ := r.get (show ds[j]? = some d from h)
    exact ⟨v, h1, h2⟩
theorem or_ix (hu : X.A.units + 66 < cLine) : IxR X (rI X.prog X.w X.K) := by
  intro value slice pins s σ H x y v u Q I rx ry h hs
  obtain ⟨U, F, ρ, fm, τ, dx, dy, d, k, hx, hy, e, vq⟩ := h
  unfold ixD at e
  split at e
  · obtain ⟨a, vs, rfl, hq, r⟩ := hx
    cases hy
    obtain ⟨z, h1, h2⟩ := atI_reps r e
    exact ix_tup value slice pins s σ H _ _ v u Q I rx ry ⟨a, vs, _, z, rfl, rfl, hq, h1, vq.val k h2⟩ hs
  · obtain ⟨a, vs, rfl, hq, r⟩ := hx
    cases hy
    obtain ⟨z, h1, h2⟩ := atI_reps r e
    exact ix_list value slice pins s σ H _ _ v u Q I rx ry ⟨a, vs, _, z, rfl, rfl, hq, h1, vq.val k h2⟩ hs
  · split at e
    · rename_i hl
      cases (show x = .str _ from hx)
      cases hy
      split at e
      · rename_i c hc
        cases e
        exact ix_str value slice pins s σ H _ _ v u Q I rx ry ⟨_, _, c, rfl, rfl, lim_line hl, hc, vq.val k (.str _)⟩ hs
      · cases e
    · cases e
  · rename_i kd kvs
    split at e
    · rename_i r' e'
      subst e
      obtain ⟨b, rfl, ht, hn, hm⟩ := dic_type I k hx
      obtain ⟨b', eb, hg⟩ := v_get (Q := EP X pins σ Q) (E := X.xe) (A := X.A) (by omega) I k hx hy e' ry fun v' w' s' I' r' rp => ⟨v', H, I', r', vq.val k rp⟩
      cases eb
      cases rx
      exact tail_any (ops := [.ref b, u]) ht PySem.F.slot_dict_getitem.lookup hg hs
    · cases e
  · cases e
def rS (P : Program) (w : World) (K : PySem.W.Frag) : V → Option Int → Option Int → Hp → VK → Prop := fun x lo hi H Q => ∃ U F ρ fm τ dx q, Ok P w K U F ρ fm τ H ∧ At P w K F ρ H x dx ∧ slD dx lo hi = some q ∧ VQ P w K U F ρ fm τ H q Q
theorem cut_reps {P : Program} {w : World} {K : PySem.W.Frag} {vs : List V} {ds : List D} (r : Reps P w K F ρ vs ds) (lo hi : Option Int) : Reps P w K F ρ (cutV vs lo hi) (cutD ds lo hi) := by
  unfold cutV cutD
  rw [r.length]
  exact (r.drop _).take _
/-- a tuple that is looked at is frozen -/
def rST (P : Program) (w : World) (K : PySem.W.Frag) : V → Option Int → Option Int → Hp → VK → Prop := fun x lo hi H Q => ∃ U F ρ fm τ dx q, Ok P w K U F ρ fm τ H ∧ At P w K F ρ H x dx ∧ ((∃ ds, dx = .tup ds) → Rep P w K F ρ x dx) ∧ slD dx lo hi = some q ∧ VQ P w K U F ρ fm τ H q Q
theorem or_sl : SlR X (rST X.prog X.w X.K) := by
  intro pins s σ H x v vl vu lo hi sl Q I rx hs pl pu h
  obtain ⟨U, F, ρ, fm, τ, dx, q, k, hx, hr, e, vq⟩ := h
  unfold slD at e
  split at e
  · rename_i ds0
    cases e
    have rp := hr ⟨_, rfl⟩
    obtain ⟨a, vs, rfl, hq, r⟩ := hx
    refine sl_tupA pins s σ H _ v vl vu lo hi sl Q I rx hs pl pu ⟨a, vs, rfl, hq, fun z => ?_, fun _ p hp => vq.newTup k hp (cut_reps r lo hi)⟩
    have ec : cutD ds0 lo hi = ds0 := by
      unfold cutD
      rw [r.length] at z
      rw [z.1, z.2, List.drop_zero, Nat.sub_zero, List.take_length]
    rw [ec] at vq
    exact vq.val k rp
  · cases e
    obtain ⟨a, vs, rfl, hq, r⟩ := hx
    exact sl_list pins s σ H _ v vl vu lo hi sl Q I rx hs pl pu ⟨a, vs, rfl, hq, fun p hp => vq.newLst k hp (cut_reps r lo hi)⟩
  · cases e

/-! ### contents of several values -/
inductive Ats (P : Program) (w : World) (K : PySem.W.Frag) (F : Hp) (ρ : List Addr) (H : Hp) : List V → List D → Prop
  | nil : Ats P w K F ρ H [] []
  | cons {v : V} {d : D} {vs : List V} {ds : List D} : At P w K F ρ H v d → Ats P w K F ρ H vs ds → Ats P w K F ρ H (v :: vs) (d :: ds)
theorem bls_reps {P : Program} {w : World} {K : PySem.W.Frag} : ∀ {ds : List D} {bs : List Bool} {vs : List V}, blsD ds = some bs → Reps P w K F ρ vs ds → vs = bs.map V.bl
  | [], bs, vs, e, r => by cases r; cases e; rfl
  | .bl b :: ds, bs, vs, e, r => by
    simp only [blsD] at e
    cases e1 : blsD ds with
    | none => rw [e1] at e; cases e
    | some cs =>
      rw [e1] at e; cases e
      cases r with
      | cons h r =>
        cases h
        rw [bls_reps e1 r]
        rfl
  | .non :: _, _, _, e, _ => by simp [blsD] at e
  | .int _ :: _, _, _, e, _ => by simp [blsD] at e
  | .str _ :: _, _, _, e, _ => by simp [blsD] at e
  | .tup _ :: _, _, _, e, _ => by simp [blsD] at e
  | .lst _ :: _, _, _, e, _ => by simp [blsD] at e
  | .dic _ _ :: _, _, _, e, _ => by simp [blsD] at e
  | .ptr _ :: _, _, _, e, _ => by simp [blsD] at e
def bltN : Blt → String
  | .len => "len" | .list => "list" | .tuple => "tuple" | .int => "int" | .str => "str" | .min2 => "min" | .max2 => "max" | .sum => "sum" | .any => "any" | .all => "all" | .sorted => "sorted" | .dict => "dict" | .max1 => "max"
def rF (P : Program) (w : World) (K : PySem.W.Frag) (b : Blt) : List V → Hp → VK → Prop := fun xs H Q => ∃ U F ρ fm τ ds q, Ok P w K U F ρ fm τ H ∧ Ats P w K F ρ H xs ds ∧ bltD b ds = some q ∧ VQ P w K U F ρ fm τ H q Q
/-- the built-in functions -/
theorem or_fun {b : Blt} (hb : b = .len ∨ b = .min2 ∨ b = .max2 ∨ b = .any ∨ b = .all) (hc : X.calm = true) : CallR X (.builtin (bltN b)) (rF X.prog X.w X.K b) := by
  intro pins s σ H xs us Q I rx h
  obtain ⟨U, F, ρ, fm, τ, ds, q, k, hx, e, vq⟩ := h
  unfold bltD at e
  split at e
  · cases e
    cases hx with
    | cons h hr =>
      cases hr
      obtain ⟨a, vs, rfl, hq, r⟩ := h
      refine call_len_seq pins s σ H _ us Q I rx ⟨a, vs, rfl, .inl hq, ?_⟩
      rw [r.length]
      exact vq.val k (.int _)
  · cases e
    cases hx with
    | cons h hr =>
      cases hr
      obtain ⟨a, vs, rfl, hq, r⟩ := h
      refine call_len_seq pins s σ H _ us Q I rx ⟨a, vs, rfl, .inr hq, ?_⟩
      rw [r.length]
      exact vq.val k (.int _)
  · split at e
    · rename_i hl
      cases e
      cases hx with
      | cons h hr =>
        cases hr
        cases (show _ = V.str _ from h)
        exact call_len_str pins s σ H _ us Q I rx ⟨_, rfl, lim_line hl, vq.val k (.int _)⟩
    · cases e
  · rcases hb with z | z | z | z | z <;> cases z
  · rcases hb with z | z | z | z | z <;> cases z
  · rcases hb with z | z | z | z | z <;> cases z
  · rcases hb with z | z | z | z | z <;> cases z
  · rcases hb with z | z | z | z | z <;> cases z
  · rcases hb with z | z | z | z | z <;> cases z
  · cases e
    cases hx with
    | cons h hr =>
      cases hr with
      | cons h2 hr =>
        cases hr
        cases (show _ = V.int _ from h)
        cases (show _ = V.int _ from h2)
        exact call_min2 hc pins s σ H _ us Q I rx ⟨_, _, rfl, vq.val k (.int _)⟩
  · cases e
    cases hx with
    | cons h hr =>
      cases hr with
      | cons h2 hr =>
        cases hr
        cases (show _ = V.int _ from h)
        cases (show _ = V.int _ from h2)
        exact call_max2 hc pins s σ H _ us Q I rx ⟨_, _, rfl, vq.val k (.int _)⟩
  · split at e
    · rename_i bs hbs
      cases e
      cases hx with
      | cons h hr =>
        cases hr
        obtain ⟨a, vs, rfl, hq, r⟩ := h
        cases bls_reps hbs r
        exact cr_any hc pins s σ H _ us Q I rx ⟨a, bs, rfl, hq, vq.val k (.bl _)⟩
    · cases e
  · split at e
    · rename_i bs hbs
      cases e
      cases hx with
      | cons h hr =>
        cases hr
        obtain ⟨a, vs, rfl, hq, r⟩ := h
        cases bls_reps hbs r
        exact cr_all hc pins s σ H _ us Q I rx ⟨a, bs, rfl, hq, vq.val k (.bl _)⟩
    · cases e
  · cases e
/-- a tuple that is handed on is frozen -/
def rFT (P : Program) (w : World) (K : PySem.W.Frag) (b : Blt) : List V → Hp → VK → Prop := fun xs H Q => ∃ U F ρ fm τ ds q, Ok P w K U F ρ fm τ H ∧ Ats P w K F ρ H xs ds ∧ ((∃ x es, xs = [x] ∧ ds = [.tup es]) → ∃ x es, xs = [x] ∧ ds = [.tup es] ∧ Rep P w K F ρ x (.tup es)) ∧ bltD b ds = some q ∧ VQ P w K U F ρ fm τ H q Q
/-- the built-in types -/
theorem or_type {b : Blt} (hb : b = .list ∨ b = .tuple ∨ b = .int) : CallR X (.type (bltN b)) (rFT X.prog X.w X.K b) := by
  intro pins s σ H xs us Q I rx h
  obtain ⟨U, F, ρ, fm, τ, ds, q, k, hx, ht, e, vq⟩ := h
  unfold bltD at e
  split at e
  · rcases hb with z | z | z <;> cases z
  · rcases hb with z | z | z <;> cases z
  · rcases hb with z | z | z <;> cases z
  · cases e
    cases hx with
    | cons h hr =>
      cases hr
      obtain ⟨a, vs, rfl, hq, r⟩ := h
      exact call_list_of pins s σ H _ us Q I rx ⟨a, vs, rfl, .inl hq, fun l hl => vq.newLst k hl r⟩
  · cases e
    cases hx with
    | cons h hr =>
      cases hr
      obtain ⟨a, vs, rfl, hq, r⟩ := h
      exact call_list_of pins s σ H _ us Q I rx ⟨a, vs, rfl, .inr hq, fun l hl => vq.newLst k hl r⟩
  · cases e
    cases hx with
    | cons h hr =>
      cases hr
      obtain ⟨a, vs, rfl, hq, r⟩ := h
      exact call_tuple_of pins s σ H _ us Q I rx ⟨a, vs, rfl, .inl ⟨hq, fun l hl => vq.newTup k hl r⟩⟩
  · cases e
    cases hx with
    | cons h hr =>
      cases hr
      obtain ⟨x, es, e1, e2, rp⟩ := ht ⟨_, _, rfl, rfl⟩
      cases e1; cases e2
      obtain ⟨a, vs, rfl, hq, r⟩ := h
      exact call_tuple_of pins s σ H _ us Q I rx ⟨a, vs, rfl, .inr ⟨hq, vq.val k rp⟩⟩
  · cases e
    cases hx with
    | cons h hr =>
      cases hr
      cases (show _ = V.int _ from h)
      exact call_int1 pins s σ H _ us Q I rx (.inl ⟨_, rfl, vq.val k (.int _)⟩)
  · cases e
    cases hx with
    | cons h hr =>
      cases hr
      cases (show _ = V.bl _ from h)
      exact call_int1 pins s σ H _ us Q I rx (.inr ⟨_, rfl, vq.val k (.int _)⟩)
  · rcases hb with z | z | z <;> cases z
  · rcases hb with z | z | z <;> cases z
  · rcases hb with z | z | z <;> cases z
  · rcases hb with z | z | z <;> cases z
  · cases e

/-! ### isinstance of a built-in type -/
theorem kit_at (I : Inv X pins σ H s) (k : Ok X.prog X.w X.K U F ρ fm τ H) {v : V} {d : D} {u : Value} (h : At X.prog X.w X.K F ρ H v d) (r : RelV v u) (hp : ∀ j, d ≠ .ptr j) :
    ∃ Pp : Heap → Prop, PySem.W.KitX X.K u (.type (tyD d)) Pp ∧ Pp s.heap ∧ u ≠ .builtin "__main__.__loader__#opaque" := by
  cases d with
  | non => cases (show v = .non from h); cases (show u = Value.none from r); exact ⟨_, PySem.W.kitx_none, True.intro, fun z => nomatch z⟩
  | bl b => cases (show v = .bl b from h); cases (show u = Value.bool b from r); exact ⟨_, PySem.W.kitx_bool, True.intro, fun z => nomatch z⟩
  | int i => cases (show v = .int i from h); obtain ⟨t, q⟩ := (show ∃ t, u = Value.int i t from r); cases q; exact ⟨_, PySem.W.kitx_int, True.intro, fun z => nomatch z⟩
  | str y => cases (show v = .str y from h); obtain ⟨t, q⟩ := (show ∃ t, u = Value.str y t from r); cases q; exact ⟨_, PySem.W.kitx_str, True.intro, fun z => nomatch z⟩
  | tup ds =>
    obtain ⟨a, vs, rfl, hq, _⟩ := h
    cases r
    obtain ⟨its, _, ⟨o, h1, h2, _⟩, _⟩ := I.tuple hq
    exact ⟨_, PySem.W.kitx_tuple, ⟨o, h1, h2⟩, fun z => nomatch z⟩
  | lst ds =>
    obtain ⟨a, vs, rfl, hq, _⟩ := h
    cases r
    obtain ⟨its, _, ⟨o, n, h1, h2, _⟩, _⟩ := I.list hq
    exact ⟨_, PySem.W.kitx_list, ⟨o, h1, h2⟩, fun z => nomatch z⟩
  | dic kd kvs =>
    obtain ⟨b, rfl, ⟨o, h1, h2⟩, _, _⟩ := dic_type I k h
    cases r
    exact ⟨_, PySem.W.kitx_dict, ⟨o, h1, h2⟩, fun z => nomatch z⟩
  | ptr j => exact absurd rfl (hp j)
def isiS (T a : String) : Bool := if a == "bool" then T == "bool" || T == "int" else a == T
theorem isi_kit0 : ∀ a ∈ ["NoneType", "bool", "int", "str", "tuple", "list", "dict"], ∀ T ∈ ["bool", "int", "str", "tuple", "list", "dict"], kitB a T = some (isiS T a) := by decide +kernel
theorem isi_kit (K : PySem.W.Frag) (T : String) (hT : T ∈ ["bool", "int", "str", "tuple", "list", "dict"]) (d : D) (hp : ∀ j, d ≠ .ptr j) : PySem.W.kitOne K (.type (tyD d)) (.type T) = some (isiD T d) := by
  have e : isiD T d = isiS T (tyD d) := by
    have e2 : ∀ {a b : String}, (a == b) = (b == a) := fun {a b} => by
      by_cases h : a = b
      · subst h; rfl
      · rw [beq_eq_false_iff_ne.mpr h, beq_eq_false_iff_ne.mpr (Ne.symm h)]
    cases d with
    | ptr j => exact absurd rfl (hp j)
    | non =>
      show false = ("NoneType" == T)
      simp only [List.mem_cons, List.not_mem_nil, or_false] at hT
      rcases hT with rfl | rfl | rfl | rfl | rfl | rfl <;> rfl
    | bl b => rfl
    | int b => exact e2
    | str b => exact e2
    | tup b => exact e2
    | lst b => exact e2
    | dic b c => exact e2
  rw [e]
  refine kit_ty (isi_kit0 _ ?_ _ hT)
  cases d <;> simp [tyD]
  exact absurd rfl (hp _)
def rIs (P : Program) (w : World) (K : PySem.W.Frag) (T : String) : List V → Hp → VK → Prop := fun xs H Q => ∃ U F ρ fm τ x d, Ok P w K U F ρ fm τ H ∧ At P w K F ρ H x d ∧ (∀ j, d ≠ .ptr j) ∧ xs = [x, .ty T] ∧ Q (.bl (isiD T d)) H
theorem or_isi {T : String} (hT : T ∈ ["bool", "int", "str", "tuple", "list", "dict"]) : CallR X (.builtin "isinstance") (rIs X.prog X.w X.K T) := by
  intro pins s σ H xs us Q I rx h
  obtain ⟨U, F, ρ, fm, τ, x, d, k, hx, hp, rfl, q⟩ := h
  obtain ⟨u1, u2, rfl, r1, r2⟩ := vals2 rx
  cases (show u2 = Value.type T from r2)
  obtain ⟨Pp, Z, p, hn⟩ := kit_at I k hx r1 hp
  exact PySem.W.kia_one Z I.kIn p (isi_kit X.K T hT d hp) hn fun tk => ⟨.bl _, H, I.tok tk, rfl, q⟩

/-! ### truth -/
theorem or_tru : TruR X (fun x H Q => ∃ U F ρ fm τ d b, Ok X.prog X.w X.K U F ρ fm τ H ∧ At X.prog X.w X.K F ρ H x d ∧ truD d = some b ∧ Q b H) := by
  intro pins s σ H x v Q I rx h
  obtain ⟨U, F, ρ, fm, τ, d, b, k, hx, e, q⟩ := h
  refine tru_ok pins s σ H x v Q I rx ⟨b, ?_, q⟩
  have emp : ∀ {vs : List V} {ds : List D}, Reps X.prog X.w X.K F ρ vs ds → (!ds.isEmpty) = !vs.isEmpty := fun r => by cases r <;> rfl
  cases d with
  | non => cases (show x = .non from hx); cases e; exact rfl
  | bl c => cases (show x = .bl c from hx); cases e; exact rfl
  | int i => cases (show x = .int i from hx); cases e; exact rfl
  | lst ds =>
    obtain ⟨a, vs, rfl, hq, r⟩ := hx
    cases e
    exact .inl ⟨vs, hq, emp r⟩
  | tup ds =>
    obtain ⟨a, vs, rfl, hq, r⟩ := hx
    cases e
    exact .inr (.inl ⟨vs, hq, emp r⟩)
  | _ => cases e

/-! ### o[i] = v -/
def rSet (P : Program) (w : World) (K : PySem.W.Frag) : TSet := fun o i v H Q => ∃ U F ρ fm τ p x y d z fm', Ok P w K U F ρ fm τ H ∧ RefAt P w K U F ρ fm τ H o p ∧ Rep P w K F ρ i y ∧ Rep P w K F ρ v d ∧ fm.rd p = some x ∧ setD x y d = some z ∧ fm.wr p z = some fm' ∧
  ∀ H', Nx F ρ H F ρ H' → Ok P w K U F ρ fm' τ H' → Q H'
theorem or_set (hu : X.A.units + 66 < cLine) : PSet X (rSet X.prog X.w X.K) := by
  intro pins s σ H o i v ov iv u Q I ro ri rv h
  obtain ⟨U, F, ρ, fm, τ, p, x, y, d, z, fm', k, hp, hi, hv, e1, e2, e3, q⟩ := h
  obtain ⟨a, x', rfl, e4, hF, n, wr⟩ := k.wr hp e3
  rw [e1] at e4; cases e4
  unfold setD at e2
  split at e2
  · split at e2
    · rename_i j hj
      cases e2
      cases hi
      obtain ⟨vs, hl, r⟩ := n
      refine set_list pins s σ H _ _ v ov iv u Q I ro ri rv ⟨a, vs, _, j, rfl, rfl, hl, by rw [r.length]; exact hj, ?_⟩
      obtain ⟨k', x'⟩ := wr (.lst (vs.set j v)) ⟨_, upd_same, r.set hv j⟩
      exact q _ x' k'
    · cases e2
  · split at e2
    · rename_i kvs' he
      cases e2
      cases ro
      refine v_put (A := X.A) (by omega) I k n hF hi hv he ri rv fun o' s' n' I' => ?_
      obtain ⟨k', x'⟩ := wr o' n'
      exact ⟨_, I', q _ x' k'⟩
    · cases e2
  · cases e2
end
end Mn

set_option Elab.async false
set_option linter.all false
set_option maxRecDepth 100000
set_option maxHeartbeats 4000000
/-! ## the text against the small language -/
namespace Mn
open PySem L2 PyProof.Rows

def mthN : Mth → Str
  | .append => "append" | .pop => "pop" | .popAt => "pop" | .index => "index" | .extend => "extend" | .get1 => "get" | .get2 => "get" | .popKey => "pop" | .popKey2 => "pop"
structure Sta where
  N : List Str
  sc : Scope
  fn : Str → Bool

structure Tb where
  fns : List Fn
  con : List (Str × D)
  /-- the class that is raised; how a try is written -/
  exc : Option Str := none
  tryS : Sta → Nat → Nat → Stmt → Option (List Expr × Str) := fun _ _ _ _ => none
def shp : Expr → Bool
  | .Name .. => true | .Constant .. => true | .Tuple .. => true | .List .. => true | .Dict .. => true | .BinOp .. => true | .UnaryOp .. => true | .Compare .. => true
  | .BoolOp .. => true | .IfExp .. => true | .Subscript .. => true | .Call .. => true | .ListComp .. => true
  | _ => false
def isLc : Expr → Bool
  | .ListComp .. => true
  | _ => false
def isC0 : Expr → Bool
  | .Call (.Name ..) [] [] _ => true
  | _ => false
def plainT : Expr → Bool
  | .UnaryOp .. => false | .BoolOp .. => false | .IfExp .. => false | .Compare .. => false
  | _ => true
def visB (sc : Scope) (x : Str) : Bool := match sc.names.lookup x with
  | some .local => true | some .cell => true | some .free => true
  | _ => false
def locB (sc : Scope) (x : Str) : Bool := match sc.names.lookup x with
  | some .local => true | some .cell => true
  | _ => false
def glB (sc : Scope) (x : Str) : Bool := match sc.names.lookup x with
  | some .globalImplicit => true
  | _ => false
def notIf : Expr → Bool
  | .IfExp .. => false
  | .UnaryOp .USub _ _ => false
  | _ => true
def isTup : Expr → Bool
  | .Tuple .. => true
  | _ => false
/-- the swap of a comprehension stored at a name -/
def swB (sc : Scope) (x : Expr) (y : Str) (p : Pos) : Bool := match x with
  | .ListComp _ _ scope pos => (match sc.names.lookup y with | some .local => true | _ => false) && p.line == pos.line && !(scope.names.any fun (n, k) => n == y && (k == .local || k == .cell))
  | _ => false
/-- a slot may be stored -/
def stB (S : Sta) (i : Nat) (id : Str) : Bool := decide (S.N[i]? = some id) && (match S.sc.names.lookup id with
  | some .local => true
  | some .cell => S.fn id
  | _ => false)
def okN (x : Str) : Bool := !(x == "__debug__") && !(x == "__classdict__")

section
variable {env : PySem.Env} {x : Expr} {xs : List Expr}
theorem shp_star (h : shp x = true) : starEach (x :: xs) env = (false, eval x env) :: starEach xs env := by cases x <;> first | rfl | cases h
theorem shp_fold (h : shp x = true) (v : Value) : foldedSetIterable x env v = pure v := by cases x <;> first | rfl | cases h
theorem shp_mark (h : shp x = true) (op : CmpOp) : behindInMarks op x = false := by cases x <;> first | rfl | cases h
theorem shp_ix (h : shp x = true) (o i : Value) : subscripted x false o i = operate [o, i] (getItem o i) := by cases x <;> first | rfl | cases h
theorem shp_aug (h : shp x = true) (ov iv new : Value) : augStore x ov iv new = (do holding [new, ov, iv] (setItem ov iv new); release [new, ov, iv] []; pure .next) := by cases x <;> first | rfl | cases h
theorem lc_sw (h : isLc x = false) (hs : shp x = true) (t : Option Expr) (l : Nat) : swapsWith x t l env = pure false := by cases x <;> first | (cases h; done) | (cases hs; done) | rfl
theorem c0_base (h : isC0 x = false) (nm : Str) (wh : Sem Value) : attributeBase x nm env wh = wh := by
  cases x with
  | Call f args kws pos =>
    cases f with
    | Name id p =>
      cases args with
      | nil =>
        cases kws with
        | nil => cases h
        | cons a b => rfl
      | cons a b => rfl
    | _ => rfl
  | _ => rfl
theorem plain_true (h : plainT x = true) (hs : shp x = true) (wh : Sem Value) : isTrue x env wh = (do let v ← wh; standAt x.pos; holding [v] (truthy v)) := by cases x <;> first | rfl | cases h | cases hs
theorem subs_sw {o i : Expr} {p : Pos} (l : Nat) (x : Expr) : swapsWith x (some (.Subscript o i p)) l env = pure false := by
  cases x <;> rfl
end

mutual
/-- the same data (no dicts) -/
def D.same : D → D → Bool
  | .non, .non => true
  | .bl a, .bl b => a == b
  | .int a, .int b => a == b
  | .str a, .str b => decide (a = b)
  | .tup a, .tup b => sames a b
  | .lst a, .lst b => sames a b
  | _, _ => false
def sames : List D → List D → Bool
  | [], [] => true
  | a :: r, b :: q => a.same b && sames r q
  | _, _ => false
end
mutual
theorem D.same_eq : ∀ {a b : D}, a.same b = true → a = b
  | .non, b, h => by cases b <;> first | rfl | (simp only [D.same] at h; cases h)
  | .bl a, b, h => by cases b <;> first | (simp only [D.same, beq_iff_eq] at h; rw [h]) | (simp only [D.same] at h; cases h)
  | .int a, b, h => by cases b <;> first | (simp only [D.same, beq_iff_eq] at h; rw [h]) | (simp only [D.same] at h; cases h)
  | .str a, b, h => by cases b <;> first | (simp only [D.same, decide_eq_true_eq] at h; rw [h]) | (simp only [D.same] at h; cases h)
  | .tup a, b, h => by cases b <;> first | (simp only [D.same] at h; rw [sames_eq h]) | (simp only [D.same] at h; cases h)
  | .lst a, b, h => by cases b <;> first | (simp only [D.same] at h; rw [sames_eq h]) | (simp only [D.same] at h; cases h)
  | .dic _ _, b, h => by cases b <;> (simp only [D.same] at h; cases h)
  | .ptr _, b, h => by cases b <;> (simp only [D.same] at h; cases h)
theorem sames_eq : ∀ {a b : List D}, sames a b = true → a = b
  | [], b, h => by cases b <;> first | rfl | (simp only [sames] at h; cases h)
  | a :: r, b, h => by
    cases b with
    | nil => simp only [sames] at h; cases h
    | cons b q =>
      simp only [sames, Bool.and_eq_true] at h
      rw [D.same_eq h.1, sames_eq h.2]
end
def ownN (N : List Str) (own : List Nat) : List (Str × Nat) := own.filterMap fun i => (N[i]?).map fun id => (id, i)
mutual
def subT : Tg → List Nat → Bool
  | .name i, own => own.contains i
  | .tup ts, own => subTs ts own
def subTs : Tgs → List Nat → Bool
  | .nil, _ => true
  | .cons t ts, own => subT t own && subTs ts own
end
mutual
def chkG : Tg → Sta → Expr → Bool
  | .name i, S, x => match x with
    | .Name id _ => stB S i id
    | _ => false
  | .tup ts, S, x => match x with
    | .Tuple xs _ _ => chkGs ts S xs
    | _ => false
def chkGs : Tgs → Sta → List Expr → Bool
  | .nil, _, xs => xs.isEmpty
  | .cons t ts, S, xs => match xs with
    | x :: r => chkG t S x && chkGs ts S r
    | [] => false
end
/-- the scope within a comprehension -/
def Sta.blk (S : Sta) (scope : Scope) : Sta := ⟨S.N, relS scope S.sc, fun x => scope.names.lookup x == some .cell⟩
def lenEs : Es → Nat
  | .nil => 0
  | .cons _ es => lenEs es + 1
mutual
def chk (T : Tb) : E → Sta → Expr → Bool
  | .var i, S, x => match x with
    | .Name id _ => decide (S.N[i]? = some id) && visB S.sc id && okN id
    | _ => false
  | .cst d, S, x => match x with
    | .Constant c _ _ => match c, d with
      | .none, .non => true
      | .bool b, .bl b' => b == b'
      | .int i, .int i' => i == i'
      | .str s, .str s' => decide (s = s')
      | _, _ => false
    | _ => false
  | .glo y d, S, x => match x with
    | .Name id _ => decide (id = y) && glB S.sc id && okN id && (match T.con.lookup y with
      | some d' => d'.same d
      | none => false)
    | _ => false
  | .tup es, S, x => match x with
    | .Tuple xs _ _ => chks T es S xs
    | _ => false
  | .lst es, S, x => match x with
    | .List xs _ => chks T es S xs
    | _ => false
  | .dic0 k, S, x => match x with
    | .Dict [] [] _ => true
    | _ => false
  | .dic1 k a b, S, x => match x with
    | .Dict [some y] [z] _ => decide (k = .n) && chk T a S y && chk T b S z
    | _ => false
  | .newc e, S, x => plainT x && chk T e S x
  | .op o a b, S, x => match x with
    | .BinOp y p z _ => decide (p = opOf o) && chk T a S y && chk T b S z
    | _ => false
  | .neg a, S, x => match x with
    | .UnaryOp .USub y _ => chk T a S y
    | _ => false
  | .cmp o a b, S, x => match x with
    | .Compare y [p] [z] _ => decide (p = o) && chk T a S y && chk T b S z
    | _ => false
  | .chn o o' a b c, S, x => match x with
    | .Compare y [p, p'] [z, u] _ => decide (p = o) && decide (p' = o') && chk T a S y && chk T b S z && chk T c S u
    | _ => false
  | .and es, S, x => match x with
    | .BoolOp .And xs _ => !xs.isEmpty && chks T es S xs && xs.all notIf
    | _ => false
  | .or es, S, x => match x with
    | .BoolOp .Or xs _ => !xs.isEmpty && chks T es S xs && xs.all notIf
    | _ => false
  | .not a, S, x => match x with
    | .UnaryOp .Not y _ => chk T a S y && notIf y
    | _ => false
  | .ite c a b, S, x => match x with
    | .IfExp z y u _ => chk T c S z && notIf z && chk T a S y && chk T b S u
    | _ => false
  | .ix a i, S, x => match x with
    | .Subscript y z _ => chk T a S y && chk T i S z
    | _ => false
  | .sl a lo hi, S, x => match x with
    | .Subscript y (.Slice l h none _) _ => chk T a S y && chko T lo S l && chko T hi S h
    | _ => false
  | .call f es, S, x => match x with
    | .Call (.Name id _) xs [] _ => glB S.sc id && okN id && (match T.fns[f]? with
      | some g => decide (g.name = id) && decide (xs.length = g.np) && decide (0 < xs.length)
      | none => false) && chks T es S xs
    | _ => false
  | .blt b es, S, x => match x with
    | .Call (.Name id _) xs [] _ => glB S.sc id && okN id && decide (id = Str.ofString (bltN b)) && decide (b ∈ [Blt.len, .list, .tuple, .int, .min2, .max2, .any, .all]) && !xs.isEmpty && chks T es S xs
    | _ => false
  | .isi ty e, S, x => match x with
    | .Call (.Name id _) [y, .Name t _] [] _ => glB S.sc id && decide (id = "isinstance") && decide (t = Str.ofString ty) && glB S.sc t && okN t && decide (ty ∈ ["bool", "int", "str", "tuple", "list", "dict"]) && chk T e S y
    | _ => false
  | .mth m a es, S, x => match x with
    | .Call (.Attribute y nm ap) xs [] cp => chk T a S y && !isC0 y && chks T es S xs && (ap.endLine == cp.line) && (match m, xs with
      | .append, [_] => decide (nm = mthN m)
      | .pop, [] => decide (nm = mthN m)
      | .index, [_] => decide (nm = mthN m)
      | .get1, [_] => decide (nm = mthN m)
      | .get2, [_, _] => decide (nm = mthN m)
      | _, _ => false)
    | _ => false
  | .lc own tg it cs e, S, x => match x with
    | .ListComp y [⟨tgx, itx, ifs, a⟩] scope _ => decide (a = 0) && blkC S.N S.sc scope (ownN S.N own) && decide ((ownN S.N own).map (·.2) = own) &&
        chkI T it S itx (isTup tgx) && chkG tg (S.blk scope) tgx && subT tg own && chks T cs (S.blk scope) ifs && ifs.all notIf && decide (ifs.length ≤ 1) && chk T e (S.blk scope) y
    | _ => false
def chks (T : Tb) : Es → Sta → List Expr → Bool
  | .nil, _, xs => xs.isEmpty
  | .cons e es, S, xs => match xs with
    | x :: r => chk T e S x && chks T es S r
    | [] => false
def chko (T : Tb) : Eo → Sta → Option Expr → Bool
  | .none, _, x => x.isNone
  | .some e, S, x => match x with
    | some y => chk T e S y
    | none => false
def chkI (T : Tb) : It → Sta → Expr → Bool → Bool
  | .val e, S, x, _ => chk T e S x
  | .range es, S, x, _ => match x with
    | .Call (.Name id _) xs [] _ => decide (id = "range") && glB S.sc id && chks T es S xs && (match xs with | [_] => true | [_, _] => true | _ => false)
    | _ => false
  | .zip a b, S, x, t => match x with
    | .Call (.Name id _) [y, z] [] _ => t && decide (id = "zip") && glB S.sc id && chk T a S y && chk T b S z
    | _ => false
  | .enum a, S, x, t => match x with
    | .Call (.Name id _) [y] [] _ => t && decide (id = "enumerate") && glB S.sc id && chk T a S y
    | _ => false
  | .items a, S, x, t => match x with
    | .Call (.Attribute y nm ap) [] [] cp => t && decide (nm = "items") && !isC0 y && (ap.endLine == cp.line) && chk T a S y
    | _ => false
  | .values a, S, x, t => match x with
    | .Call (.Attribute y nm ap) [] [] cp => decide (nm = "values") && !isC0 y && (ap.endLine == cp.line) && chk T a S y
    | _ => false
end
mutual
def chkS (T : Tb) : S → Sta → Stmt → Bool
  | .set i e, S, x => match x with
    | .Assign [.Name id p] y pos => stB S i id && chk T e S y && (!(swB S.sc y id p) || (match e with | .lc .. => (match S.sc.kind with | .function => true | _ => false) | _ => false))
    | _ => false
  | .asg t e, S, x => match x with
    | .Assign [.Tuple ts k q] y pos => chkG t S (.Tuple ts k q) && chk T e S y && !isTup y
    | _ => false
  | .seti a i e, S, x => match x with
    | .Assign [.Subscript y z p] u pos => chk T a S y && chk T i S z && chk T e S u
    | _ => false
  | .aug i o e, S, x => match x with
    | .AugAssign (.Name id p) q y _ => stB S i id && decide (q = opOf o) && decide (o ∈ [Bop.add, .sub, .mul]) && chk T e S y
    | _ => false
  | .augi a i o e, S, x => match x with
    | .AugAssign (.Subscript y z p) q u _ => false
    | _ => false
  | .ex e, S, x => match x with
    | .Expr y _ => chk T e S y && !isLc y
    | _ => false
  | .ret e, S, x => match x with
    | .Return (some y) _ => chk T e S y
    | _ => false
  | .ret0, S, x => match x with
    | .Return none _ => true
    | _ => false
  | .ite c t f, S, x => match x with
    | .If y a b _ => chk T c S y && notIf y && chkSs T t S a && chkSs T f S b
    | _ => false
  | .whil c b, S, x => match x with
    | .While y a [] _ => chk T c S y && notIf y && chkSs T b S a
    | _ => false
  | .forr t it b, S, x => match x with
    | .For tg y a [] _ => chkG t S tg && chkI T it S y (isTup tg) && chkSs T b S a
    | _ => false
  | .brk, S, x => match x with
    | .Break _ => true
    | _ => false
  | .cont, S, x => match x with
    | .Continue _ => true
    | _ => false
  | .pass, S, x => match x with
    | .Pass _ => true
    | _ => false
  | .raise e, S, x => match x with
    | .Raise (some (.Call (.Name id _) [y] [] _)) none _ => decide (T.exc = some id) && glB S.sc id && okN id && chk T e S y
    | _ => false
  | .tryc f es i j, S, x => match T.tryS S f j x with
    | some (xs, id) => chks T es S xs && stB S i id && decide (lenEs es = (match T.fns[f]? with | some g => g.np | none => 0)) && !xs.isEmpty
    | none => false
  | .never, _, _ => true
def chkSs (T : Tb) : List S → Sta → List Stmt → Bool
  | [], _, xs => xs.isEmpty
  | s :: r, S, xs => match xs with
    | x :: q => chkS T s S x && chkSs T r S q
    | [] => false
end
/-- what every checked expression is like -/
theorem chk_shp (T : Tb) : ∀ (e : E) (S : Sta) (x : Expr), chk T e S x = true → shp x = true := by
  intro e
  induction e using E.rec (motive_2 := fun _ => True) (motive_3 := fun _ => True) (motive_4 := fun _ => True) (motive_5 := fun _ => True) (motive_6 := fun _ => True) <;> (try (intros; exact True.intro))
  case newc e ih => intro S x h; simp only [chk, Bool.and_eq_true] at h; exact ih S x h.2
  all_goals (intro S x h; simp only [chk] at h; split at h <;> first | rfl | (cases h; done))
end Mn

set_option Elab.async false
set_option linter.all false
set_option maxRecDepth 100000
set_option maxHeartbeats 4000000
/-! ## expressions do what the small language says: the cases -/
namespace Mn
open PySem L2 PyProof.Rows

def RdG (P : Program) (w : World) (K : PySem.W.Frag) {α β : Type} (f : Fm → Option (α × Fm)) (R : Hp → Hp → List Addr → Fm → L2.St → Hp → β → α → Prop) : L2.St → Hp → (β → Hp → Prop) → Prop :=
  fun σ H Q => ∃ U F ρ s r s', Ok P w K U F ρ s σ H ∧ f s = some (r, s') ∧ ∀ v F' ρ' H', Nx F ρ H F' ρ' H' → Ok P w K U F' ρ' s' σ H' → R U F' ρ' s' σ H' v r → Q v H'
abbrev Calls := Nat → List D → List (Bool × D) → Option (Out × List (Bool × D))
/-- an exception's class and dict, what it bears -/
abbrev EVT := Value → Option Addr → Hp → D → Prop
section
variable (P : Program) (w : World) (K : PySem.W.Frag)
inductive RefsAt (U F : Hp) (ρ : List Addr) (s : Fm) (σ : L2.St) (H : Hp) : List V → List Ref → Prop
  | nil : RefsAt U F ρ s σ H [] []
  | cons {v : V} {p : Ref} {vs : List V} {ps : List Ref} : RefAt P w K U F ρ s σ H v p → RefsAt U F ρ s σ H vs ps → RefsAt U F ρ s σ H (v :: vs) (p :: ps)
end
section
variable (X : Cx) (C : Calls)
abbrev RdE (e : E) : TE := RdG X.prog X.w X.K (ev C e) (Res X.prog X.w X.K)
abbrev RdV (e : E) : TE := RdG X.prog X.w X.K (ev C e) (fun U F ρ s σ H v r => Rep X.prog X.w X.K F ρ v r.2)
abbrev RdR (e : E) : TE := RdG X.prog X.w X.K (fun s => asRef e s (ev C e s)) (RefAt X.prog X.w X.K)
abbrev RdA (es : Es) : TA := RdG X.prog X.w X.K (evs C es) (fun U F ρ s σ H v r => Reps X.prog X.w X.K F ρ v r)
abbrev RdRs (es : Es) : TA := RdG X.prog X.w X.K (evRs C es) (RefsAt X.prog X.w X.K)
abbrev RdT (e : E) : TT := RdG X.prog X.w X.K (evT C e) (fun _ _ _ _ _ _ (b : Bool) c => b = c)
abbrev RdO (e : Eo) : TO := RdG X.prog X.w X.K (evo C e) (fun _ _ _ _ _ _ (b : Option Int) c => b = c)
end
/-- a def's promise -/
def spF (P : Program) (w : World) (K : PySem.W.Frag) (EV : EVT) (C : Calls) (f np : Nat) : Sp := fun vs H Q E => ∃ U F ρ mu ds r mu', vs.length = np ∧ Ok P w K U F ρ ⟨[], mu⟩ [] H ∧ Reps P w K F ρ vs ds ∧ C f ds mu = some (r, mu') ∧
  (∀ q, r = .ok q → ∀ v F' ρ' H' sl' σ', Nx F ρ H F' ρ' H' → Ok P w K U F' ρ' ⟨sl', mu'⟩ σ' H' → Res P w K U F' ρ' ⟨sl', mu'⟩ σ' H' v q → Q v H') ∧
  (∀ d, r = .exc d → ∀ cls dd F' ρ' H' sl' σ', Nx F ρ H F' ρ' H' → Ok P w K U F' ρ' ⟨sl', mu'⟩ σ' H' → EV cls dd H' d → E cls dd H')
def never : XK := fun _ _ _ => False
theorem pass_never {X : Cx} : Passes (L2N.CX X.prog X.w) X never := fun _ _ _ _ _ _ _ h => by
  obtain ⟨_, _, _, _, _, _, _, _, _, _, _, _, h⟩ := h
  exact h.elim
def bltNames : List Str := ["len", "list", "tuple", "int", "str", "min", "max", "sum", "any", "all", "sorted", "dict", "isinstance", "range", "zip", "enumerate", "bool", "set", "reversed"]
structure Cnx (T : Tb) (EV : EVT) (C : Calls) (n : Nat) (S : Sta) (X : Cx) : Prop where
  hN : X.N = S.N
  nd : X.N.Nodup
  sc : X.env.scope = S.sc
  fn : ∀ x, S.fn x = true → X.fn x = true
  calm : X.calm = true
  room : Room (n + 2) X.A
  blt : ∀ x ∈ bltNames, X.mg x = none
  con : ∀ x d, T.con.lookup x = some d → ∃ u v, X.mg x = some u ∧ RelV v u ∧ ∀ F ρ, Rep X.prog X.w X.K F ρ v d
  fns : ∀ (f : Nat) (g : Fn), T.fns[f]? = some g → ∃ a fd, X.mg g.name = some (.ref a) ∧ PySem.W.keepIn X.K (.ref a) = true ∧ Binds X.K fd (g.N.take g.np) [] ∧
    FnOk X.prog X.w X.K X.mg X.base (L2N.CX X.prog X.w) (n + 2) a fd (g.N.take g.np) (spF X.prog X.w X.K EV C f g.np)

section
variable {X : Cx} {EV : EVT} {C : Calls} {T : Tb} {n : Nat} {S : Sta} {pos : Pos}
theorem PE.imp {x : Expr} {t t' : TE} (h : PE X x t) (hi : ∀ σ H Q, t' σ H Q → t σ H Q) : PE X x t' := ⟨fun pins s σ H Q I q => h.run pins s σ H Q I (hi σ H Q q)⟩
theorem PA.imp {x : List Expr} {t t' : TA} (h : PA X x t) (hi : ∀ σ H Q, t' σ H Q → t σ H Q) : PA X x t' := ⟨fun pos pins s σ H Q I q => h.run pos pins s σ H Q I (hi σ H Q q)⟩
theorem PT.imp {x : Expr} {t t' : TT} (h : PT X x t) (hi : ∀ σ H Q, t' σ H Q → t σ H Q) : PT X x t' := ⟨fun pins s σ H Q I q => h.run pins s σ H Q I (hi σ H Q q)⟩
theorem PW.imp {x : Expr} {t t' : TT} (h : PW X x t) (hi : ∀ σ H Q, t' σ H Q → t σ H Q) : PW X x t' := ⟨fun wh pins s σ H Q I q => h.run wh pins s σ H Q I (hi σ H Q q)⟩
theorem PO.imp {x : Option Expr} {t t' : TO} (h : PO X x t) (hi : ∀ σ H Q, t' σ H Q → t σ H Q) : PO X x t' := ⟨fun pins s σ H Q I q => h.run pins s σ H Q I (hi σ H Q q)⟩
theorem PE.or {x : Expr} {t t' : TE} (h : PE X x t) (h' : PE X x t') : PE X x (fun σ H Q => t σ H Q ∨ t' σ H Q) := ⟨fun pins s σ H Q I q => q.elim (h.run pins s σ H Q I) (h'.run pins s σ H Q I)⟩

theorem V_of_E {e : E} {σ : L2.St} {H : Hp} {Q : VK} (h : RdV X C e σ H Q) : RdE X C e σ H Q := by
  obtain ⟨U, F, ρ, s, r, s', k, e1, h⟩ := h
  refine ⟨U, F, ρ, s, r, s', k, e1, fun v F' ρ' H' nx k' rs => ?_⟩
  obtain ⟨F2, nx2, k2, rp⟩ := k'.hand rs
  exact h v F2 ρ' H' (nx.trans nx2) k2 rp
theorem pe_V {e : E} {x : Expr} (h : PE X x (RdE X C e)) : PE X x (RdV X C e) := PE.imp h fun _ _ _ q => V_of_E q

theorem ref_rep {P : Program} {w : World} {K : PySem.W.Frag} {U F H : Hp} {ρ : List Addr} {s : Fm} {σ : L2.St} {v : V} {d : D} (h : Rep P w K F ρ v d) : RefAt P w K U F ρ s σ H v (refD d) := by
  cases h with
  | ptr h => exact ⟨_, rfl, h⟩
  | non => exact .non
  | bl b => exact .bl b
  | int i => exact .int i
  | str x => exact .str x
  | tup h r => exact .tup h r
  | lst h r => exact .lst h r
  | dicA h r => exact .dicA h r
  | dicN h r => exact .dicN h r
theorem asRef_inv {e : E} (hv : ∀ i, e ≠ .var i) {s s' : Fm} {r : Option ((Bool × D) × Fm)} {p : Ref} (h : asRef e s r = some (p, s')) : ∃ o d, r = some ((o, d), s') ∧ p = refD d := by
  have h2 : valR r = some (p, s') := by
    cases e <;> first | exact absurd rfl (hv _) | exact h
  cases r with
  | none => cases h2
  | some z =>
    obtain ⟨⟨o, d⟩, t⟩ := z
    cases h2
    exact ⟨o, d, rfl, rfl⟩
theorem asRef_var {i : Nat} {s s' : Fm} {r : Option ((Bool × D) × Fm)} {p : Ref} (h : asRef (.var i) s r = some (p, s')) : s' = s ∧ ((∃ d, s.sl[i]? = some (some (true, d)) ∧ p = .slot i) ∨ ∃ d, s.sl[i]? = some (some (false, d)) ∧ p = refD d) := by
  simp only [asRef] at h
  split at h
  · rename_i d hs
    cases h
    exact ⟨rfl, .inl ⟨d, hs, rfl⟩⟩
  · rename_i d hs
    cases h
    exact ⟨rfl, .inr ⟨_, hs, rfl⟩⟩
  · cases h

/-! ### names and constants -/
theorem vis_of {sc : Scope} {x : Str} (h : visB sc x = true) : Vis sc x := by
  unfold visB at h
  split at h
  · exact .inl (by assumption)
  · exact .inr (.inl (by assumption))
  · exact .inr (.inr (by assumption))
  · cases h
theorem gl_of (c : Cnx T EV C n S X) {x : Str} (h : glB S.sc x = true) : Gl X x := by
  unfold glB at h
  split at h
  · show X.env.scope.names.lookup x = _
    rw [c.sc]
    assumption
  · cases h
theorem okN_of {x : Str} (h : okN x = true) : (x == ("__debug__" : Str)) = false ∧ (x == ("__classdict__" : Str)) = false := by
  unfold okN at h
  simp only [Bool.and_eq_true, Bool.not_eq_true'] at h
  exact h
theorem c_var0 (c : Cnx T EV C n S X) {i : Nat} {id : Str} (h1 : S.N[i]? = some id) (h2 : visB S.sc id = true) (h3 : okN id = true) : PE X (.Name id pos) (tVar i) :=
  pe_var (by rw [c.hN]; exact h1) (by rw [c.sc]; exact vis_of h2) (okN_of h3).1 (okN_of h3).2
theorem c_var {i : Nat} {x : Expr} (h : PE X x (tVar i)) : PE X x (RdE X C (.var i)) := PE.imp h fun σ H Q => by
  rintro ⟨U, F, ρ, s, r, s', k, e, q⟩
  simp only [ev] at e
  split at e
  · rename_i o d hs
    cases e
    obtain ⟨v, e1, g1, g2⟩ := k.slot i o d hs
    refine ⟨v, e1, ?_⟩
    cases o with
    | false => exact q v F ρ H (.refl _ _ _) k (.val (g1 rfl))
    | true =>
      obtain ⟨F', nx, k', rp⟩ := k.slotF hs e1
      exact q v F' ρ H nx k' (.val rp)
  · cases e
theorem c_varR {i : Nat} {x : Expr} (h : PE X x (tVar i)) : PE X x (RdR X C (.var i)) := PE.imp h fun σ H Q => by
  rintro ⟨U, F, ρ, s, r, s', k, e, q⟩
  obtain ⟨rfl, h | h⟩ := asRef_var e
  · obtain ⟨d, hs, rfl⟩ := h
    obtain ⟨v, e1, _, _⟩ := k.slot i true d hs
    exact ⟨v, e1, q v F ρ H (.refl _ _ _) k e1⟩
  · obtain ⟨d, hs, rfl⟩ := h
    obtain ⟨v, e1, g1, _⟩ := k.slot i false d hs
    exact ⟨v, e1, q v F ρ H (.refl _ _ _) k (ref_rep (g1 rfl))⟩
theorem pe_R {e : E} {x : Expr} (hv : ∀ i, e ≠ .var i) (h : PE X x (RdE X C e)) : PE X x (RdR X C e) := PE.imp (pe_V h) fun σ H Q => by
  rintro ⟨U, F, ρ, s, r, s', k, e1, q⟩
  obtain ⟨o, d, e2, rfl⟩ := asRef_inv hv e1
  exact ⟨U, F, ρ, s, (o, d), s', k, e2, fun v F' ρ' H' nx k' rp => q v F' ρ' H' nx k' (ref_rep rp)⟩
theorem c_cst {c : Const} {d : D} {j : Nat} (h : (match c, d with
      | .none, .non => true
      | .bool b, .bl b' => b == b'
      | .int i, .int i' => i == i'
      | .str s, .str s' => decide (s = s')
      | _, _ => false) = true) : PE X (.Constant c j pos) (RdE X C (.cst d)) := by
  split at h
  · exact PE.imp pe_non fun σ H Q ⟨U, F, ρ, s, r, s', k, e, q⟩ => by simp only [ev] at e; cases e; exact q _ F ρ H (.refl _ _ _) k (.val .non)
  · cases (beq_iff_eq.mp h)
    exact PE.imp pe_bl fun σ H Q ⟨U, F, ρ, s, r, s', k, e, q⟩ => by simp only [ev] at e; cases e; exact q _ F ρ H (.refl _ _ _) k (.val (.bl _))
  · cases (beq_iff_eq.mp h)
    exact PE.imp pe_int fun σ H Q ⟨U, F, ρ, s, r, s', k, e, q⟩ => by simp only [ev] at e; cases e; exact q _ F ρ H (.refl _ _ _) k (.val (.int _))
  · cases (of_decide_eq_true h)
    exact PE.imp pe_str fun σ H Q ⟨U, F, ρ, s, r, s', k, e, q⟩ => by simp only [ev] at e; cases e; exact q _ F ρ H (.refl _ _ _) k (.val (.str _))
  · cases h
theorem c_glo {id : Str} {d : D} {u : Value} {v : V} (hg : Gl X id) (hm : X.mg id = some u) (r : RelV v u) (rp : ∀ F ρ, Rep X.prog X.w X.K F ρ v d) (hd : (id == ("__debug__" : Str)) = false) : PE X (.Name id pos) (RdE X C (.glo id d)) :=
  PE.imp (pe_glob hg hm r hd) fun σ H Q ⟨U, F, ρ, s, r, s', k, e, q⟩ => by
    simp only [ev] at e; cases e
    exact q _ F ρ H (.refl _ _ _) k (.val (rp _ _))

/-! ### lists of expressions -/
theorem c_nil : PA X [] (RdA X C .nil) := PA.imp pa_nil fun σ H Q ⟨U, F, ρ, s, r, s', k, e, q⟩ => by
  simp only [evs] at e; cases e
  exact q [] F ρ H (.refl _ _ _) k .nil
theorem c_cons {e : E} {es : Es} {x : Expr} {xs : List Expr} (hs : shp x = true) (h : PE X x (RdE X C e)) (hr : PA X xs (RdA X C es)) : PA X (x :: xs) (RdA X C (.cons e es)) :=
  PA.imp (pa_cons (pe_V h) hr (shp_star hs)) fun σ H Q => by
    rintro ⟨U, F, ρ, s, r, s', k, e1, q⟩
    simp only [evs] at e1
    split at e1
    · rename_i o d s1 h1
      split at e1
      · rename_i ds s2 h2
        cases e1
        exact ⟨U, F, ρ, s, (o, d), s1, k, h1, fun v F1 ρ1 H1 n1 k1 r1 => ⟨U, F1, ρ1, s1, ds, s', k1, h2, fun vs F2 ρ2 H2 n2 k2 r2 => q (v :: vs) F2 ρ2 H2 (n1.trans n2) k2 (.cons (r1.mono n2.sub n2.pre) r2)⟩⟩
      · cases e1
    · cases e1
theorem c_nilR : PA X [] (RdRs X C .nil) := PA.imp pa_nil fun σ H Q ⟨U, F, ρ, s, r, s', k, e, q⟩ => by
  simp only [evRs] at e; cases e
  exact q [] F ρ H (.refl _ _ _) k .nil
theorem c_consR {e : E} {es : Es} {x : Expr} {xs : List Expr} (hs : shp x = true) (h : PE X x (RdR X C e)) (hr : PA X xs (RdRs X C es)) : PA X (x :: xs) (RdRs X C (.cons e es)) :=
  PA.imp (pa_cons h hr (shp_star hs)) fun σ H Q => by
    rintro ⟨U, F, ρ, s, r, s', k, e1, q⟩
    simp only [evRs] at e1
    split at e1
    · rename_i p s1 h1
      split at e1
      · rename_i ps s2 h2
        cases e1
        exact ⟨U, F, ρ, s, p, s1, k, h1, fun v F1 ρ1 H1 n1 k1 r1 => ⟨U, F1, ρ1, s1, ps, s', k1, h2, fun vs F2 ρ2 H2 n2 k2 r2 => q (v :: vs) F2 ρ2 H2 (n1.trans n2) k2 (.cons (r1.mono n2) r2)⟩⟩
      · cases e1
    · cases e1
theorem c_tup {es : Es} {xs : List Expr} {j : Nat} (h : PA X xs (RdA X C es)) : PE X (.Tuple xs j pos) (RdE X C (.tup es)) := PE.imp (pe_tup h) fun σ H Q => by
  rintro ⟨U, F, ρ, s, r, s', k, e, q⟩
  simp only [ev] at e
  split at e
  · rename_i ds s1 h1
    split at e
    · rename_i hl
      cases e
      refine ⟨U, F, ρ, s, ds, s', k, h1, fun vs F1 ρ1 H1 n1 k1 r1 => ⟨by rw [r1.length]; exact lim_line hl, fun p hp => ?_⟩⟩
      exact VQ.newTup (fun v F' ρ' H' nx k' rs => q v F' ρ' H' (n1.trans nx) k' rs) k1 hp r1
    · cases e
  · cases e
theorem c_lst {es : Es} {xs : List Expr} (h : PA X xs (RdA X C es)) : PE X (.List xs pos) (RdE X C (.lst es)) := PE.imp (pe_lst h) fun σ H Q => by
  rintro ⟨U, F, ρ, s, r, s', k, e, q⟩
  simp only [ev] at e
  split at e
  · rename_i ds s1 h1
    split at e
    · rename_i hl
      cases e
      refine ⟨U, F, ρ, s, ds, s', k, h1, fun vs F1 ρ1 H1 n1 k1 r1 => ⟨by rw [r1.length]; exact lim_line hl, fun p hp => ?_⟩⟩
      exact VQ.newLst (fun v F' ρ' H' nx k' rs => q v F' ρ' H' (n1.trans nx) k' rs) k1 hp r1
    · cases e
  · cases e

/-! ### operators -/
theorem c_op {o : Bop} {a b : E} {x y : Expr} (ha : PE X x (RdE X C a)) (hb : PE X y (RdE X C b)) : PE X (.BinOp x (opOf o) y pos) (RdE X C (.op o a b)) := PE.imp (pe_op or_bop (pe_V ha) (pe_V hb)) fun σ H Q => by
  rintro ⟨U, F, ρ, s, r, s', k, e, q⟩
  simp only [ev] at e
  split at e
  · rename_i o1 d1 s1 h1
    split at e
    · rename_i o2 d2 s2 h2
      split at e
      · rename_i r' h3
        cases e
        refine ⟨U, F, ρ, s, (o1, d1), s1, k, h1, fun v F1 ρ1 H1 n1 k1 r1 => ⟨U, F1, ρ1, s1, (o2, d2), s', k1, h2, fun u F2 ρ2 H2 n2 k2 r2 => ?_⟩⟩
        exact ⟨U, F2, ρ2, s', σ, d1, d2, r, k2, r1.mono n2.sub n2.pre, r2, h3, fun v F' ρ' H' nx k' rs => q v F' ρ' H' ((n1.trans n2).trans nx) k' rs⟩
      · cases e
    · cases e
  · cases e
theorem c_neg {a : E} {x : Expr} (ha : PE X x (RdE X C a)) : PE X (.UnaryOp .USub x pos) (RdE X C (.neg a)) := PE.imp (pe_un or_neg (pe_V ha)) fun σ H Q => by
  rintro ⟨U, F, ρ, s, r, s', k, e, q⟩
  simp only [ev] at e
  split at e
  · rename_i o1 i s1 h1
    cases e
    exact ⟨U, F, ρ, s, (o1, .int i), s', k, h1, fun v F1 ρ1 H1 n1 k1 r1 => ⟨U, F1, ρ1, s', σ, i, k1, r1, fun v F' ρ' H' nx k' rs => q v F' ρ' H' (n1.trans nx) k' rs⟩⟩
  · cases e
end
end Mn

set_option Elab.async false
set_option linter.all false
set_option maxRecDepth 100000
set_option maxHeartbeats 4000000
/-! ## expressions: comparisons, tests, subscripts, calls -/
namespace Mn
open PySem L2 PyProof.Rows
section
variable {X : Cx} {EV : EVT} {C : Calls} {T : Tb} {n : Nat} {S : Sta} {pos : Pos}

/-! ### what is looked at -/
def nodeD : D → Bool
  | .lst _ => true
  | .dic _ _ => true
  | _ => false
theorem NodeAt.node {P : Program} {w : World} {K : PySem.W.Frag} {F H : Hp} {ρ : List Addr} {a : Addr} {d : D} (h : NodeAt P w K F ρ H a d) : nodeD d = true := by
  cases d <;> first | rfl | exact h.elim
theorem CellAt.node {P : Program} {w : World} {K : PySem.W.Frag} {F H : Hp} {ρ : List Addr} {a : Addr} {c : Bool × D} (h : CellAt P w K F ρ H a c) : nodeD c.2 = true := by
  rcases h with h | ⟨_, _, _, _, h⟩
  · exact h.node
  · exact h.node
theorem Ok.rep_of {P : Program} {w : World} {K : PySem.W.Frag} {U F H : Hp} {ρ : List Addr} {s : Fm} {σ : L2.St} {v : V} {p : Ref} {d : D} (k : Ok P w K U F ρ s σ H) (h : RefAt P w K U F ρ s σ H v p) (e : s.rd p = some d) (hn : nodeD d = false) : Rep P w K F ρ v d := by
  cases p with
  | slot i =>
    obtain ⟨v', e1, _, g⟩ := k.slot i true d (rd_slot e)
    obtain ⟨a, _, q, _⟩ := g rfl
    rw [q.node] at hn; cases hn
  | cell j =>
    obtain ⟨c, hs, rfl⟩ := rd_cell e
    obtain ⟨a, _, q, _⟩ := k.cell j c hs
    rw [q.node] at hn; cases hn
  | val x => cases e; exact h
theorem cmp_dic {o : CmpOp} {x : D} {k : Kd} {kvs : List (D × D)} {r : Bool} (h : cmpD o x (.dic k kvs) = some r) : nodeD x = false := by
  have key : ∀ y, nodeD y = true → dget k kvs y = none := fun y hy => by
    cases y <;> first | (cases hy; done) | (cases k <;> rfl)
  cases hx : nodeD x with
  | false => rfl
  | true =>
    exfalso
    have e1 := key x hx
    cases o <;> simp only [cmpD, eqD, D.py, e1] at h
    all_goals first
      | (cases h; done)
      | (split at h <;> first | (cases h; done) | (rename_i h1 _; split at h1 <;> cases h1) | (rename_i h1; split at h1 <;> cases h1))
      | (cases x <;> first | (cases hx; done) | (simp at h; done))
theorem i_cmp {o : CmpOp} {a b : E} {σ : L2.St} {H : Hp} {Q : VK} (h : RdE X C (.cmp o a b) σ H Q) : tOp (rC X.prog X.w X.K o) (RdR X C a) (RdR X C b) σ H Q := by
  obtain ⟨U, F, ρ, s, r, s', k, e, q⟩ := h
  simp only [ev] at e
  split at e
  · rename_i p1 s1 h1
    split at e
    · rename_i p2 s2 h2
      split at e
      · rename_i x y hx hy
        split at e
        · rename_i r' h3
          cases e
          refine ⟨U, F, ρ, s, p1, s1, k, h1, fun v F1 ρ1 H1 n1 k1 r1 => ⟨U, F1, ρ1, s1, p2, s', k1, h2, fun u F2 ρ2 H2 n2 k2 r2 => ?_⟩⟩
          have r1' := r1.mono (s' := s') n2
          refine ⟨U, F2, ρ2, s', σ, x, y, r', k2, k2.at r1' hx, k2.at r2 hy, fun ⟨kd, kvs, hd⟩ => ?_, h3, q _ F2 ρ2 H2 (n1.trans n2) k2 (.val (.bl _))⟩
          subst hd
          exact k2.rep_of r1' hx (cmp_dic h3)
        · cases e
      · cases e
    · cases e
  · cases e
theorem i_chn {o o' : CmpOp} {a b c : E} {σ : L2.St} {H : Hp} {Q : VK} (h : RdE X C (.chn o o' a b c) σ H Q) : tChain (rC X.prog X.w X.K o) (rC X.prog X.w X.K o') (RdV X C a) (RdV X C b) (RdV X C c) σ H Q := by
  obtain ⟨U, F, ρ, s, r, s', k, e, q⟩ := h
  simp only [ev] at e
  split at e
  · rename_i o1 x s1 h1
    split at e
    · rename_i o2 y s2 h2
      split at e
      · rename_i h3
        split at e
        · rename_i o4 z s4 h4
          split at e
          · rename_i r' h5
            cases e
            refine ⟨U, F, ρ, s, _, s1, k, h1, fun v F1 ρ1 H1 n1 k1 r1 => ⟨U, F1, ρ1, s1, _, s2, k1, h2, fun u F2 ρ2 H2 n2 k2 r2 => ?_⟩⟩
            refine ⟨U, F2, ρ2, s2, σ, x, y, true, k2, k2.atF (r1.mono n2.sub n2.pre), k2.atF r2, fun _ => r1.mono n2.sub n2.pre, h3, true, rfl, ?_⟩
            rw [if_pos rfl]
            refine ⟨U, F2, ρ2, s2, _, s', k2, h4, fun t F3 ρ3 H3 n3 k3 r3 => ?_⟩
            exact ⟨U, F3, ρ3, s', σ, y, z, r', k3, k3.atF (r2.mono n3.sub n3.pre), k3.atF r3, fun _ => r2.mono n3.sub n3.pre, h5, q _ F3 ρ3 H3 ((n1.trans n2).trans n3) k3 (.val (.bl _))⟩
          · cases e
        · cases e
      · rename_i h3
        cases e
        refine ⟨U, F, ρ, s, _, s1, k, h1, fun v F1 ρ1 H1 n1 k1 r1 => ⟨U, F1, ρ1, s1, _, s', k1, h2, fun u F2 ρ2 H2 n2 k2 r2 => ?_⟩⟩
        refine ⟨U, F2, ρ2, s', σ, x, y, false, k2, k2.atF (r1.mono n2.sub n2.pre), k2.atF r2, fun _ => r1.mono n2.sub n2.pre, h3, false, rfl, ?_⟩
        rw [if_neg (by decide)]
        exact q _ F2 ρ2 H2 (n1.trans n2) k2 (.val (.bl _))
      · cases e
    · cases e
  · cases e

/-! ### tests -/
theorem evT_inv {e : E} (hv : ∀ i, e ≠ .var i) {s s' : Fm} {b : Bool} (h : evT C e s = some (b, s')) : ∃ o d d', ev C e s = some ((o, d), s') ∧ s'.rd (refD d) = some d' ∧ truD d' = some b := by
  unfold evT at h
  cases hr : asRef e s (ev C e s) with
  | none => rw [hr] at h; cases h
  | some z =>
    obtain ⟨p, t⟩ := z
    rw [hr] at h
    simp only [truR] at h
    split at h
    · rename_i d' h1
      split at h
      · rename_i b' h2
        cases h
        obtain ⟨o, d, h3, rfl⟩ := asRef_inv hv hr
        exact ⟨o, d, d', h3, h1, h2⟩
      · cases h
    · cases h
/-- an expression that gives bools, as a test -/
theorem E_of_T {e : E} (hv : ∀ i, e ≠ .var i) (hb : ∀ s o d s', ev C e s = some ((o, d), s') → ∃ b, d = .bl b) {σ : L2.St} {H : Hp} {Q : Bool → Hp → Prop} (h : RdT X C e σ H Q) : RdE X C e σ H (fun x H' => ∃ k, x = .bl k ∧ Q k H') := by
  obtain ⟨U, F, ρ, s, b, s', k, e1, q⟩ := h
  obtain ⟨o, d, d', h1, h2, h3⟩ := evT_inv hv e1
  obtain ⟨c, rfl⟩ := hb _ _ _ _ h1
  cases h2
  cases h3
  refine ⟨U, F, ρ, s, _, s', k, h1, fun v F' ρ' H' nx k' rs => ?_⟩
  cases o with
  | false =>
    cases rs.1 rfl
    exact ⟨_, rfl, q _ F' ρ' H' nx k' rfl⟩
  | true =>
    obtain ⟨_, _, n, _⟩ := rs.2 rfl
    exact n.elim
theorem bl_cmp {o : CmpOp} {a b : E} (s : Fm) (o' : Bool) (d : D) (s' : Fm) (e : ev C (.cmp o a b) s = some ((o', d), s')) : ∃ b, d = .bl b := by
  simp only [ev] at e
  split at e
  · split at e
    · split at e
      · split at e
        · cases e; exact ⟨_, rfl⟩
        · cases e
      · cases e
    · cases e
  · cases e
theorem bl_chn {o o1 : CmpOp} {a b c : E} (s : Fm) (o' : Bool) (d : D) (s' : Fm) (e : ev C (.chn o o1 a b c) s = some ((o', d), s')) : ∃ b, d = .bl b := by
  simp only [ev] at e
  split at e
  · split at e
    · split at e
      · split at e
        · split at e
          · cases e; exact ⟨_, rfl⟩
          · cases e
        · cases e
      · cases e; exact ⟨_, rfl⟩
      · cases e
    · cases e
  · cases e
theorem bl_and {es : Es} (s : Fm) (o' : Bool) (d : D) (s' : Fm) (e : ev C (.and es) s = some ((o', d), s')) : ∃ b, d = .bl b := by
  simp only [ev] at e
  split at e
  · cases e; exact ⟨_, rfl⟩
  · cases e
theorem bl_or {es : Es} (s : Fm) (o' : Bool) (d : D) (s' : Fm) (e : ev C (.or es) s = some ((o', d), s')) : ∃ b, d = .bl b := by
  simp only [ev] at e
  split at e
  · cases e; exact ⟨_, rfl⟩
  · cases e
theorem bl_not {a : E} (s : Fm) (o' : Bool) (d : D) (s' : Fm) (e : ev C (.not a) s = some ((o', d), s')) : ∃ b, d = .bl b := by
  simp only [ev] at e
  split at e
  · cases e; exact ⟨_, rfl⟩
  · cases e
/-- by its value's truth -/
theorem tru_R {e : E} {σ : L2.St} {H : Hp} {Q : Bool → Hp → Prop} (h : RdT X C e σ H Q) : RdR X C e σ H (fun x H' => ∃ U F ρ fm τ d b, Ok X.prog X.w X.K U F ρ fm τ H' ∧ At X.prog X.w X.K F ρ H' x d ∧ truD d = some b ∧ Q b H') := by
  obtain ⟨U, F, ρ, s, b, s', k, e1, q⟩ := h
  unfold evT at e1
  cases hr : asRef e s (ev C e s) with
  | none => rw [hr] at e1; cases e1
  | some z =>
    obtain ⟨p, t⟩ := z
    rw [hr] at e1
    simp only [truR] at e1
    split at e1
    · rename_i d' h1
      split at e1
      · rename_i b' h2
        cases e1
        exact ⟨U, F, ρ, s, p, s', k, hr, fun v F' ρ' H' nx k' rs => ⟨U, F', ρ', s', σ, d', b, k', k'.at rs h1, h2, q b F' ρ' H' nx k' rfl⟩⟩
      · cases e1
    · cases e1
theorem pt_plain {e : E} {x : Expr} (h : PE X x (RdR X C e)) (hp : plainT x = true) (hs : shp x = true) : PT X x (RdT X C e) := by
  refine ⟨fun pins s σ H Q I hw => ?_⟩
  refine isTrue_plain (thn (h.run pins s σ H _ I (tru_R hw)) fun v s1 ⟨y, H1, I1, r1, q1⟩ => ?_) (plain_true hp hs _)
  exact or_tru pins s1 σ H1 y v Q I1 r1 q1
theorem c_not {a : E} {x : Expr} (h : PE X x (RdR X C a)) : PE X (.UnaryOp .Not x pos) (RdE X C (.not a)) := by
  refine ⟨fun pins s σ H Q I hw => ?_⟩
  have hw2 : RdT X C a σ H (fun b H1 => Q (.bl (!b)) H1) := by
    obtain ⟨U, F, ρ, fm, r, fm', k, e, q⟩ := hw
    simp only [ev] at e
    split at e
    · rename_i b s1 h1
      cases e
      refine ⟨U, F, ρ, fm, b, fm', k, h1, fun c F' ρ' H' nx k' hc => ?_⟩
      subst hc
      exact q _ F' ρ' H' nx k' (.val (.bl _))
    · cases e
  refine UnaryOp_ (thn (h.run pins s σ H _ I (tru_R hw2)) fun v s1 ⟨y, H1, I1, r1, q1⟩ => ?_)
  exact not_of (thn (or_tru pins s1 σ H1 y v _ I1 r1 q1) fun b s2 ⟨H2, I2, q2⟩ => ⟨.bl (!b), H2, I2, rfl, q2⟩)
theorem ct_not {a : E} {x : Expr} (h : PT X x (RdT X C a)) : PT X (.UnaryOp .Not x pos) (RdT X C (.not a)) := PT.imp (pt_not h) fun σ H Q => by
  rintro ⟨U, F, ρ, s, b, s', k, e1, q⟩
  obtain ⟨o, d, d', h1, h2, h3⟩ := evT_inv (by intro i h; cases h) e1
  simp only [ev] at h1
  split at h1
  · rename_i b' s1 h4
    cases h1
    cases h2
    cases h3
    refine ⟨U, F, ρ, s, b', s', k, h4, fun c F' ρ' H' nx k' hc => ?_⟩
    subst hc
    exact q _ F' ρ' H' nx k' rfl
  · cases h1
theorem c_cmp {o : CmpOp} {a b : E} {x y : Expr} (hu : X.A.units + 66 < cLine) (hy : shp y = true) (ha : PE X x (RdR X C a)) (hb : PE X y (RdR X C b)) : PE X (.Compare x [o] [y] pos) (RdE X C (.cmp o a b)) :=
  PE.imp (pe_cmpR (or_cmp hu) ha hb (shp_mark hy o)) fun _ _ _ h => i_cmp h
theorem ct_cmp {o : CmpOp} {a b : E} {x y : Expr} (hu : X.A.units + 66 < cLine) (hy : shp y = true) (ha : PE X x (RdR X C a)) (hb : PE X y (RdR X C b)) : PT X (.Compare x [o] [y] pos) (RdT X C (.cmp o a b)) :=
  PT.imp (pt_cmpR (or_cmp hu) ha hb (shp_mark hy o)) fun _ _ _ h => i_cmp (E_of_T (by intro i h; cases h) bl_cmp h)
theorem shp_last {o o' : CmpOp} {y z : Expr} (hz : shp z = true) : lastMarks [o, o'] [y, z] = false := shp_mark hz o'
theorem c_chn {o o' : CmpOp} {a b c : E} {x y z : Expr} (hu : X.A.units + 66 < cLine) (hz : shp z = true) (ha : PE X x (RdE X C a)) (hb : PE X y (RdE X C b)) (hc : PE X z (RdE X C c)) : PE X (.Compare x [o, o'] [y, z] pos) (RdE X C (.chn o o' a b c)) :=
  PE.imp (pe_chain (or_cmp hu) (or_cmp hu) (pe_V ha) (pe_V hb) (pe_V hc) (shp_last hz)) fun _ _ _ h => i_chn h
theorem ct_chn {o o' : CmpOp} {a b c : E} {x y z : Expr} (hu : X.A.units + 66 < cLine) (hz : shp z = true) (ha : PE X x (RdE X C a)) (hb : PE X y (RdE X C b)) (hc : PE X z (RdE X C c)) : PT X (.Compare x [o, o'] [y, z] pos) (RdT X C (.chn o o' a b c)) :=
  PT.imp (pt_chain (or_cmp hu) (or_cmp hu) (pe_V ha) (pe_V hb) (pe_V hc) (shp_last hz)) fun _ _ _ h => i_chn (E_of_T (by intro i h; cases h) bl_chn h)

/-! ### and, or -/
theorem bl_res {U F ρ s σ H} {v : V} {o b : Bool} (h : Res X.prog X.w X.K U F ρ s σ H v (o, .bl b)) : v = .bl b := by
  cases o with
  | false => cases h.1 rfl; rfl
  | true => obtain ⟨_, _, n, _⟩ := h.2 rfl; exact n.elim
theorem c_and1 {e : E} {x : Expr} (h : PE X x (RdE X C e)) : PE X (.BoolOp .And [x] pos) (RdE X C (.and (.cons e .nil))) := PE.imp (pe_one h) fun σ H Q => by
  rintro ⟨U, F, ρ, s, r, s', k, e1, q⟩
  simp only [ev, evAnd] at e1
  split at e1
  · rename_i b s1 h1
    cases e1
    split at h1
    · rename_i o s2 h2
      cases h1
      exact ⟨U, F, ρ, s, _, s', k, h2, fun v F' ρ' H' nx k' rs => q v F' ρ' H' nx k' (by rw [bl_res rs]; exact .val (.bl _))⟩
    · rename_i o s2 h2
      cases h1
      exact ⟨U, F, ρ, s, _, s', k, h2, fun v F' ρ' H' nx k' rs => q v F' ρ' H' nx k' (by rw [bl_res rs]; exact .val (.bl _))⟩
    · cases h1
  · cases e1
theorem c_or1 {e : E} {x : Expr} (h : PE X x (RdE X C e)) : PE X (.BoolOp .Or [x] pos) (RdE X C (.or (.cons e .nil))) := PE.imp (pe_one h) fun σ H Q => by
  rintro ⟨U, F, ρ, s, r, s', k, e1, q⟩
  simp only [ev, evOr] at e1
  split at e1
  · rename_i b s1 h1
    cases e1
    split at h1
    · rename_i o s2 h2
      cases h1
      exact ⟨U, F, ρ, s, _, s', k, h2, fun v F' ρ' H' nx k' rs => q v F' ρ' H' nx k' (by rw [bl_res rs]; exact .val (.bl _))⟩
    · rename_i o s2 h2
      cases h1
      exact ⟨U, F, ρ, s, _, s', k, h2, fun v F' ρ' H' nx k' rs => q v F' ρ' H' nx k' (by rw [bl_res rs]; exact .val (.bl _))⟩
    · cases h1
  · cases e1
theorem c_and {e : E} {es : Es} {x y : Expr} {xs : List Expr} (h : PE X x (RdE X C e)) (hr : PE X (.BoolOp .And (y :: xs) pos) (RdE X C (.and es))) : PE X (.BoolOp .And (x :: y :: xs) pos) (RdE X C (.and (.cons e es))) := PE.imp (pe_and h hr) fun σ H Q => by
  rintro ⟨U, F, ρ, s, r, s', k, e1, q⟩
  simp only [ev, evAnd] at e1
  split at e1
  · rename_i b s1 h1
    cases e1
    split at h1
    · rename_i o s2 h2
      refine ⟨U, F, ρ, s, _, s2, k, h2, fun v F1 ρ1 H1 n1 k1 r1 => ⟨true, bl_res r1, ?_⟩⟩
      rw [if_pos rfl]
      exact ⟨U, F1, ρ1, s2, _, s', k1, by simp only [ev, h1], fun v F' ρ' H' nx k' rs => q v F' ρ' H' (n1.trans nx) k' rs⟩
    · rename_i o s2 h2
      cases h1
      refine ⟨U, F, ρ, s, _, s', k, h2, fun v F1 ρ1 H1 n1 k1 r1 => ⟨false, bl_res r1, ?_⟩⟩
      rw [if_neg (by decide)]
      exact q _ F1 ρ1 H1 n1 k1 (.val (.bl _))
    · cases h1
  · cases e1
theorem c_or {e : E} {es : Es} {x y : Expr} {xs : List Expr} (h : PE X x (RdE X C e)) (hr : PE X (.BoolOp .Or (y :: xs) pos) (RdE X C (.or es))) : PE X (.BoolOp .Or (x :: y :: xs) pos) (RdE X C (.or (.cons e es))) := PE.imp (pe_or h hr) fun σ H Q => by
  rintro ⟨U, F, ρ, s, r, s', k, e1, q⟩
  simp only [ev, evOr] at e1
  split at e1
  · rename_i b s1 h1
    cases e1
    split at h1
    · rename_i o s2 h2
      refine ⟨U, F, ρ, s, _, s2, k, h2, fun v F1 ρ1 H1 n1 k1 r1 => ⟨false, bl_res r1, ?_⟩⟩
      rw [if_neg (by decide)]
      exact ⟨U, F1, ρ1, s2, _, s', k1, by simp only [ev, h1], fun v F' ρ' H' nx k' rs => q v F' ρ' H' (n1.trans nx) k' rs⟩
    · rename_i o s2 h2
      cases h1
      refine ⟨U, F, ρ, s, _, s', k, h2, fun v F1 ρ1 H1 n1 k1 r1 => ⟨true, bl_res r1, ?_⟩⟩
      rw [if_pos rfl]
      exact q _ F1 ρ1 H1 n1 k1 (.val (.bl _))
    · cases h1
  · cases e1
/-- what an expression gives as a bool is what it is as a test -/
theorem T_of_ev {U F ρ σ H} {e : E} {s s' : Fm} {o b : Bool} (k : Ok X.prog X.w X.K U F ρ s σ H) (h : ev C e s = some ((o, .bl b), s')) : evT C e s = some (b, s') := by
  unfold evT
  by_cases hv : ∃ i, e = .var i
  · obtain ⟨i, rfl⟩ := hv
    simp only [ev] at h
    split at h
    · rename_i o' d' hs
      cases h
      cases o' with
      | true =>
        obtain ⟨v, _, _, g⟩ := k.slot i true _ hs
        obtain ⟨_, _, n, _⟩ := g rfl
        exact n.elim
      | false => simp only [asRef, hs, truR, refD, Fm.rd, truD, if_false, Bool.false_eq_true]
    · cases h
  · have e1 : asRef e s (ev C e s) = valR (ev C e s) := by
      cases e <;> first | rfl | exact absurd ⟨_, rfl⟩ hv
    rw [e1, h]
    rfl
theorem and_inv {es : Es} {s s' : Fm} {b : Bool} (h : evT C (.and es) s = some (b, s')) : evAnd C es s = some (b, s') := by
  obtain ⟨o, d, d', h1, h2, h3⟩ := evT_inv (by intro i h; cases h) h
  simp only [ev] at h1
  split at h1
  · cases h1; cases h2; cases h3; assumption
  · cases h1
theorem or_inv {es : Es} {s s' : Fm} {b : Bool} (h : evT C (.or es) s = some (b, s')) : evOr C es s = some (b, s') := by
  obtain ⟨o, d, d', h1, h2, h3⟩ := evT_inv (by intro i h; cases h) h
  simp only [ev] at h1
  split at h1
  · cases h1; cases h2; cases h3; assumption
  · cases h1
theorem and_T {es : Es} {s s' : Fm} {b : Bool} (h : evAnd C es s = some (b, s')) : evT C (.and es) s = some (b, s') := by
  simp only [evT, asRef, ev, h, valR, refD, truR, Fm.rd, truD]
theorem or_T {es : Es} {s s' : Fm} {b : Bool} (h : evOr C es s = some (b, s')) : evT C (.or es) s = some (b, s') := by
  simp only [evT, asRef, ev, h, valR, refD, truR, Fm.rd, truD]
theorem ct_and1 {e : E} {x : Expr} (h : PT X x (RdT X C e)) : PW X (.BoolOp .And [x] pos) (RdT X C (.and (.cons e .nil))) := PW.imp (pw_and1 h) fun σ H Q => by
  rintro ⟨U, F, ρ, s, b, s', k, e1, q⟩
  have e2 := and_inv e1
  simp only [evAnd] at e2
  split at e2
  · cases e2; exact ⟨U, F, ρ, s, _, s', k, T_of_ev k (by assumption), q⟩
  · cases e2; exact ⟨U, F, ρ, s, _, s', k, T_of_ev k (by assumption), q⟩
  · cases e2
theorem ct_or1 {e : E} {x : Expr} (h : PT X x (RdT X C e)) : PW X (.BoolOp .Or [x] pos) (RdT X C (.or (.cons e .nil))) := PW.imp (pw_or1 h) fun σ H Q => by
  rintro ⟨U, F, ρ, s, b, s', k, e1, q⟩
  have e2 := or_inv e1
  simp only [evOr] at e2
  split at e2
  · cases e2; exact ⟨U, F, ρ, s, _, s', k, T_of_ev k (by assumption), q⟩
  · cases e2; exact ⟨U, F, ρ, s, _, s', k, T_of_ev k (by assumption), q⟩
  · cases e2
theorem ct_and {e : E} {es : Es} {x y : Expr} {xs : List Expr} (h : PT X x (RdT X C e)) (hr : PW X (.BoolOp .And (y :: xs) pos) (RdT X C (.and es))) : PW X (.BoolOp .And (x :: y :: xs) pos) (RdT X C (.and (.cons e es))) := PW.imp (pw_and h hr) fun σ H Q => by
  rintro ⟨U, F, ρ, s, b, s', k, e1, q⟩
  have e2 := and_inv e1
  simp only [evAnd] at e2
  split at e2
  · rename_i o s2 h2
    refine ⟨U, F, ρ, s, true, s2, k, T_of_ev k h2, fun c F1 ρ1 H1 n1 k1 hc => ?_⟩
    obtain rfl : c = true := hc
    show if true = true then _ else _
    rw [if_pos rfl]
    exact ⟨U, F1, ρ1, s2, b, s', k1, and_T e2, fun c F' ρ' H' nx k' hc => q c F' ρ' H' (n1.trans nx) k' hc⟩
  · rename_i o s2 h2
    cases e2
    refine ⟨U, F, ρ, s, false, s', k, T_of_ev k h2, fun c F1 ρ1 H1 n1 k1 hc => ?_⟩
    obtain rfl : c = false := hc
    show if false = true then _ else _
    rw [if_neg (by decide)]
    exact q _ F1 ρ1 H1 n1 k1 rfl
  · cases e2
theorem ct_or {e : E} {es : Es} {x y : Expr} {xs : List Expr} (h : PT X x (RdT X C e)) (hr : PW X (.BoolOp .Or (y :: xs) pos) (RdT X C (.or es))) : PW X (.BoolOp .Or (x :: y :: xs) pos) (RdT X C (.or (.cons e es))) := PW.imp (pw_or h hr) fun σ H Q => by
  rintro ⟨U, F, ρ, s, b, s', k, e1, q⟩
  have e2 := or_inv e1
  simp only [evOr] at e2
  split at e2
  · rename_i o s2 h2
    refine ⟨U, F, ρ, s, false, s2, k, T_of_ev k h2, fun c F1 ρ1 H1 n1 k1 hc => ?_⟩
    obtain rfl : c = false := hc
    show if false = true then _ else _
    rw [if_neg (by decide)]
    exact ⟨U, F1, ρ1, s2, b, s', k1, or_T e2, fun c F' ρ' H' nx k' hc => q c F' ρ' H' (n1.trans nx) k' hc⟩
  · rename_i o s2 h2
    cases e2
    refine ⟨U, F, ρ, s, true, s', k, T_of_ev k h2, fun c F1 ρ1 H1 n1 k1 hc => ?_⟩
    obtain rfl : c = true := hc
    show if true = true then _ else _
    rw [if_pos rfl]
    exact q _ F1 ρ1 H1 n1 k1 rfl
  · cases e2
theorem c_ite {c a b : E} {x y z : Expr} (hc : PT X z (RdT X C c)) (ha : PE X x (RdE X C a)) (hb : PE X y (RdE X C b)) : PE X (.IfExp z x y pos) (RdE X C (.ite c a b)) := PE.imp (pe_ifExp hc ha hb) fun σ H Q => by
  rintro ⟨U, F, ρ, s, r, s', k, e1, q⟩
  simp only [ev] at e1
  split at e1
  · rename_i s1 h1
    refine ⟨U, F, ρ, s, true, s1, k, h1, fun b' F1 ρ1 H1 n1 k1 hb' => ?_⟩
    obtain rfl : b' = true := hb'
    show if true = true then _ else _
    rw [if_pos rfl]
    exact ⟨U, F1, ρ1, s1, r, s', k1, e1, fun v F' ρ' H' nx k' rs => q v F' ρ' H' (n1.trans nx) k' rs⟩
  · rename_i s1 h1
    refine ⟨U, F, ρ, s, false, s1, k, h1, fun b' F1 ρ1 H1 n1 k1 hb' => ?_⟩
    obtain rfl : b' = false := hb'
    show if false = true then _ else _
    rw [if_neg (by decide)]
    exact ⟨U, F1, ρ1, s1, r, s', k1, e1, fun v F' ρ' H' nx k' rs => q v F' ρ' H' (n1.trans nx) k' rs⟩
  · cases e1
end
end Mn

set_option Elab.async false
set_option linter.all false
set_option maxRecDepth 100000
set_option maxHeartbeats 4000000
/-! ## expressions: subscripts, displays, calls, methods -/
namespace Mn
open PySem L2 PyProof.Rows
section
variable {X : Cx} {EV : EVT} {C : Calls} {T : Tb} {n : Nat} {S : Sta} {pos : Pos}

theorem dget_key {k : Kd} {kvs : List (D × D)} {x : D} {r : Option D} (h : dget k kvs x = some r) : nodeD x = false := by
  cases hx : nodeD x with
  | false => rfl
  | true => cases x <;> first | (cases hx; done) | (cases k <;> cases h)
theorem c_ix {a i : E} {x y : Expr} (hu : X.A.units + 66 < cLine) (hy : shp y = true) (ha : PE X x (RdR X C a)) (hi : PE X y (RdE X C i)) : PE X (.Subscript x y pos) (RdE X C (.ix a i)) :=
  PE.imp (pe_ix (or_ix hu) ha (pe_V hi) (fun o i => shp_ix hy o i)) fun σ H Q => by
    rintro ⟨U, F, ρ, s, r, s', k, e, q⟩
    simp only [ev] at e
    split at e
    · rename_i p s1 h1
      split at e
      · rename_i o y' s2 h2
        split at e
        · rename_i x' h3
          split at e
          · rename_i d h4
            cases e
            refine ⟨U, F, ρ, s, p, s1, k, h1, fun v F1 ρ1 H1 n1 k1 r1 => ⟨U, F1, ρ1, s1, (o, y'), s', k1, h2, fun u F2 ρ2 H2 n2 k2 r2 => ?_⟩⟩
            exact ⟨U, F2, ρ2, s', σ, x', y', d, k2, k2.at (r1.mono n2) h3, r2, h4, fun v F' ρ' H' nx k' rs => q v F' ρ' H' ((n1.trans n2).trans nx) k' rs⟩
          · cases e
        · cases e
      · cases e
    · cases e
theorem c_none : PO X none (RdO X C .none) := PO.imp po_none fun σ H Q ⟨U, F, ρ, s, r, s', k, e, q⟩ => by
  simp only [evo] at e; cases e
  exact q none F ρ H (.refl _ _ _) k rfl
theorem c_some {e : E} {x : Expr} (h : PE X x (RdE X C e)) : PO X (some x) (RdO X C (.some e)) := PO.imp (po_some (pe_V h)) fun σ H Q => by
  rintro ⟨U, F, ρ, s, r, s', k, e1, q⟩
  simp only [evo] at e1
  split at e1
  · rename_i o i s1 h1
    cases e1
    refine ⟨U, F, ρ, s, _, s', k, h1, fun v F1 ρ1 H1 n1 k1 r1 => ?_⟩
    cases r1
    exact ⟨i, rfl, q _ F1 ρ1 H1 n1 k1 rfl⟩
  · cases e1
theorem c_sl {a : E} {lo hi : Eo} {x : Expr} {l h : Option Expr} {p2 : Pos} (ha : PE X x (RdR X C a)) (hl : PO X l (RdO X C lo)) (hh : PO X h (RdO X C hi)) : PE X (.Subscript x (.Slice l h none p2) pos) (RdE X C (.sl a lo hi)) :=
  PE.imp (pe_slice or_sl ha hl hh) fun σ H Q => by
    rintro ⟨U, F, ρ, s, r, s', k, e, q⟩
    simp only [ev] at e
    split at e
    · rename_i p s1 h1
      split at e
      · rename_i lo' s2 h2
        split at e
        · rename_i hi' s3 h3
          split at e
          · rename_i x' h4
            split at e
            · rename_i r' h5
              cases e
              refine ⟨U, F, ρ, s, p, s1, k, h1, fun v F1 ρ1 H1 n1 k1 r1 => ⟨U, F1, ρ1, s1, lo', s2, k1, h2, fun lv F2 ρ2 H2 n2 k2 r2 => ⟨U, F2, ρ2, s2, hi', s', k2, h3, fun hv F3 ρ3 H3 n3 k3 r3 => ?_⟩⟩⟩
              obtain rfl : lv = lo' := r2
              obtain rfl : hv = hi' := r3
              have rr := r1.mono (s' := s') (n2.trans n3)
              refine ⟨U, F3, ρ3, s', σ, x', r, k3, k3.at rr h4, fun ⟨ds, hd⟩ => ?_, h5, fun v F' ρ' H' nx k' rs => q v F' ρ' H' (((n1.trans n2).trans n3).trans nx) k' rs⟩
              subst hd
              exact k3.rep_of rr h4 rfl
            · cases e
          · cases e
        · cases e
      · cases e
    · cases e
theorem c_dic0A : PE X (.Dict [] [] pos) (RdE X C (.dic0 .a)) := PE.imp pe_dnewK fun σ H Q => by
  rintro ⟨U, F, ρ, s, r, s', k, e, q⟩
  simp only [ev] at e; cases e
  intro p hp
  exact VQ.newO (fun v F' ρ' H' nx k' rs => q v F' ρ' H' nx k' rs) k hp ⟨[], upd_same, .nil⟩
theorem c_dic0N : PE X (.Dict [] [] pos) (RdE X C (.dic0 .n)) := by
  refine ⟨fun pins s σ H Q I h => ?_⟩
  obtain ⟨U, F, ρ, fm, r, fm', k, e, q⟩ := h
  simp only [ev] at e; cases e
  have hp := I.hok.fresh (Nat.le_refl s.heap.objs.size)
  refine wpAny_Dict_empty ⟨.ref s.heap.objs.size, _, I.laid (a := s.heap.objs.size) (o := ND X.prog X.w s.heap.objs.size []) (t' := s.toks) (fun _ _ q => Heap.get?_push_of_some _ q) (Nat.le_refl _) ?_, rfl, ?_⟩
  · exact ⟨⟨Nat.zero_le _, beq_eq_false_iff_ne.mpr (Ne.symm (Nat.ne_of_lt I.big)), [], _, #[], 0, .nil, Heap.get?_push_size _ rfl, ⟨rfl, rfl, rfl⟩, rfl, rfl, List.nodup_nil⟩, ⟨_, Heap.get?_push_size _ rfl⟩, fun g1 g2 ⟨z1, z2, xs1, o1, des1, ep1, q1, q2, q3⟩ hk => ⟨z1, z2, xs1, o1, des1, ep1, q1, hk _ q2, q3⟩⟩
  · exact VQ.newO (fun v F' ρ' H' nx k' rs => q v F' ρ' H' nx k' rs) k hp ⟨[], upd_same, .nil⟩
theorem c_newc {e : E} {x : Expr} (h : PE X x (RdE X C e)) : PE X x (RdE X C (.newc e)) := PE.imp h fun σ H Q => by
  rintro ⟨U, F, ρ, s, r, s', k, e1, q⟩
  simp only [ev] at e1
  split at e1
  · rename_i d s1 h1
    cases e1
    refine ⟨U, F, ρ, s, _, s1, k, h1, fun v F1 ρ1 H1 n1 k1 r1 => ?_⟩
    obtain ⟨a, rfl, nd, hF, hU, hc, hs⟩ := r1.2 rfl
    refine q _ F1 (ρ1 ++ [a]) H1 (n1.trans .newC) (k1.newC nd hF hU hc hs) (.val (.ptr ?_))
    rw [← k1.cells]
    simp
  · cases e1

/-! ### calls -/
theorem star_plain {env : PySem.Env} : ∀ {xs : List Expr}, (∀ x ∈ xs, shp x = true) → (starEach xs env).any (·.1) = false
  | [], _ => rfl
  | x :: xs, h => by
    rw [shp_star (h x (by simp))]
    simp only [List.any_cons, Bool.false_or]
    exact star_plain fun y hy => h y (by simp [hy])
theorem back_any (pos : Pos) : ∀ (ts : List (Bool × Sem Value)), (backTo pos ts).any (·.1) = ts.any (·.1)
  | [] => rfl
  | (b, t) :: r => by
    show (b || (backTo pos r).any (·.1)) = (b || r.any (·.1))
    rw [back_any pos r]
theorem back_plain {env : PySem.Env} {xs : List Expr} (h : ∀ x ∈ xs, shp x = true) : (backTo pos (starEach xs env)).any (·.1) = false := by
  rw [back_any]
  exact star_plain h
theorem Reps_nil {P w K F ρ} : Reps P w K F ρ [] [] := .nil
theorem evs_len : ∀ {es : Es} {s s' : Fm} {ds : List D}, evs C es s = some (ds, s') → ds.length = lenEs es
  | .nil, _, _, _, h => by simp only [evs] at h; cases h; rfl
  | .cons e es, s, s', ds, h => by
    simp only [evs] at h
    split at h
    · split at h
      · rename_i ds' s2 h2
        cases h
        simp only [List.length_cons, lenEs, evs_len h2]
      · cases h
    · cases h
theorem c_call (c : Cnx T EV C n S X) {f : Nat} {g : Fn} {es : Es} {id : Str} {p : Pos} {x : Expr} {xs : List Expr} (hg : glB S.sc id = true) (hok : okN id = true) (hf : T.fns[f]? = some g) (hn : g.name = id) (hl : lenEs es = g.np)
    (hs : ∀ y ∈ x :: xs, shp y = true) (ha : PA X (x :: xs) (RdA X C es)) : PE X (.Call (.Name id p) (x :: xs) [] pos) (RdE X C (.call f es)) := by
  obtain ⟨a, fd, hm, hk, hb, F⟩ := c.fns f g hf
  subst hn
  refine PE.imp (pe_call (E := never) F c.room (gl_of c hg) hm hk hb .nil pass_never ha (okN_of hok).1 (shp_star (hs x (by simp))) (back_plain fun y hy => hs y (by simp [hy]))) fun σ H Q => ?_
  rintro ⟨U, F, ρ, s, r, s', k, e, q⟩
  simp only [ev] at e
  split at e
  · rename_i ds s1 h1
    split at e
    · rename_i r' mu' h2
      cases e
      refine ⟨U, F, ρ, s, ds, s1, k, h1, fun vs F1 ρ1 H1 n1 k1 r1 => ?_⟩
      have ent := k1.enter (n := 0) (N := []) rfl Reps_nil
      refine ⟨outer U s1 σ H1, F1, ρ1, s1.mu, ds, .ok r, mu', ?_, ?_, ?_, h2, fun q' hq v F2 ρ2 H2 sl' σ' n2 k2 r2 => ?_, fun d hd => by cases hd⟩
      · rw [List.append_nil, r1.length, evs_len h1, hl]
      · exact ent
      · rw [List.append_nil]; exact r1
      · cases hq
        exact q v F2 ρ2 H2 (n1.trans n2) (k1.leave n2 k2) (k1.leaveR r2)
    · cases e
  · cases e
end
end Mn

set_option Elab.async false
set_option linter.all false
set_option maxRecDepth 100000
set_option maxHeartbeats 4000000
/-! ## built-in functions, isinstance, methods -/
namespace Mn
open PySem L2 PyProof.Rows
section
variable {X : Cx} {EV : EVT} {C : Calls} {T : Tb} {n : Nat} {S : Sta} {pos : Pos}

theorem RefsAt.ats {P : Program} {w : World} {K : PySem.W.Frag} {U F H : Hp} {ρ : List Addr} {s : Fm} {σ : L2.St} (k : Ok P w K U F ρ s σ H) : ∀ {vs : List V} {ps : List Ref} {xs : List D}, RefsAt P w K U F ρ s σ H vs ps → rds s ps = some xs → Ats P w K F ρ H vs xs
  | _, _, _, .nil, e => by simp only [rds] at e; cases e; exact .nil
  | _, _, _, .cons h r, e => by
    simp only [rds] at e
    split at e
    · rename_i d ds h1 h2
      cases e
      exact .cons (k.at h h1) (RefsAt.ats k r h2)
    · cases e
theorem RefsAt.one {P : Program} {w : World} {K : PySem.W.Frag} {U F H : Hp} {ρ : List Addr} {s : Fm} {σ : L2.St} (k : Ok P w K U F ρ s σ H) {vs : List V} {ps : List Ref} {es : List D} (h : RefsAt P w K U F ρ s σ H vs ps) (e : rds s ps = some [.tup es]) : ∃ x, vs = [x] ∧ Rep P w K F ρ x (.tup es) := by
  cases h with
  | nil => simp only [rds] at e; cases e
  | cons h r =>
    simp only [rds] at e
    split at e
    · rename_i d ds h1 h2
      cases e
      cases r with
      | nil => exact ⟨_, rfl, k.rep_of h h1 rfl⟩
      | cons h' r' =>
        simp only [rds] at h2
        split at h2
        · cases h2
        · cases h2
    · cases e
theorem RefsAt.mono {P : Program} {w : World} {K : PySem.W.Frag} {U F F' H H' : Hp} {ρ ρ' : List Addr} {s s' : Fm} {σ : L2.St} (x : Nx F ρ H F' ρ' H') : ∀ {vs : List V} {ps : List Ref}, RefsAt P w K U F ρ s σ H vs ps → RefsAt P w K U F' ρ' s' σ H' vs ps
  | _, _, .nil => .nil
  | _, _, .cons h r => .cons (h.mono x) (r.mono x)
theorem i_fun {b : Blt} {es : Es} {σ : L2.St} {H : Hp} {Q : VK} (h : RdE X C (.blt b es) σ H Q) : tCB (rF X.prog X.w X.K b) (RdRs X C es) σ H Q := by
  obtain ⟨U, F, ρ, s, r, s', k, e, q⟩ := h
  simp only [ev] at e
  split at e
  · rename_i ps s1 h1
    split at e
    · rename_i xs h2
      split at e
      · rename_i r' h3
        cases e
        refine ⟨U, F, ρ, s, ps, s', k, h1, fun vs F1 ρ1 H1 n1 k1 r1 => ?_⟩
        exact ⟨U, F1, ρ1, s', σ, xs, r, k1, r1.ats k1 h2, h3, fun v F' ρ' H' nx k' rs => q v F' ρ' H' (n1.trans nx) k' rs⟩
      · cases e
    · cases e
  · cases e
theorem i_type {b : Blt} {es : Es} {σ : L2.St} {H : Hp} {Q : VK} (h : RdE X C (.blt b es) σ H Q) : tCB (rFT X.prog X.w X.K b) (RdRs X C es) σ H Q := by
  obtain ⟨U, F, ρ, s, r, s', k, e, q⟩ := h
  simp only [ev] at e
  split at e
  · rename_i ps s1 h1
    split at e
    · rename_i xs h2
      split at e
      · rename_i r' h3
        cases e
        refine ⟨U, F, ρ, s, ps, s', k, h1, fun vs F1 ρ1 H1 n1 k1 r1 => ?_⟩
        refine ⟨U, F1, ρ1, s', σ, xs, r, k1, r1.ats k1 h2, ?_, h3, fun v F' ρ' H' nx k' rs => q v F' ρ' H' (n1.trans nx) k' rs⟩
        rintro ⟨x, es, rfl, rfl⟩
        obtain ⟨y, e1, e2⟩ := r1.one k1 h2
        exact ⟨y, es, e1, rfl, e2⟩
      · cases e
    · cases e
  · cases e
def funs : List Blt := [.len, .min2, .max2, .any, .all]
def typs : List Blt := [.list, .tuple, .int]
theorem fun_boot : ∀ b ∈ funs, bootBuiltins (Str.ofString (bltN b)) = some (.builtin (bltN b)) ∧ Str.ofString (bltN b) ≠ "__name__" ∧ (Str.ofString (bltN b) == ("__debug__" : Str)) = false ∧ Str.ofString (bltN b) ∈ bltNames := by decide +kernel
theorem typ_boot : ∀ b ∈ typs, bootBuiltins (Str.ofString (bltN b)) = some (.type (bltN b)) ∧ Str.ofString (bltN b) ≠ "__name__" ∧ (Str.ofString (bltN b) == ("__debug__" : Str)) = false ∧ Str.ofString (bltN b) ∈ bltNames := by decide +kernel
theorem c_blt (c : Cnx T EV C n S X) {b : Blt} {es : Es} {id : Str} {p : Pos} {x : Expr} {xs : List Expr} (hb : b ∈ [Blt.len, .list, .tuple, .int, .min2, .max2, .any, .all]) (hid : id = Str.ofString (bltN b)) (hg : glB S.sc id = true) (hs : ∀ y ∈ x :: xs, shp y = true) (ha : PA X (x :: xs) (RdRs X C es)) :
    PE X (.Call (.Name id p) (x :: xs) [] pos) (RdE X C (.blt b es)) := by
  subst hid
  have h2 : b ∈ funs ∨ b ∈ typs := by
    simp only [List.mem_cons, List.not_mem_nil, or_false] at hb
    rcases hb with rfl | rfl | rfl | rfl | rfl | rfl | rfl | rfl <;> first | exact .inl (by decide) | exact .inr (by decide)
  rcases h2 with h2 | h2
  · obtain ⟨b1, b2, b3, b4⟩ := fun_boot b h2
    have h3 : b = .len ∨ b = .min2 ∨ b = .max2 ∨ b = .any ∨ b = .all := by
      simpa only [funs, List.mem_cons, List.not_mem_nil, or_false] using h2
    exact PE.imp (pe_callB (or_fun h3 c.calm) (gl_of c hg) (c.blt _ b4) b1 ha b2 b3 (shp_star (hs x (by simp))) (back_plain fun y hy => hs y (by simp [hy]))) fun _ _ _ h => i_fun h
  · obtain ⟨b1, b2, b3, b4⟩ := typ_boot b h2
    have h3 : b = .list ∨ b = .tuple ∨ b = .int := by
      simpa only [typs, List.mem_cons, List.not_mem_nil, or_false] using h2
    exact PE.imp (pe_callTy (or_type h3) (gl_of c hg) (c.blt _ b4) b1 ha b2 b3 (shp_star (hs x (by simp))) (back_plain fun y hy => hs y (by simp [hy]))) fun _ _ _ h => i_type h
def isiTs : List String := ["bool", "int", "str", "tuple", "list", "dict"]
theorem isi_boot : ∀ t ∈ isiTs, bootBuiltins (Str.ofString t) = some (.type t) ∧ Str.ofString t ≠ "__name__" ∧ (Str.ofString t == ("__debug__" : Str)) = false ∧ Str.ofString t ∈ bltNames := by decide +kernel
theorem c_isi (c : Cnx T EV C n S X) {ty : String} {e : E} {id t : Str} {p p2 : Pos} {x : Expr} (hid : id = "isinstance") (hg : glB S.sc id = true) (ht : t = Str.ofString ty) (hgt : glB S.sc t = true) (hty : ty ∈ isiTs) (hs : shp x = true) (h : PE X x (RdR X C e)) :
    PE X (.Call (.Name id p) [x, .Name t p2] [] pos) (RdE X C (.isi ty e)) := by
  subst hid ht
  obtain ⟨b1, b2, b3, b4⟩ := isi_boot ty hty
  have hn : PE X (.Name (Str.ofString ty) p2) (tC (.ty ty)) := pe_bltn (gl_of c hgt) (c.blt _ b4) b1 rfl b2 b3
  refine PE.imp (pe_callB (or_isi hty) (gl_of c hg) (c.blt _ (by decide)) boot_isinstance (pa_cons h (pa_cons hn pa_nil (shp_star rfl)) (shp_star hs)) (by decide) (by decide) (shp_star hs) (back_plain fun y hy => by simp at hy; subst hy; rfl)) fun σ H Q => ?_
  rintro ⟨U, F, ρ, s, r, s', k, e1, q⟩
  simp only [ev] at e1
  split at e1
  · rename_i p' s1 h1
    split at e1
    · cases e1
    · rename_i d hp h2
      cases e1
      refine ⟨U, F, ρ, s, p', s', k, h1, fun v F1 ρ1 H1 n1 k1 r1 => ?_⟩
      exact ⟨U, F1, ρ1, s', σ, v, d, k1, k1.at r1 h2, hp, rfl, q _ F1 ρ1 H1 n1 k1 (.val (.bl _))⟩
    · cases e1
  · cases e1

/-! ### methods -/
def mthI : Mth → String
  | .append => "list.append" | .pop => "list.pop" | .popAt => "list.pop" | .index => "list.index" | .extend => "list.extend" | .get1 => "dict.get" | .get2 => "dict.get" | .popKey => "dict.pop" | .popKey2 => "dict.pop"
def rM (P : Program) (w : World) (K : PySem.W.Frag) (m : Mth) : V → List V → Hp → VK → Prop := fun x xs H Q => ∃ U F ρ fm τ p d ds r y fm', Ok P w K U F ρ fm τ H ∧ RefAt P w K U F ρ fm τ H x p ∧ Reps P w K F ρ xs ds ∧ fm.rd p = some d ∧ mthD m d ds = some (r, y) ∧
  (y = none → fm' = fm) ∧ (∀ z, y = some z → fm.wr p z = some fm') ∧ ∀ v F' ρ' H', Nx F ρ H F' ρ' H' → Ok P w K U F' ρ' fm' τ H' → Res P w K U F' ρ' fm' τ H' v r → Q v H'
def tMth (P : Program) (w : World) (K : PySem.W.Frag) (m : Mth) (r : V → List V → Hp → VK → Prop) (to : TE) (t : TA) : TE := fun σ H Q => to σ H fun x H1 => (∃ U F ρ fm τ d, Ok P w K U F ρ fm τ H1 ∧ At P w K F ρ H1 x d ∧ mthK m d = true) ∧ t σ H1 fun xs H2 => r x xs H2 Q
theorem mth_ty {pins : List (Addr × Obj)} {s1 : Shared} {σ τ : L2.St} {H1 U F : Hp} {ρ : List Addr} {fm : Fm} {m : Mth} {x : V} {v : Value} {d : D} (I1 : Inv X pins σ H1 s1) (r1 : RelV x v) (k : Ok X.prog X.w X.K U F ρ fm τ H1) (hat : At X.prog X.w X.K F ρ H1 x d) (hk : mthK m d = true) :
    s1.TypeIs v (mthT m) ∧ ∀ a, v = .ref a → ∃ ob, s1.heap.get? a = some ob ∧ ob.dict = none := by
  have hk : tyD d = mthT m := by simpa only [mthK, beq_iff_eq] using hk
  rw [← hk]
  cases d with
  | lst ds =>
    obtain ⟨a, vs, rfl, hq, _⟩ := hat
    cases r1
    obtain ⟨its, _, pl, _⟩ := I1.list hq
    refine ⟨pl.isList.typeIs, fun a e => ?_⟩
    cases e
    obtain ⟨o, n, e, c, hd, _⟩ := pl
    exact ⟨o, e, hd⟩
  | dic kd kvs =>
    obtain ⟨b, rfl, h1, h2, _⟩ := dic_type I1 k hat
    cases r1
    exact ⟨h1, h2⟩
  | _ => cases m <;> simp [tyD, mthT] at hk
theorem pe_mth {m : Mth} {o x0 : Expr} {xs : List Expr} {apos cpos : Pos} {to : TE} {t : TA} {r : V → List V → Hp → VK → Prop} (pa : PlainAttrs (mthT m)) (slot : Slot (mthT m) (mthN m) (mthI m)) (hty : typeOf (.builtin (mthI m)) = pure (.type "method_descriptor")) (hm : MtR X (mthI m) r)
    (ho : PE X o to) (ha : PA X (x0 :: xs) t) (hbase : isC0 o = false) (hline : (apos.endLine == cpos.line) = true) (hs : ∀ y ∈ x0 :: xs, shp y = true) (hl : (x0 :: xs).length < 30) : PE X (.Call (.Attribute o (mthN m) apos) (x0 :: xs) [] cpos) (tMth X.prog X.w X.K m r to t) := by
  refine ⟨fun pins s σ H Q I h => ?_⟩
  have hplain := back_plain (pos := cpos) (env := X.env) hs
  have hplain2 := back_plain (pos := cpos) (env := X.env) (xs := xs) fun y hy => hs y (by simp [hy])
  have hst := shp_star (xs := xs) (env := X.env) (hs x0 (by simp))
  have hfew : ((backTo cpos (starEach (x0 :: xs) X.env)).all (fun x => !x.1) && (backToKw cpos (keywordEach [] X.env)).all (fun x => x.1.isSome)
      && decide ((x0 :: xs).length + ([] : List Keyword).length + (if ([] : List Keyword).isEmpty then 0 else 1) < 30)) = true := by
    have e1 : (backTo cpos (starEach (x0 :: xs) X.env)).all (fun x => !x.1) = true := by
      rw [List.all_eq_not_any_not]
      simpa using hplain
    have hl' : xs.length + 1 < 30 := hl
    simp [e1, hl', keywordEach, backToKw]
  refine wpAny_Call_method_late (c0_base hbase _ _) hfew hline rfl (thn (ho.run pins s σ H _ I h) fun v s1 ⟨x, H1, I1, r1, ⟨U, F, ρ, fm, τ, d, k, hat, hk⟩, q1⟩ => ?_)
  obtain ⟨h1, h2⟩ := mth_ty I1 r1 k hat hk
  refine ⟨mthT m, mthI m, pa, slot, hty, h1, h2, ?_⟩
  have hA := ha.run cpos pins s1 σ H1 _ I1 q1
  rw [hst] at hA ⊢
  exact Calls.callWith_builtin (by show (false || (backTo cpos (starEach xs X.env)).any (·.1)) = false; rw [hplain2] <;> rfl) (Calls.evalArgs_plain (thn hA fun us s2 ⟨vs, H2, I2, r2, q2⟩ => hm pins s2 σ H2 x vs v us Q I2 r1 r2 q2))
theorem pe_mth0 {m : Mth} {o : Expr} {apos cpos : Pos} {to : TE} {r : V → List V → Hp → VK → Prop} (pa : PlainAttrs (mthT m)) (slot : Slot (mthT m) (mthN m) (mthI m)) (hty : typeOf (.builtin (mthI m)) = pure (.type "method_descriptor")) (hm : MtR X (mthI m) r)
    (ho : PE X o to) (hbase : isC0 o = false) (hline : (apos.endLine == cpos.line) = true) : PE X (.Call (.Attribute o (mthN m) apos) [] [] cpos) (tMth X.prog X.w X.K m r to tNil) := by
  refine ⟨fun pins s σ H Q I h => ?_⟩
  refine wpAny_Call_method0_late (c0_base hbase _ _) hline (thn (ho.run pins s σ H _ I h) fun v s1 ⟨x, H1, I1, r1, ⟨U, F, ρ, fm, τ, d, k, hat, hk⟩, q1⟩ => ?_)
  obtain ⟨h1, h2⟩ := mth_ty I1 r1 k hat hk
  exact ⟨mthT m, mthI m, pa, slot, hty, h1, h2, Calls.callWith_builtin rfl (PySem.evalArgs_none (hm pins s1 σ H1 x [] v [] Q I1 r1 .nil q1))⟩
theorem i_mth {m : Mth} {a : E} {es : Es} {σ : L2.St} {H : Hp} {Q : VK} (h : RdE X C (.mth m a es) σ H Q) : tMth X.prog X.w X.K m (rM X.prog X.w X.K m) (RdR X C a) (RdA X C es) σ H Q := by
  obtain ⟨U, F, ρ, s, r, s', k, e, q⟩ := h
  simp only [ev] at e
  split at e
  · rename_i p s1 h1
    split at e
    · rename_i x0 h2
      split at e
      · rename_i hk
        split at e
        · rename_i ds s2 h3
          split at e
          · rename_i x h4
            refine ⟨U, F, ρ, s, p, s1, k, h1, fun v F1 ρ1 H1 n1 k1 r1 => ⟨⟨U, F1, ρ1, s1, σ, x0, k1, k1.at r1 h2, hk⟩, U, F1, ρ1, s1, ds, s2, k1, h3, fun vs F2 ρ2 H2 n2 k2 r2 => ?_⟩⟩
            split at e
            · rename_i r' h5
              cases e
              exact ⟨U, F2, ρ2, s', σ, p, x, ds, r, none, s', k2, r1.mono n2, r2, h4, h5, fun _ => rfl, (by intro z hz; cases hz), fun v F' ρ' H' nx k' rs => q v F' ρ' H' ((n1.trans n2).trans nx) k' rs⟩
            · rename_i r' y h5
              split at e
              · rename_i s3 h6
                cases e
                refine ⟨U, F2, ρ2, s2, σ, p, x, ds, r, some y, s', k2, r1.mono n2, r2, h4, h5, (by intro z; cases z), fun z hz => ?_, fun v F' ρ' H' nx k' rs => q v F' ρ' H' ((n1.trans n2).trans nx) k' rs⟩
                cases hz
                exact h6
              · cases e
            · cases e
          · cases e
        · cases e
      · cases e
    · cases e
  · cases e
theorem i_nil {σ : L2.St} {H : Hp} {Q : List V → Hp → Prop} (h : RdA X C .nil σ H Q) : tNil σ H Q := by
  obtain ⟨U, F, ρ, s, r, s', k, e, q⟩ := h
  simp only [evs] at e; cases e
  exact q [] F ρ H (.refl _ _ _) k .nil

/-! ### what the methods do -/
theorem or_append : MtR X "list.append" (rM X.prog X.w X.K .append) := by
  intro pins s σ H x xs v us Q I rx rv h
  obtain ⟨U, F, ρ, fm, τ, p, d, ds, r, y, fm', k, hp, hd, e1, e2, _, e3, q⟩ := h
  unfold mthD at e2
  split at e2 <;> rename_i hm <;> first | cases hm | skip
  · split at e2
    · rename_i hl
      cases e2
      obtain ⟨a, x', rfl, e4, hF, n, wr⟩ := k.wr hp (e3 _ rfl)
      rw [e1] at e4; cases e4
      obtain ⟨vs, h1, h2⟩ := n
      cases hd with
      | cons hd1 hd2 =>
        cases hd2
        refine mt_append pins s σ H _ _ v us Q I rx rv ⟨a, vs, _, rfl, rfl, h1, by rw [h2.length]; exact lim_lt hl, ?_⟩
        obtain ⟨k', x'⟩ := wr (.lst (vs ++ [_])) ⟨_, upd_same, h2.snoc hd1⟩
        exact q _ F ρ _ x' k' (.val .non)
    · cases e2
  · cases e2
theorem or_pop : MtR X "list.pop" (rM X.prog X.w X.K .pop) := by
  intro pins s σ H x xs v us Q I rx rv h
  obtain ⟨U, F, ρ, fm, τ, p, d, ds, r, y, fm', k, hp, hd, e1, e2, _, e3, q⟩ := h
  unfold mthD at e2
  split at e2 <;> rename_i hm <;> first | cases hm | skip
  · split at e2
    · rename_i z hz
      cases e2
      obtain ⟨a, x', rfl, e4, hF, n, wr⟩ := k.wr hp (e3 _ rfl)
      rw [e1] at e4; cases e4
      obtain ⟨vs, h1, h2⟩ := n
      cases hd
      obtain ⟨v', hv, hr⟩ := h2.get hz
      refine mt_pop pins s σ H _ _ v us Q I rx rv ⟨a, vs, v', rfl, rfl, h1, by rw [h2.length]; exact hv, ?_⟩
      obtain ⟨k', x'⟩ := wr (.lst vs.dropLast) ⟨_, upd_same, h2.dropLast⟩
      exact q _ F ρ _ x' k' (.val hr)
    · cases e2
  · cases e2
theorem or_index : MtR X "list.index" (rM X.prog X.w X.K .index) := by
  intro pins s σ H x xs v us Q I rx rv h
  obtain ⟨U, F, ρ, fm, τ, p, d, ds, r, y, fm', k, hp, hd, e1, e2, e5, e3, q⟩ := h
  unfold mthD at e2
  split at e2 <;> rename_i hm <;> first | cases hm | skip
  · split at e2
    · rename_i hf
      split at e2
      · rename_i j hj
        cases e2
        cases e5 rfl
        obtain ⟨a, vs, rfl, hq, hr⟩ := k.at hp e1
        cases hd with
        | cons hd1 hd2 =>
          cases hd2
          rw [List.findIdx?_eq_some_iff_getElem] at hj
          obtain ⟨hlt, hjt, hjn⟩ := hj
          obtain ⟨z, hz, rz⟩ := hr.get (List.getElem?_eq_getElem hlt)
          have fl := List.all_eq_true.mp hf.2
          refine mt_index pins s σ H _ _ v us Q I rx rv ⟨a, vs, _, j, z, rfl, rfl, hq, flat_rep hd1 hf.1, flat_reps hr hf.2, hz, ?_, ?_, ?_⟩
          · rw [eqF_rep rz hd1 (fl _ (List.getElem_mem hlt)) hf.1]; exact hjt
          · intro m z' hm hz'
            have hm2 := Nat.lt_trans hm hlt
            obtain ⟨z2, hz2, rz2⟩ := hr.get (List.getElem?_eq_getElem hm2)
            rw [hz'] at hz2; cases hz2
            rw [eqF_rep rz2 hd1 (fl _ (List.getElem_mem hm2)) hf.1]
            exact Bool.not_eq_true _ ▸ hjn m hm
          · exact q _ F ρ H (.refl _ _ _) k (.val (.int _))
      · cases e2
    · cases e2
  · cases e2
theorem v_getOr {pins : List (Addr × Obj)} {σ τ : L2.St} {H U F : Hp} {ρ : List Addr} {fm : Fm} {s : Shared} {A : Around} {E : Value → Shared → Prop} {v y : V} {x : D} {u : Value} {kd : Kd} {kvs : List (D × D)} {r : Option D} (hu : A.units + 16 < cLine) (I : Inv X pins σ H s) (k : Ok X.prog X.w X.K U F ρ fm τ H) (at_ : At X.prog X.w X.K F ρ H v (.dic kd kvs)) (rx : Rep X.prog X.w X.K F ρ y x)
    (hd : dget kd kvs x = some r) (ry : RelV y u) :
    ∃ b, v = .ref b ∧ (∀ {Q : Value → Shared → Prop}, (∀ v' w' s', Inv X pins σ H s' → RelV v' w' → Rep X.prog X.w X.K F ρ v' (r.getD .non) → Q w' s') → wpAny (model X.prog X.w) A (call (.builtin "dict.get") [.ref b, u]) Q E s) ∧
      ∀ {Q : Value → Shared → Prop} (v2 : V) (u2 : Value) (d2 : D), RelV v2 u2 → Rep X.prog X.w X.K F ρ v2 d2 → (∀ v' w' s', Inv X pins σ H s' → RelV v' w' → Rep X.prog X.w X.K F ρ v' (r.getD d2) → Q w' s') → wpAny (model X.prog X.w) A (call (.builtin "dict.get") [.ref b, u, u2]) Q E s := by
  unfold dget at hd
  cases kd with
  | a =>
    obtain ⟨b, ks, rfl, e, rr⟩ := at_
    refine ⟨b, rfl, ?_⟩
    split at hd
    · rename_i c hc
      obtain ⟨q, eq, rfl⟩ := ck_a hc
      cases atom_V rx eq
      cases hd
      rcases rr.find (q := q) with ⟨h1, h2⟩ | ⟨d', v', h1, h2, h3⟩
      · rw [h1]
        exact ⟨fun h => d_get1 (o := none) (by omega) I (.inl ⟨ks, q, e, rfl, h2.symm⟩) ry fun w' s' I' r' => h _ w' s' I' r' .non,
          fun v2 u2 d2 r2 rp h => d_get2 (o := none) (by omega) I (.inl ⟨ks, q, e, rfl, h2.symm⟩) ry r2 fun w' s' I' r' => h _ w' s' I' r' rp⟩
      · rw [h1]
        exact ⟨fun h => d_get1 (o := some v') (by omega) I (.inl ⟨ks, q, e, rfl, h2.symm⟩) ry fun w' s' I' r' => h _ w' s' I' r' h3,
          fun v2 u2 d2 r2 rp h => d_get2 (o := some v') (by omega) I (.inl ⟨ks, q, e, rfl, h2.symm⟩) ry r2 fun w' s' I' r' => h _ w' s' I' r' h3⟩
    · cases hd
  | n =>
    obtain ⟨b, es, rfl, e, rr⟩ := at_
    refine ⟨b, rfl, ?_⟩
    split at hd
    · rename_i c hc
      obtain ⟨ds, ks, rfl, _, _, rfl⟩ := ck_n hc
      obtain ⟨z, hm, xs, px, dd⟩ := nd_of I k e rr
      obtain ⟨b', eb, hb⟩ := key_is I k rx hc
      subst eb
      cases ry
      cases hd
      have hr : (nestedKind X.prog X.w).room A.in1 := show A.in1.units + 8 < cLine by show A.units + 1 + 8 < cLine; omega
      have hv : ∃ v', Rep X.prog X.w X.K F ρ v' ((dfind .n (.n (.tup ks)) kvs).getD .non) ∧ RelV v' ((valueAt (pairsH xs) (.tup ks)).getD .none) ∧
          ∀ v2 u2 d2, RelV v2 u2 → Rep X.prog X.w X.K F ρ v2 d2 → ∃ v', Rep X.prog X.w X.K F ρ v' ((dfind .n (.n (.tup ks)) kvs).getD d2) ∧ RelV v' ((valueAt (pairsH xs) (.tup ks)).getD u2) := by
        rw [valueAt_pairsH]
        rcases rr.find px (q := .tup ks) with ⟨h1, h2⟩ | ⟨d', p, v', h1, h2, h3, h4⟩
        · rw [h1, h2]
          exact ⟨.non, .non, rfl, fun v2 u2 d2 r2 rp => ⟨v2, rp, r2⟩⟩
        · rw [h1, h2]
          exact ⟨v', h4, h3, fun v2 u2 d2 r2 rp => ⟨v', h4, h3⟩⟩
      obtain ⟨v', g1, g2, g3⟩ := hv
      refine ⟨fun h => get_keyed hr hb hm ⟨xs, dd, rfl⟩ (h _ _ _ (I.tok _) g2 g1), fun v2 u2 d2 r2 rp h => ?_⟩
      obtain ⟨v'', g4, g5⟩ := g3 v2 u2 d2 r2 rp
      exact getOr_keyed hr hb hm ⟨xs, dd, rfl⟩ (h _ _ _ (I.tok _) g5 g4)
    · cases hd
theorem or_get1 (hu : X.A.units + 66 < cLine) : MtR X "dict.get" (rM X.prog X.w X.K .get1) := by
  intro pins s σ H x xs v us Q I rx rv h
  obtain ⟨U, F, ρ, fm, τ, p, d, ds, r, y, fm', k, hp, hd, e1, e2, e5, e3, q⟩ := h
  unfold mthD at e2
  split at e2 <;> rename_i hm <;> first | cases hm | skip
  · split at e2
    · rename_i r' hr
      cases e2
      cases e5 rfl
      cases hd with
      | cons hd1 hd2 =>
        cases hd2
        obtain ⟨u1, rfl, r1⟩ := rv.one
        obtain ⟨b, rfl, g1, _⟩ := v_getOr (A := X.A) (E := X.xe) (by omega) I k (k.at hp e1) hd1 hr r1
        cases rx
        exact g1 fun v' w' s' I' rw' rp => ⟨v', H, I', rw', q v' F ρ H (.refl _ _ _) k (.val rp)⟩
    · cases e2
  · cases e2
theorem or_get2 (hu : X.A.units + 66 < cLine) : MtR X "dict.get" (rM X.prog X.w X.K .get2) := by
  intro pins s σ H x xs v us Q I rx rv h
  obtain ⟨U, F, ρ, fm, τ, p, d, ds, r, y, fm', k, hp, hd, e1, e2, e5, e3, q⟩ := h
  unfold mthD at e2
  split at e2 <;> rename_i hm <;> first | cases hm | skip
  · split at e2
    · rename_i r' hr
      cases e2
      cases e5 rfl
      cases hd with
      | cons hd1 hd2 =>
        cases hd2 with
        | cons hd2 hd3 =>
          cases hd3
          obtain ⟨u1, u2, rfl, r1, r2⟩ := vals2 rv
          obtain ⟨b, rfl, _, g2⟩ := v_getOr (A := X.A) (E := X.xe) (by omega) I k (k.at hp e1) hd1 hr r1
          cases rx
          exact g2 _ _ _ r2 hd2 fun v' w' s' I' rw' rp => ⟨v', H, I', rw', q v' F ρ H (.refl _ _ _) k (.val rp)⟩
    · cases e2
  · cases e2
/-- the methods that are known -/
def mths : List Mth := [.append, .pop, .index, .get1, .get2]
theorem or_mth (hu : X.A.units + 66 < cLine) {m : Mth} (h : m ∈ mths) : PlainAttrs (mthT m) ∧ Slot (mthT m) (mthN m) (mthI m) ∧ typeOf (.builtin (mthI m)) = pure (.type "method_descriptor") ∧ MtR X (mthI m) (rM X.prog X.w X.K m) := by
  simp only [mths, List.mem_cons, List.not_mem_nil, or_false] at h
  rcases h with rfl | rfl | rfl | rfl | rfl
  · exact ⟨F.plainAttrs_list, F.slot_list_append, F.type_list_append, or_append⟩
  · exact ⟨F.plainAttrs_list, F.slot_list_pop, F.type_list_pop, or_pop⟩
  · exact ⟨F.plainAttrs_list, F.slot_list_index, F.type_list_index, or_index⟩
  · exact ⟨F.plainAttrs_dict, F.slot_dict_get, F.type_dict_get, or_get1 hu⟩
  · exact ⟨F.plainAttrs_dict, F.slot_dict_get, F.type_dict_get, or_get2 hu⟩
theorem c_mth (hu : X.A.units + 66 < cLine) {m : Mth} {a : E} {es : Es} {o : Expr} {xs : List Expr} {nm : Str} {apos cpos : Pos} (hm : m ∈ mths) (hn : nm = mthN m) (ho : PE X o (RdR X C a)) (ha : PA X xs (RdA X C es)) (hbase : isC0 o = false) (hline : (apos.endLine == cpos.line) = true)
    (hs : ∀ y ∈ xs, shp y = true) (hl : xs.length < 30) (h0 : xs = [] → es = .nil) : PE X (.Call (.Attribute o nm apos) xs [] cpos) (RdE X C (.mth m a es)) := by
  subst hn
  obtain ⟨pa, sl, ty, mt⟩ := or_mth (X := X) hu hm
  cases xs with
  | nil =>
    cases h0 rfl
    exact PE.imp (pe_mth0 pa sl ty mt ho hbase hline) fun σ H Q h => by
      have h2 := i_mth h
      obtain ⟨U, F, ρ, s, p, s', k, e, q⟩ := h2
      exact ⟨U, F, ρ, s, p, s', k, e, fun v F' ρ' H' nx k' rs => ⟨(q v F' ρ' H' nx k' rs).1, i_nil (q v F' ρ' H' nx k' rs).2⟩⟩
  | cons x xs => exact PE.imp (pe_mth pa sl ty mt ho ha hbase hline hs hl) fun σ H Q h => i_mth h
end
end Mn

set_option Elab.async false
set_option linter.all false
set_option maxRecDepth 100000
set_option maxHeartbeats 4000000
/-! ## iterators: enumerate of a tuple, keys of a dict of nested keys -/
namespace PySem
open Sem (wp)
theorem mn_enumerate_newT (l : Addr) (items : Array Value) (ob : Obj) (hob : ob.cls = .type "tuple" ∧ ∃ n, ob.data = .seq items n) :
    Meets (Builtin.«enumerate.__new__» ⟨[.type "enumerate", .ref l], []⟩) (fun _ R s => s.heap.get? l = some ob ∧
      R (.ok (.ret (.ref (s.heap.push { cls := .type "tuple_iterator", data := .fields #[.ref l, .int 0 0] }).objs.size)))
        { s with heap := (s.heap.push { cls := .type "tuple_iterator", data := .fields #[.ref l, .int 0 0] }).push { cls := .type "enumerate", data := .fields #[.none, .bool false, .ref s.heap.objs.size, rawInt 0, .none, .none] } }) :=
  .of_wp fun prog w A R s h => by
    obtain ⟨hp, g, d, tk, os⟩ := s; obtain ⟨hl, h⟩ := h
    have hsub := sub_enumerate
    have hL : Heap.IsTuple (Shared.heap ⟨hp, g, d, tk, os⟩) l items := ⟨_, hl, hob.1, hob.2⟩
    obtain ⟨c, dct, dt, sl⟩ := ob
    obtain ⟨hc, n, hd⟩ := hob
    replace hc : c = .type "tuple" := hc
    replace hd : dt = .seq items n := hd
    subst hc hd
    wp_walk using AutoSeq1.wpAny_loadPart' hl
    refine wpAny_stack_any fun st => wpAny_pure ?_
    split
    · rename_i c _ _ _ _ _
      cases (c == Value.type "enumerate")
      · wp_walk using AutoSeq1.wpAny_loadPart' hl, wpAny_pyIter_tuple hL
        exact ⟨_, rfl, h⟩
      · wp_walk using AutoSeq1.wpAny_loadPart' hl, wpAny_pyIter_tuple hL
        exact ⟨_, rfl, h⟩
    · wp_walk using AutoSeq1.wpAny_loadPart' hl, wpAny_pyIter_tuple hL
      exact ⟨_, rfl, h⟩
theorem mn_enumerate_tuple {prog : Program} {w : World} {A : Around} {E : Value → Shared → Prop} {s : Shared} {l : Addr} {items : Array Value} {Q : Value → Shared → Prop} (hL : s.heap.IsTuple l items)
    (h : ∀ h', IsEnum h' (s.heap.objs.size + 1) s.heap.objs.size 0 .none → h'.IsTupleIter s.heap.objs.size l 0 → h'.objs.size = s.heap.objs.size + 2 →
      (∀ b o, s.heap.get? b = some o → h'.get? b = some o) → Q (.ref (s.heap.objs.size + 1)) { s with heap := h' }) :
    wpAny (model prog w) A (call (.type "enumerate") [.ref l]) Q E s := by
  obtain ⟨ob, hl, hc, hd⟩ := hL
  refine callType_new F.called_enumerate (by decide) (F.typeCall_enumerate_1 _) (F.newCall_enumerate_1 _) (fun obj => F.args_object_init_2 obj _) F.entry_enumerate_new
    (mn_enumerate_newT l items ob ⟨hc, hd⟩) ⟨hl, ?_⟩
  have hz : (s.heap.push { cls := .type "tuple_iterator", data := .fields #[.ref l, .int 0 0] }).objs.size = s.heap.objs.size + 1 := Heap.size_push ..
  show _ ∧ _
  rw [hz]
  have he : IsEnum ((s.heap.push { cls := .type "tuple_iterator", data := .fields #[.ref l, .int 0 0] }).push
      { cls := .type "enumerate", data := .fields #[.none, .bool false, .ref s.heap.objs.size, rawInt 0, .none, .none] }) (s.heap.objs.size + 1) s.heap.objs.size 0 .none := by
    have := Heap.get?_push_size (s.heap.push { cls := .type "tuple_iterator", data := .fields #[.ref l, .int 0 0] })
      (o := { cls := .type "enumerate", data := .fields #[.none, .bool false, .ref s.heap.objs.size, rawInt 0, .none, .none] }) rfl
    rw [hz] at this; exact this
  refine ⟨⟨_, he, rfl⟩, h _ he ⟨_, Heap.get?_push_of_some _ (Heap.get?_push_size _ rfl), rfl, rfl⟩ (by rw [Heap.size_push, hz]) fun b o x => Heap.get?_push_of_some _ (Heap.get?_push_of_some _ x)⟩
end PySem
namespace Mn
open PySem L2 PyProof.Rows
/-- the tuple at a, each item in a new pair -/
def IteT (K : PySem.W.Frag) (a : Addr) : L2.It :=
  ⟨fun i H => ∃ (xs : List V) (x : V), SqT K H a xs ∧ xs[i]? = some x, fun i H v H' => ∃ T x, v = .ref T ∧ H T = none ∧ H' = upd H T (.tup [.int (i : Nat), x]) ∧ ∀ xs, SqT K H a xs → xs[i]? = some x, fun i H => ∃ xs : List V, SqT K H a xs ∧ xs.length ≤ i⟩
theorem turn_enumT {P : Program} {w : World} {K : PySem.W.Frag} {elts : List Expr} {kk : Nat} {tpos : Pos} (a e it : Addr) (hai : a ≠ it) (hae : a ≠ e) :
    Turn P w K (.Tuple elts kk tpos) (IteT K a) [e, it] e (fun i h => (∃ old, IsEnum h e it ((i : Nat) : Int) old) ∧ h.IsTupleIter it a i ∧ e ≠ it) where
  mem := by simp
  obj := fun i h st b hb => by
    obtain ⟨⟨old, he⟩, ⟨o, ho, hc, hd⟩, _⟩ := st
    have e' : b = e ∨ b = it := by simpa using hb
    rcases e' with z | z
    · rw [z]; exact ⟨_, he, fun v q => nomatch q⟩
    · rw [z]; exact ⟨o, ho, fun v q => by rw [hd] at q; cases q⟩
  keep := fun i h h' st k => let ⟨⟨old, he⟩, hi, hne⟩ := st; ⟨⟨old, k e (by simp) _ he⟩, hi.at fun o q => k it (by simp) o q, hne⟩
  item := by
    intro X hP hw hK hc i pins s σ H E I hf st hg
    subst hP hw hK
    obtain ⟨⟨old, he⟩, hit, hne⟩ := st
    obtain ⟨xs, x, hq, hx⟩ := hg
    obtain ⟨its, rv, p, hz⟩ := I.tuple hq
    obtain ⟨u, hu, ru⟩ := rv.get hx
    have hel : e < s.heap.objs.size := Heap.lt_size he
    have hil : it < s.heap.objs.size := by obtain ⟨_, q, _⟩ := hit; exact Heap.lt_size q
    have hlt : i < its.toArray.size := by
      obtain ⟨hl, _⟩ := List.getElem?_eq_some_iff.mp hu
      simpa using hl
    have D := Draws.tuple (prog := X.prog) (w := X.w) (A := X.A.in1) (show X.A.in1.handled = none from I.ok.hd hc) it a hai its.toArray
    refine wpAny_pyNext_enum_itemD D he ⟨hit, p⟩ hlt hne (by simp [hne, Ne.symm hae]) fun v h' tk hv ho hst hT hsz hk => ?_
    obtain ⟨hit', _⟩ := hst
    have hv' : v = u := by
      have : its.toArray[i]? = some u := by simpa using hu
      rw [this] at hv; cases hv; rfl
    subst hv'
    refine ⟨_, rfl, wpAny_letOwnedTupleGo_enum (s := { s with heap := h', toks := tk + 1 }) ho fun h'' he' sb => ?_⟩
    have hT2 : h''.get? s.heap.objs.size = some { cls := .type "tuple", data := .seq #[.int i tk, v] } := (sb.2 _ (Nat.ne_of_gt hel)).trans hT
    have new : ObjOk X.prog X.w (upd H s.heap.objs.size (.tup [.int (i : Nat), x])) h'' s.heap.objs.size (.tup [.int (i : Nat), x]) :=
      ⟨by show 2 ≤ sizeLine; decide, [.int i tk, v], .cons ⟨_, rfl⟩ (.cons ru .nil), ⟨_, hT2, rfl, _, rfl⟩⟩
    have I1 : Inv X pins σ (upd H s.heap.objs.size (.tup [.int (i : Nat), x])) { s with heap := h'', toks := tk + 1 } :=
      I.turnedNew (ch := [e, it]) (fun b ob hb q => (sb.2 b (fun z => hb (by simp [z]))).trans (hk b ob (fun z => hb (by simp [z])) (fun z => hb (by simp [z])) q)) hf (Nat.le_refl _) new
    refine ⟨.ref s.heap.objs.size, _, I1, rfl, ⟨_, x, rfl, I.hok.fresh (Nat.le_refl _), rfl, fun ys hy => by rw [I.tuple_inj hy hq]; exact hx⟩, ⟨⟨v, ?_⟩, hit'.at fun o q => (sb.2 it (Ne.symm hne)).trans q, hne⟩, fun b hb => ?_⟩
    · have e1 : ((i + 1 : Nat) : Int) = (i : Int) + 1 := by omega
      rw [e1]; exact he'
    · have hb' : b < s.heap.objs.size := by
        have e' : b = e ∨ b = it := by simpa using hb
        rcases e' with z | z
        · rw [z]; exact hel
        · rw [z]; exact hil
      rw [upd_ne (Nat.ne_of_lt hb')]
      exact (hf b hb).1
  done := by
    intro X hP hw hK hc i pins s σ H E I hf st hg
    subst hP hw hK
    obtain ⟨⟨old, he⟩, hit, hne⟩ := st
    obtain ⟨xs, hq, hx⟩ := hg
    obtain ⟨its, rv, p, hz⟩ := I.tuple hq
    obtain ⟨f0, f1, f2, f3, f4, f5⟩ := hf it (by simp)
    have hl := rv.length
    have hT : s.TypeIs (.ref e) "enumerate" := ⟨_, he, rfl⟩
    unfold pyNext
    refine wpAny_bind (wpAny_attempt (wpAny_callSpecial?_slot (name := Str.ofString "__next__") hT F.slot_enumerate_next
      (wpAny_call_entry F.slot_enumerate_next hT F.entry_enumerate_next ?_ (F.args_enumerate_next_1 _))))
    show wpAny _ _ (field (.ref e) 2 >>= _) _ _ _
    refine wpAny_bind (wpAny_field he rfl (x := .ref it) rfl ?_)
    refine wpAny_bind (wpAny_nextOf_tuple_end (show X.A.in1.in1.handled = none from I.ok.hd hc) hit p (by simp; omega) fun h' x eb hx' => ?_)
    obtain ⟨o, ho, hc⟩ := hx'
    refine wpAny_bind (wpAny_isInstance (T := "StopIteration") (b := true) ⟨o, ho, hc⟩ isSubtype_stop ?_)
    exact wpAny_pure ⟨rfl, I.turned (t' := s.toks) (fun b o hb q => eb b o hb q) f0 f1 f3 f4 f5⟩
  self := fun A i s Q E st h => let ⟨⟨_, he⟩, _⟩ := st; wpAny_pyIter_enum he h
def iEnumA (K : PySem.W.Frag) (ta : TA) : TI := fun σ H R => ta σ H fun vs H1 => ∃ a xs, vs = [.ref a] ∧ ((SqL K H1 a xs ∧ R (Ite K a) H1) ∨ (SqT K H1 a xs ∧ R (IteT K a) H1))
theorem pi_enumA {X : Cx} {e : Expr} {ta : TA} {p pos tpos : Pos} {elts : List Expr} {kk : Nat} (hg : Gl X "enumerate") (hm : X.mg "enumerate" = none) (ha : PA X [e] ta) (hs : starEach [e] X.env = [(false, eval e X.env)] := by rfl) :
    PI X (.Tuple elts kk tpos) (.Call (.Name "enumerate" p) [e] [] pos) (iEnumA X.K ta) := by
  refine ⟨fun pins s σ H R I h => ?_⟩
  refine Call_ (ld_blt I hg hm boot_enumerate (PyProof.Rows.callWith_type1 (thn (ha.run pos pins s σ H _ I h) fun us s1 ⟨vs, H1, I1, r1, q1⟩ => ?_) hs rfl))
  obtain ⟨a, xs, ex, q⟩ := q1
  subst ex
  cases r1 with
  | cons r rr =>
    cases rr
    cases r
    have fr : ∀ b ∈ [s1.heap.objs.size + 1, s1.heap.objs.size], FpOk X pins H1 b := fun b hb => by
      have e' : b = s1.heap.objs.size + 1 ∨ b = s1.heap.objs.size := by simpa using hb
      have hle : s1.heap.objs.size ≤ b := by
        rcases e' with z | z
        · rw [z]; exact Nat.le_add_right _ _
        · rw [z]; exact Nat.le_refl _
      exact I1.fpOk hle (I1.hok.fresh hle)
    rcases q with ⟨hq, q⟩ | ⟨hq, q⟩
    · obtain ⟨its, rv, p', hz⟩ := I1.list hq
      refine call_enumerate_list p'.isList fun h' he hit hsz hk => wpAny_pyIter_enum he ?_
      have I2 : Inv X pins σ H1 { s1 with heap := h' } := I1.kept (t' := s1.toks) hk
      exact ⟨s1.heap.objs.size + 1, [s1.heap.objs.size + 1, s1.heap.objs.size], _, _, H1, rfl, I2, turn_enum a (s1.heap.objs.size + 1) s1.heap.objs.size, ⟨⟨.none, he⟩, hit, Nat.succ_ne_self _⟩, fr, q⟩
    · obtain ⟨its, rv, p', hz⟩ := I1.tuple hq
      have hla : a < s1.heap.objs.size := by obtain ⟨o, ho, _⟩ := p'; exact Heap.lt_size ho
      refine mn_enumerate_tuple p' fun h' he hit hsz hk => wpAny_pyIter_enum he ?_
      have I2 : Inv X pins σ H1 { s1 with heap := h' } := I1.kept (t' := s1.toks) hk
      exact ⟨s1.heap.objs.size + 1, [s1.heap.objs.size + 1, s1.heap.objs.size], _, _, H1, rfl, I2, turn_enumT a (s1.heap.objs.size + 1) s1.heap.objs.size (Nat.ne_of_lt hla) (Nat.ne_of_lt (Nat.lt_succ_of_lt hla)), ⟨⟨.none, he⟩, hit, Nat.succ_ne_self _⟩, fr, q⟩
/-- the keys of the locked dict at d -/
def Itn (P : Program) (w : World) (d : Addr) (o : Obj) (es : List (NestedKey × Addr × V)) : L2.It :=
  ⟨fun i H => H d = some (.frz o (ND P w d es)) ∧ i < es.length, fun i H x H' => H' = H ∧ ∃ p, es[i]? = some p ∧ x = .ref p.2.1, fun i H => H d = some (.frz o (ND P w d es)) ∧ es.length ≤ i⟩
theorem frzN {X : Cx} {pins : List (Addr × Obj)} {σ : L2.St} {H : Hp} {s : Shared} {d : Addr} {o : Obj} {es : List (NestedKey × Addr × V)} (I : Inv X pins σ H s) (h : H d = some (.frz o (ND X.prog X.w d es))) :
    (d == sysModules) = false ∧ s.heap.get? d = some o ∧ o.ExactDict ∧ ∃ (des : Array DictEntry) (ep : Nat), o.data = .dict des ep ∧ des.size = es.length ∧
      ∀ (i : Nat) (p : NestedKey × Addr × V), es[i]? = some p → ∃ en : DictEntry, des[i]? = some en ∧ en.key = .ref p.2.1 := by
  obtain ⟨hd, ⟨z, hs, xs, o', des, ep, pr, ho, hx, hdt, he, _⟩, _⟩ := I.hok d _ h
  rw [hd] at ho
  cases ho
  have l1 : des.size = xs.length := size_of_entries he
  have l2 : es.length = xs.length := Paired.length pr
  refine ⟨hs, hd, hx, des, ep, hdt, by omega, fun i p e => ?_⟩
  obtain ⟨b, hb, e1, e2, _⟩ := paired_get pr e
  have q := entry_at he i
  rw [hb] at q
  exact ⟨_, q, by rw [e2]; rfl⟩
theorem turn_keysN {P : Program} {w : World} {K : PySem.W.Frag} {tg : Expr} {d : Addr} {o : Obj} {des : Array DictEntry} {ep : Nat} {es : List (NestedKey × Addr × V)} (it : Addr) (hod : o.data = .dict des ep) : Turn P w K tg (Itn P w d o es) [it] it (fun i h => h.IsKeyIter it d i es.length ep) where
  mem := by simp
  obj := fun i h st b hb => by
    have e : b = it := by simpa using hb
    subst e
    obtain ⟨oi, e, c, dd⟩ := st
    exact ⟨oi, e, fun v z => by rw [dd] at z; cases z⟩
  keep := fun i h h' st k => st.at fun oi e => k it (by simp) oi e
  item := by
    intro X hP hw hK hc i pins s σ H E I hf st hg
    subst hP hw hK
    obtain ⟨hd, hi⟩ := hg
    obtain ⟨f0, f1, f2, f3, f4, f5⟩ := hf it (by simp)
    obtain ⟨hs, hgd, hx, es', ep', hdt, hsz, ent⟩ := frzN I hd
    obtain ⟨rfl, rfl⟩ := dict_ep hod hdt
    obtain ⟨p, hkv⟩ : ∃ p, es[i]? = some p := ⟨es[i], List.getElem?_eq_getElem hi⟩
    obtain ⟨en, hen, hkey⟩ := ent i p hkv
    refine next_key_item st hgd hdt hsz hen fun h' st' sb => ?_
    have I1 : Inv X pins σ H { s with heap := h' } := I.turned (t' := s.toks) (fun b ob hb e => (sb.2 b hb).trans e) f0 f1 f3 f4 f5
    obtain ⟨oi, e, c, dd⟩ := id st'
    refine ⟨en.key, rfl, go_of (s := { s with heap := h' }) e c dd (by decide) ⟨.ref p.2.1, H, I1, ?_, ⟨rfl, p, hkv, rfl⟩, st', fun b hb => (hf b hb).1⟩⟩
    rw [hkey]
    rfl
  done := by
    intro X hP hw hK hc i pins s σ H E I hf st hg
    subst hP hw hK
    obtain ⟨hd, hi⟩ := hg
    obtain ⟨f0, f1, f2, f3, f4, f5⟩ := hf it (by simp)
    obtain ⟨hs, hgd, hx, es', ep', hdt, hsz, ent⟩ := frzN I hd
    obtain ⟨rfl, rfl⟩ := dict_ep hod hdt
    exact next_key_end (I.ok.hd hc) st hgd hdt hsz hi fun h' eb => ⟨rfl, I.turned (t' := s.toks) (fun b ob hb e => eb b ob hb e) f0 f1 f3 f4 f5⟩
  self := fun A i s Q E st h => wpAny_pyIter_keyiter st h
def iKeysN (P : Program) (w : World) (td : TE) : TI := fun σ H R => td σ H fun x H1 => ∃ d o es, x = .ref d ∧ H1 d = some (.frz o (ND P w d es)) ∧ R (Itn P w d o es) H1
theorem pi_keysN {X : Cx} {tg e : Expr} {td : TE} (he : PE X e td) : PI X tg e (iKeysN X.prog X.w td) := by
  refine ⟨fun pins s σ H R I h => ?_⟩
  refine thn (he.run pins s σ H _ I h) fun u s1 ⟨x, H1, I1, rx, d, o, es, ex, hd, q⟩ => ?_
  subst ex
  obtain rfl : u = Value.ref d := rx
  obtain ⟨hs, hgd, hx, des, ep, hdt, hsz, ent⟩ := frzN I1 hd
  refine iter_keys hs hgd hx hdt (pi_one (tk := s1.toks) I1 _ (turn_keysN _ hdt) ⟨_, Heap.get?_push_size _ rfl, rfl, ?_⟩ q)
  rw [hsz] <;> rfl
/-- locked behind its reading -/
def tLk (t : TE) : TE := fun σ H Q => t σ H fun v H1 => Q v H1 ∨ ∃ a u, H1 a = some u ∧ Mut (some u) ∧ ∀ od, Q v (upd H1 a (.frz od u))
theorem pe_lk {X : Cx} {e : Expr} {t : TE} (h : PE X e t) : PE X e (tLk t) := by
  refine ⟨fun pins s σ H Q I hw => ?_⟩
  refine thn (h.run pins s σ H _ I hw) fun v s1 ⟨x, H1, I1, r, q⟩ => ?_
  rcases q with q | ⟨a, u, ha, mu, q⟩
  · exact ⟨x, H1, I1, r, q⟩
  · obtain ⟨od, I2⟩ := I1.lock ha mu
    exact ⟨x, _, I2, r, q od⟩
theorem PI.imp {X : Cx} {tg e : Expr} {t t' : TI} (h : PI X tg e t) (hi : ∀ σ H R, t' σ H R → t σ H R) : PI X tg e t' := ⟨fun pins s σ H R I q => h.run pins s σ H R I (hi σ H R q)⟩
theorem PI.or {X : Cx} {tg e : Expr} {t t' : TI} (h : PI X tg e t) (h' : PI X tg e t') : PI X tg e (fun σ H R => t σ H R ∨ t' σ H R) := ⟨fun pins s σ H R I q => q.elim (h.run pins s σ H R I) (h'.run pins s σ H R I)⟩
end Mn

set_option Elab.async false
set_option linter.all false
set_option maxRecDepth 100000
set_option maxHeartbeats 4000000
/-! ## what is walked -/
namespace Mn
open PySem L2 PyProof.Rows
section
variable {P : Program} {w : World} {K : PySem.W.Frag} {U F F' H H' : Hp} {ρ ρ' : List Addr} {s : Fm} {σ : L2.St} {v : V} {d : D} {a p : Addr} {o : Obj} {u : HO}
theorem Ok.lockF (k : Ok P w K U F ρ s σ H) (hF : F a = some u) (m : Mut (some u)) (h : H a = some u) (o : Obj) : Ok P w K U F ρ s σ (upd H a (.frz o u)) ∧ Nx F ρ H F ρ (upd H a (.frz o u)) := by
  refine ⟨⟨fun b x e => ?_, fun b x e => ?_, k.uf, k.len, fun i q d e => ?_, k.apart, k.cells, fun j c e => ?_, k.nd⟩, .refl _, .refl _, fun b x y e => ?_⟩
  · by_cases hb : b = a
    · subst hb
      rw [hF] at e; cases e
      exact .inr ⟨m, o, upd_same⟩
    · rw [upd_ne hb]; exact k.fh b x e
  · have hb : b ≠ a := fun z => by
      subst z
      have := k.uf b x e
      rw [hF] at this; cases this
    rw [upd_ne hb]; exact k.uh b x e
  · obtain ⟨v, e1, g1, g2⟩ := k.slot i q d e
    refine ⟨v, e1, g1, fun z => ?_⟩
    obtain ⟨b, eb, n, f, u', c⟩ := g2 z
    have hb : b ≠ a := fun z => by subst z; rw [hF] at f; cases f
    exact ⟨b, eb, n.mono (.refl _) (.refl _) (upd_ne hb), f, u', c⟩
  · obtain ⟨b, eb, c1, f, u'⟩ := k.cell j c e
    have hb : b ≠ a := fun z => by subst z; rw [hF] at f; cases f
    exact ⟨b, eb, c1.mono (.refl _) (.refl _) (upd_ne hb), f, u'⟩
  · have hb : b ≠ a := fun z => by
      subst z
      rw [h] at e; cases e
      exact m
    rw [upd_ne hb]; exact e
theorem Ok.lock_rd (k : Ok P w K U F ρ s σ H) (h : Rd F a u) (m : Mut (some u)) : (∃ o, H a = some (.frz o u)) ∨ (H a = some u ∧ F a = some u) := by
  rcases h with h | ⟨o, h⟩
  · rcases k.fh a u h with e | ⟨_, o, e⟩
    · exact .inr ⟨e, h⟩
    · exact .inl ⟨o, e⟩
  · rcases k.fh a _ h with e | ⟨m', _, e⟩
    · exact .inl ⟨o, e⟩
    · exact (show False from m').elim

/-- an iterator goes through the data -/
def Goes (P : Program) (w : World) (K : PySem.W.Frag) (F : Hp) (ρ : List Addr) (H : Hp) (J : L2.It) (ds : List D) : Prop := ∀ U F2 ρ2 s2 σ2 H2, Nx F ρ H F2 ρ2 H2 → Ok P w K U F2 ρ2 s2 σ2 H2 →
  (∀ i, i < ds.length → J.go i H2) ∧ J.stop ds.length H2 ∧ ∀ i x H3, i < ds.length → J.yld i H2 x H3 → ∃ d F3, ds[i]? = some d ∧ Nx F2 ρ2 H2 F3 ρ2 H3 ∧ Ok P w K U F3 ρ2 s2 σ2 H3 ∧ Rep P w K F3 ρ2 x d
theorem Reps.at {vs : List V} {ds : List D} {i : Nat} (r : Reps P w K F ρ vs ds) (h : i < ds.length) : ∃ v d, vs[i]? = some v ∧ ds[i]? = some d ∧ Rep P w K F ρ v d := by
  obtain ⟨v, h1, h2⟩ := r.get (List.getElem?_eq_getElem h)
  exact ⟨v, _, h1, List.getElem?_eq_getElem h, h2⟩
theorem goes_list {vs : List V} {ds : List D} (h : SqL K F a vs) (r : Reps P w K F ρ vs ds) : Goes P w K F ρ H (Itl K a) ds := by
  intro U F2 ρ2 s2 σ2 H2 nx k2
  have q := k2.l (nx.sub.l h)
  have r2 := r.mono nx.sub nx.pre
  refine ⟨fun i hi => ?_, ⟨vs, q, by rw [r.length]; exact Nat.le_refl _⟩, fun i x H3 hi y => ?_⟩
  · obtain ⟨v, d, e1, _, _⟩ := r2.at hi
    exact ⟨vs, v, q, e1⟩
  · obtain ⟨v, d, e1, e2, e3⟩ := r2.at hi
    obtain ⟨rfl, y⟩ := y
    have := y vs q
    rw [e1] at this; cases this
    exact ⟨d, F2, e2, .refl _ _ _, k2, e3⟩
theorem goes_tup {vs : List V} {ds : List D} (h : SqT K F a vs) (r : Reps P w K F ρ vs ds) : Goes P w K F ρ H (Itt K a) ds := by
  intro U F2 ρ2 s2 σ2 H2 nx k2
  have q := k2.t (nx.sub.t h)
  have r2 := r.mono nx.sub nx.pre
  refine ⟨fun i hi => ?_, ⟨vs, q, by rw [r.length]; exact Nat.le_refl _⟩, fun i x H3 hi y => ?_⟩
  · obtain ⟨v, d, e1, _, _⟩ := r2.at hi
    exact ⟨vs, v, q, e1⟩
  · obtain ⟨v, d, e1, e2, e3⟩ := r2.at hi
    obtain ⟨rfl, y⟩ := y
    have := y vs q
    rw [e1] at this; cases this
    exact ⟨d, F2, e2, .refl _ _ _, k2, e3⟩
theorem goes_str {z : Str} : Goes P w K F ρ H (Its z) (strD z) := by
  intro U F2 ρ2 s2 σ2 H2 nx k2
  have hl : (strD z).length = z.cps.size := by unfold strD; simp
  refine ⟨fun i hi => by rw [hl] at hi; exact hi, Nat.le_of_eq hl.symm, fun i x H3 hi y => ?_⟩
  obtain ⟨rfl, c, hc, rfl⟩ := y
  refine ⟨.str ⟨#[c]⟩, F2, ?_, .refl _ _ _, k2, .str _⟩
  unfold strD
  rw [List.getElem?_map, Array.getElem?_toList, hc]
  rfl
theorem goes_range {lo : Int} {n : Nat} : Goes P w K F ρ H (Itr lo n) (rangeD lo n) := by
  intro U F2 ρ2 s2 σ2 H2 nx k2
  have hl : (rangeD lo n).length = n := by unfold rangeD; simp
  refine ⟨fun i hi => by rw [hl] at hi; exact hi, Nat.le_of_eq hl.symm, fun i x H3 hi y => ?_⟩
  obtain ⟨rfl, rfl⟩ := y
  rw [hl] at hi
  refine ⟨.int (lo + i), F2, ?_, .refl _ _ _, k2, .int _⟩
  unfold rangeD
  rw [List.getElem?_map, List.getElem?_range hi]
  rfl
theorem atom_rep {k : L2.Key} {x : D} (e : x.atom = some k) : Rep P w K F ρ (kV k) x := by
  cases x <;> simp [D.atom] at e
  · subst e; exact .int _
  · subst e; exact .str _
theorem RepA.at {ks : List (L2.Key × V)} {kvs : List (D × D)} : ∀ {i : Nat}, RepA P w K F ρ ks kvs → i < kvs.length → ∃ k v x d, ks[i]? = some (k, v) ∧ kvs[i]? = some (x, d) ∧ Rep P w K F ρ (kV k) x ∧ Rep P w K F ρ v d := by
  intro i r
  induction i generalizing ks kvs with
  | zero =>
    intro h
    cases r with
    | nil => exact absurd h (Nat.not_lt_zero _)
    | cons e1 e2 e3 => exact ⟨_, _, _, _, rfl, rfl, atom_rep e1, e2⟩
  | succ i ih =>
    intro h
    cases r with
    | nil => exact absurd h (Nat.not_lt_zero _)
    | cons e1 e2 e3 =>
      obtain ⟨k, v, x, d, h1, h2, h3, h4⟩ := ih e3 (by simpa using h)
      exact ⟨k, v, x, d, by simpa using h1, by simpa using h2, h3, h4⟩
theorem RepN.at {ks : List (NestedKey × Addr × V)} {kvs : List (D × D)} : ∀ {i : Nat}, RepN P w K F ρ ks kvs → i < kvs.length → ∃ p x d, ks[i]? = some p ∧ kvs[i]? = some (x, d) ∧ Rep P w K F ρ (.ref p.2.1) x ∧ Rep P w K F ρ p.2.2 d := by
  intro i r
  induction i generalizing ks kvs with
  | zero =>
    intro h
    cases r with
    | nil => exact absurd h (Nat.not_lt_zero _)
    | cons e1 e2 e3 => exact ⟨_, _, _, rfl, rfl, e2, e3⟩
  | succ i ih =>
    intro h
    cases r with
    | nil => exact absurd h (Nat.not_lt_zero _)
    | cons e1 e2 e3 e4 =>
      obtain ⟨p, x, d, h1, h2, h3, h4⟩ := ih e4 (by simpa using h)
      exact ⟨p, x, d, by simpa using h1, by simpa using h2, h3, h4⟩
theorem goes_keys {ks : List (L2.Key × V)} {kvs : List (D × D)} (h : H a = some (.frz o (.dK ks))) (r : RepA P w K F ρ ks kvs) : Goes P w K F ρ H (Itk a o ks) (kvs.map (·.1)) := by
  intro U F2 ρ2 s2 σ2 H2 nx k2
  have q := nx.lk _ _ _ h
  have hl := r.length
  refine ⟨fun i hi => ⟨q, by rw [List.length_map] at hi; omega⟩, ⟨q, by rw [List.length_map]; omega⟩, fun i x H3 hi y => ?_⟩
  obtain ⟨rfl, k, v, e, rfl⟩ := y
  obtain ⟨k', v', x', d', h1, h2, h3, h4⟩ := r.at (i := i) (by simpa using hi)
  rw [e] at h1; cases h1
  exact ⟨x', F2, by rw [List.getElem?_map, h2]; rfl, .refl _ _ _, k2, h3.mono nx.sub nx.pre⟩
theorem goes_vals {ks : List (L2.Key × V)} {kvs : List (D × D)} (h : H a = some (.frz o (.dK ks))) (r : RepA P w K F ρ ks kvs) : Goes P w K F ρ H (Itd a o ks) (kvs.map fun p => p.2) := by
  intro U F2 ρ2 s2 σ2 H2 nx k2
  have q := nx.lk _ _ _ h
  have hl := r.length
  refine ⟨fun i hi => ⟨q, by rw [List.length_map] at hi; omega⟩, ⟨q, by rw [List.length_map]; omega⟩, fun i x H3 hi y => ?_⟩
  obtain ⟨rfl, k, e⟩ := y
  obtain ⟨k', v', x', d', h1, h2, h3, h4⟩ := r.at (i := i) (by simpa using hi)
  rw [e] at h1; cases h1
  exact ⟨d', F2, by rw [List.getElem?_map, h2]; rfl, .refl _ _ _, k2, h4.mono nx.sub nx.pre⟩
/-- a new pair -/
theorem pair_new {x y : V} {dx dy : D} {T : Addr} (k : Ok P w K U F ρ s σ H) (hT : H T = none) (rx : Rep P w K F ρ x dx) (ry : Rep P w K F ρ y dy) :
    ∃ F3, Nx F ρ H F3 ρ (upd H T (.tup [x, y])) ∧ Ok P w K U F3 ρ s σ (upd H T (.tup [x, y])) ∧ Rep P w K F3 ρ (.ref T) (.tup [dx, dy]) := by
  have sb : Sub F (upd F T (.tup [x, y])) := .new (k.noF hT)
  exact ⟨_, .newF (k.noF hT) hT, k.newF hT, .tup (.of upd_same) (.cons (rx.mono sb (.refl _)) (.cons (ry.mono sb (.refl _)) .nil))⟩
theorem goes_items {ks : List (L2.Key × V)} {kvs : List (D × D)} (h : H a = some (.frz o (.dK ks))) (r : RepA P w K F ρ ks kvs) : Goes P w K F ρ H (Iti a o ks) (kvs.map fun p => .tup [p.1, p.2]) := by
  intro U F2 ρ2 s2 σ2 H2 nx k2
  have q := nx.lk _ _ _ h
  have hl := r.length
  refine ⟨fun i hi => ⟨q, by rw [List.length_map] at hi; omega⟩, ⟨q, by rw [List.length_map]; omega⟩, fun i x H3 hi y => ?_⟩
  obtain ⟨T, k, v, e, rfl, hT, rfl⟩ := y
  obtain ⟨k', v', x', d', h1, h2, h3, h4⟩ := r.at (i := i) (by simpa using hi)
  rw [e] at h1; cases h1
  obtain ⟨F3, n3, k3, r3⟩ := pair_new k2 hT (h3.mono nx.sub nx.pre) (h4.mono nx.sub nx.pre)
  exact ⟨_, F3, by rw [List.getElem?_map, h2]; rfl, n3, k3, r3⟩
theorem goes_keysN {ks : List (NestedKey × Addr × V)} {kvs : List (D × D)} (h : H a = some (.frz o (ND P w a ks))) (r : RepN P w K F ρ ks kvs) : Goes P w K F ρ H (Itn P w a o ks) (kvs.map (·.1)) := by
  intro U F2 ρ2 s2 σ2 H2 nx k2
  have q := nx.lk _ _ _ h
  have hl := r.length
  refine ⟨fun i hi => ⟨q, by rw [List.length_map] at hi; omega⟩, ⟨q, by rw [List.length_map]; omega⟩, fun i x H3 hi y => ?_⟩
  obtain ⟨rfl, p, e, rfl⟩ := y
  obtain ⟨p', x', d', h1, h2, h3, h4⟩ := r.at (i := i) (by simpa using hi)
  rw [e] at h1; cases h1
  exact ⟨x', F2, by rw [List.getElem?_map, h2]; rfl, .refl _ _ _, k2, h3.mono nx.sub nx.pre⟩
theorem goes_enum {vs : List V} {ds : List D} (h : SqL K F a vs) (r : Reps P w K F ρ vs ds) : Goes P w K F ρ H (Ite K a) (ds.mapIdx fun i x => .tup [.int (i : Nat), x]) := by
  intro U F2 ρ2 s2 σ2 H2 nx k2
  have q := k2.l (nx.sub.l h)
  have r2 := r.mono nx.sub nx.pre
  refine ⟨fun i hi => ?_, ⟨vs, q, by rw [List.length_mapIdx, r.length]; exact Nat.le_refl _⟩, fun i x H3 hi y => ?_⟩
  · obtain ⟨v, d, e1, _, _⟩ := r2.at (by simpa using hi)
    exact ⟨vs, v, q, e1⟩
  · obtain ⟨v, d, e1, e2, e3⟩ := r2.at (i := i) (by simpa using hi)
    obtain ⟨T, x', rfl, hT, rfl, y⟩ := y
    have := y vs q
    rw [e1] at this; cases this
    obtain ⟨F3, n3, k3, r3⟩ := pair_new k2 hT (.int (i : Nat)) e3
    exact ⟨_, F3, by rw [List.getElem?_mapIdx, e2]; rfl, n3, k3, r3⟩
theorem goes_enumT {vs : List V} {ds : List D} (h : SqT K F a vs) (r : Reps P w K F ρ vs ds) : Goes P w K F ρ H (IteT K a) (ds.mapIdx fun i x => .tup [.int (i : Nat), x]) := by
  intro U F2 ρ2 s2 σ2 H2 nx k2
  have q := k2.t (nx.sub.t h)
  have r2 := r.mono nx.sub nx.pre
  refine ⟨fun i hi => ?_, ⟨vs, q, by rw [List.length_mapIdx, r.length]; exact Nat.le_refl _⟩, fun i x H3 hi y => ?_⟩
  · obtain ⟨v, d, e1, _, _⟩ := r2.at (by simpa using hi)
    exact ⟨vs, v, q, e1⟩
  · obtain ⟨v, d, e1, e2, e3⟩ := r2.at (i := i) (by simpa using hi)
    obtain ⟨T, x', rfl, hT, rfl, y⟩ := y
    have := y vs q
    rw [e1] at this; cases this
    obtain ⟨F3, n3, k3, r3⟩ := pair_new k2 hT (.int (i : Nat)) e3
    exact ⟨_, F3, by rw [List.getElem?_mapIdx, e2]; rfl, n3, k3, r3⟩
theorem goes_zip {b : Addr} {vs ws : List V} {ds es : List D} (h : SqL K F a vs) (r : Reps P w K F ρ vs ds) (h' : SqL K F b ws) (r' : Reps P w K F ρ ws es) : Goes P w K F ρ H (Itz K a b) ((ds.zip es).map fun p => .tup [p.1, p.2]) := by
  intro U F2 ρ2 s2 σ2 H2 nx k2
  have q := k2.l (nx.sub.l h)
  have q' := k2.l (nx.sub.l h')
  have r2 := r.mono nx.sub nx.pre
  have r2' := r'.mono nx.sub nx.pre
  have l1 := r.length
  have l2 := r'.length
  have hl : ((ds.zip es).map fun p => D.tup [p.1, p.2]).length = min ds.length es.length := by simp
  rw [hl]
  refine ⟨fun i hi => ?_, ⟨vs, ws, q, q', by omega⟩, fun i x H3 hi y => ?_⟩
  · obtain ⟨v, d, e1, _, _⟩ := r2.at (i := i) (by omega)
    obtain ⟨v', d', e1', _, _⟩ := r2'.at (i := i) (by omega)
    exact ⟨vs, ws, v, v', q, q', e1, e1'⟩
  · obtain ⟨v, d, e1, e2, e3⟩ := r2.at (i := i) (by omega)
    obtain ⟨v', d', e1', e2', e3'⟩ := r2'.at (i := i) (by omega)
    obtain ⟨T, x', y', rfl, hT, rfl, y1, y2⟩ := y
    have z1 := y1 vs q
    have z2 := y2 ws q'
    rw [e1] at z1; cases z1
    rw [e1'] at z2; cases z2
    obtain ⟨F3, n3, k3, r3⟩ := pair_new k2 hT e3 e3'
    exact ⟨_, F3, by rw [List.getElem?_map, (List.getElem?_zip_eq_some (z := (d, d'))).mpr ⟨e2, e2'⟩]; rfl, n3, k3, r3⟩
theorem goes_zipT {b : Addr} {vs ws : List V} {ds es : List D} (h : SqT K F a vs) (r : Reps P w K F ρ vs ds) (h' : SqT K F b ws) (r' : Reps P w K F ρ ws es) : Goes P w K F ρ H (RZ.ItzT K a b) ((ds.zip es).map fun p => .tup [p.1, p.2]) := by
  intro U F2 ρ2 s2 σ2 H2 nx k2
  have q := k2.t (nx.sub.t h)
  have q' := k2.t (nx.sub.t h')
  have r2 := r.mono nx.sub nx.pre
  have r2' := r'.mono nx.sub nx.pre
  have l1 := r.length
  have l2 := r'.length
  have hl : ((ds.zip es).map fun p => D.tup [p.1, p.2]).length = min ds.length es.length := by simp
  rw [hl]
  refine ⟨fun i hi => ?_, ⟨vs, ws, q, q', by omega⟩, fun i x H3 hi y => ?_⟩
  · obtain ⟨v, d, e1, _, _⟩ := r2.at (i := i) (by omega)
    obtain ⟨v', d', e1', _, _⟩ := r2'.at (i := i) (by omega)
    exact ⟨vs, ws, v, v', q, q', e1, e1'⟩
  · obtain ⟨v, d, e1, e2, e3⟩ := r2.at (i := i) (by omega)
    obtain ⟨v', d', e1', e2', e3'⟩ := r2'.at (i := i) (by omega)
    obtain ⟨T, x', y', rfl, hT, rfl, y1, y2⟩ := y
    have z1 := y1 vs q
    have z2 := y2 ws q'
    rw [e1] at z1; cases z1
    rw [e1'] at z2; cases z2
    obtain ⟨F3, n3, k3, r3⟩ := pair_new k2 hT e3 e3'
    exact ⟨_, F3, by rw [List.getElem?_map, (List.getElem?_zip_eq_some (z := (d, d'))).mpr ⟨e2, e2'⟩]; rfl, n3, k3, r3⟩
end
/-- what is walked, by the small language -/
def RdI (X : Cx) (C : Calls) (it : It) : TI := fun σ H R => ∃ U F ρ s ds s', Ok X.prog X.w X.K U F ρ s σ H ∧ evI C it s = some (ds, s') ∧ ∀ J F' ρ' H', Nx F ρ H F' ρ' H' → Ok X.prog X.w X.K U F' ρ' s' σ H' → Goes X.prog X.w X.K F' ρ' H' J ds → R J H'
section
variable {X : Cx} {EV : EVT} {C : Calls} {T : Tb} {n : Nat} {S : Sta} {pos : Pos} {tg : Expr}
theorem c_val {e : E} {x : Expr} (h : PE X x (RdE X C e)) : PI X tg x (RdI X C (.val e)) := by
  have hV := pe_V h
  refine PI.imp (PI.or (PI.or (pi_list hV) (pi_tup hV)) (PI.or (pi_str hV) (PI.or (pi_keys (pe_lk hV)) (pi_keysN (pe_lk hV))))) fun σ H R => ?_
  rintro ⟨U, F, ρ, s, ds, s', k, e1, q⟩
  simp only [evI] at e1
  split at e1
  · rename_i o ds' s1 h1
    cases e1
    refine .inl (.inl ⟨U, F, ρ, s, _, s', k, h1, fun v F1 ρ1 H1 n1 k1 r1 => ?_⟩)
    cases r1 with
    | lst h r => exact ⟨_, rfl, ⟨_, k1.l h⟩, q _ F1 ρ1 H1 n1 k1 (goes_list h r)⟩
  · rename_i o ds' s1 h1
    cases e1
    refine .inl (.inr ⟨U, F, ρ, s, _, s', k, h1, fun v F1 ρ1 H1 n1 k1 r1 => ?_⟩)
    cases r1 with
    | tup h r => exact ⟨_, rfl, ⟨_, k1.t h⟩, q _ F1 ρ1 H1 n1 k1 (goes_tup h r)⟩
  · rename_i o x' s1 h1
    cases e1
    refine .inr (.inl ⟨U, F, ρ, s, _, s', k, h1, fun v F1 ρ1 H1 n1 k1 r1 => ?_⟩)
    cases r1
    exact ⟨_, rfl, q _ F1 ρ1 H1 n1 k1 goes_str⟩
  · rename_i o kd kvs s1 h1
    cases e1
    cases kd with
    | a =>
      refine .inr (.inr (.inl ⟨U, F, ρ, s, _, s', k, h1, fun v F1 ρ1 H1 n1 k1 r1 => ?_⟩))
      cases r1 with
      | @dicA a ks kvs h r =>
        rcases k1.lock_rd h trivial with ⟨o', e⟩ | ⟨e1, e2⟩
        · exact .inl ⟨a, o', rfl, .inl ⟨ks, e, q _ F1 ρ1 H1 n1 k1 (goes_keys e r)⟩⟩
        · refine .inr ⟨a, .dK ks, e1, trivial, fun od => ⟨a, od, rfl, .inl ⟨ks, upd_same, ?_⟩⟩⟩
          obtain ⟨k2, n2⟩ := k1.lockF e2 trivial e1 od
          exact q _ F1 ρ1 _ (n1.trans n2) k2 (goes_keys upd_same r)
    | n =>
      refine .inr (.inr (.inr ⟨U, F, ρ, s, _, s', k, h1, fun v F1 ρ1 H1 n1 k1 r1 => ?_⟩))
      cases r1 with
      | @dicN a ks kvs h r =>
        rcases k1.lock_rd h trivial with ⟨o', e⟩ | ⟨e1, e2⟩
        · exact .inl ⟨a, o', ks, rfl, e, q _ F1 ρ1 H1 n1 k1 (goes_keysN e r)⟩
        · refine .inr ⟨a, _, e1, trivial, fun od => ⟨a, od, ks, rfl, upd_same, ?_⟩⟩
          obtain ⟨k2, n2⟩ := k1.lockF e2 trivial e1 od
          exact q _ F1 ρ1 _ (n1.trans n2) k2 (goes_keysN upd_same r)
  · cases e1
theorem c_range1 (c : Cnx T EV C n S X) {es : Es} {p : Pos} {x : Expr} (hg : glB S.sc "range" = true) (hs : shp x = true) (ha : PA X [x] (RdA X C es)) (h1 : lenEs es = 1) : PI X tg (.Call (.Name "range" p) [x] [] pos) (RdI X C (.range es)) :=
  PI.imp (pi_range1 (gl_of c hg) (c.blt _ (by decide)) ha (shp_star hs)) fun σ H R => by
    rintro ⟨U, F, ρ, s, ds, s', k, e1, q⟩
    simp only [evI] at e1
    split at e1
    · rename_i i s1 h2
      split at e1
      · rename_i hb
        cases e1
        refine ⟨U, F, ρ, s, _, s', k, h2, fun vs F1 ρ1 H1 n1 k1 r1 => ?_⟩
        cases r1 with
        | cons a b =>
          cases b
          cases a
          exact ⟨i, rfl, by omega, by omega, q _ F1 ρ1 H1 n1 k1 goes_range⟩
      · cases e1
    · rename_i i j s1 h2
      have := evs_len h2
      rw [h1] at this; cases this
    · cases e1
theorem c_range2 (c : Cnx T EV C n S X) {es : Es} {p : Pos} {x y : Expr} (hg : glB S.sc "range" = true) (hs : shp x = true) (hs2 : shp y = true) (ha : PA X [x, y] (RdA X C es)) (h1 : lenEs es = 2) : PI X tg (.Call (.Name "range" p) [x, y] [] pos) (RdI X C (.range es)) :=
  PI.imp (pi_range2 (gl_of c hg) (c.blt _ (by decide)) ha (by rw [shp_star hs, shp_star hs2]; rfl) (shp_star hs2)) fun σ H R => by
    rintro ⟨U, F, ρ, s, ds, s', k, e1, q⟩
    simp only [evI] at e1
    split at e1
    · rename_i i s1 h2
      have := evs_len h2
      rw [h1] at this; cases this
    · rename_i i j s1 h2
      split at e1
      · rename_i hb
        cases e1
        refine ⟨U, F, ρ, s, _, s', k, h2, fun vs F1 ρ1 H1 n1 k1 r1 => ?_⟩
        cases r1 with
        | cons a b =>
          cases b with
          | cons b c =>
            cases c
            cases a
            cases b
            exact ⟨i, j, rfl, by omega, q _ F1 ρ1 H1 n1 k1 goes_range⟩
      · cases e1
    · cases e1
theorem c_zip (c : Cnx T EV C n S X) {a b : E} {p tpos : Pos} {x y : Expr} {elts : List Expr} {kk : Nat} (hg : glB S.sc "zip" = true) (hs : shp x = true) (hs2 : shp y = true) (ha : PE X x (RdE X C a)) (hb : PE X y (RdE X C b)) : PI X (.Tuple elts kk tpos) (.Call (.Name "zip" p) [x, y] [] pos) (RdI X C (.zip a b)) :=
  PI.imp (RZ.pi_zipA (gl_of c hg) (c.blt _ (by decide)) (c_cons hs ha (c_cons hs2 hb c_nil)) (shp_star hs) (back_plain fun z hz => by simp at hz; subst hz; exact hs2)) fun σ H R => by
    rintro ⟨U, F, ρ, s, ds, s', k, e1, q⟩
    simp only [evI] at e1
    split at e1
    · rename_i o xs s1 h1
      split at e1
      · rename_i o2 ys s2 h2
        cases e1
        refine ⟨U, F, ρ, s, _, s', k, by simp only [evs, h1, h2]; rfl, fun vs F1 ρ1 H1 n1 k1 r1 => ?_⟩
        cases r1 with
        | cons g1 g2 =>
          cases g2 with
          | cons g2 g3 =>
            cases g3
            cases g1 with
            | lst q1 r1 =>
              cases g2 with
              | lst q2 r2 => exact ⟨_, _, _, _, rfl, .inl ⟨k1.l q1, k1.l q2, q _ F1 ρ1 H1 n1 k1 (goes_zip q1 r1 q2 r2)⟩⟩
      · cases e1
    · rename_i o xs s1 h1
      split at e1
      · rename_i o2 ys s2 h2
        cases e1
        refine ⟨U, F, ρ, s, _, s', k, by simp only [evs, h1, h2]; rfl, fun vs F1 ρ1 H1 n1 k1 r1 => ?_⟩
        cases r1 with
        | cons g1 g2 =>
          cases g2 with
          | cons g2 g3 =>
            cases g3
            cases g1 with
            | tup q1 r1 =>
              cases g2 with
              | tup q2 r2 => exact ⟨_, _, _, _, rfl, .inr ⟨k1.t q1, k1.t q2, q _ F1 ρ1 H1 n1 k1 (goes_zipT q1 r1 q2 r2)⟩⟩
      · cases e1
    · cases e1
theorem c_enum (c : Cnx T EV C n S X) {a : E} {p tpos : Pos} {x : Expr} {elts : List Expr} {kk : Nat} (hg : glB S.sc "enumerate" = true) (hs : shp x = true) (ha : PE X x (RdE X C a)) : PI X (.Tuple elts kk tpos) (.Call (.Name "enumerate" p) [x] [] pos) (RdI X C (.enum a)) :=
  PI.imp (pi_enumA (gl_of c hg) (c.blt _ (by decide)) (c_cons hs ha c_nil) (shp_star hs)) fun σ H R => by
    rintro ⟨U, F, ρ, s, ds, s', k, e1, q⟩
    simp only [evI] at e1
    split at e1
    · rename_i o xs s1 h1
      cases e1
      refine ⟨U, F, ρ, s, _, s', k, by simp only [evs, h1]; rfl, fun vs F1 ρ1 H1 n1 k1 r1 => ?_⟩
      cases r1 with
      | cons g1 g2 =>
        cases g2
        cases g1 with
        | lst q1 r1 => exact ⟨_, _, rfl, .inl ⟨k1.l q1, q _ F1 ρ1 H1 n1 k1 (goes_enum q1 r1)⟩⟩
    · rename_i o xs s1 h1
      cases e1
      refine ⟨U, F, ρ, s, _, s', k, by simp only [evs, h1]; rfl, fun vs F1 ρ1 H1 n1 k1 r1 => ?_⟩
      cases r1 with
      | cons g1 g2 =>
        cases g2
        cases g1 with
        | tup q1 r1 => exact ⟨_, _, rfl, .inr ⟨k1.t q1, q _ F1 ρ1 H1 n1 k1 (goes_enumT q1 r1)⟩⟩
    · cases e1
theorem i_lkA {a : E} {σ : L2.St} {H : Hp} {U F : Hp} {ρ : List Addr} {s s' : Fm} {o : Bool} {kvs : List (D × D)} {Q : V → Hp → Prop} (k : Ok X.prog X.w X.K U F ρ s σ H) (h1 : ev C a s = some ((o, .dic .a kvs), s'))
    (q : ∀ b od ks F' ρ' H', Nx F ρ H F' ρ' H' → Ok X.prog X.w X.K U F' ρ' s' σ H' → H' b = some (.frz od (.dK ks)) → RepA X.prog X.w X.K F' ρ' ks kvs → Q (.ref b) H') : tLk (RdV X C a) σ H Q := by
  refine ⟨U, F, ρ, s, _, s', k, h1, fun v F1 ρ1 H1 n1 k1 r1 => ?_⟩
  cases r1 with
  | @dicA a ks kvs h r =>
    rcases k1.lock_rd h trivial with ⟨o', e⟩ | ⟨e1, e2⟩
    · exact .inl (q _ _ _ F1 ρ1 H1 n1 k1 e r)
    · refine .inr ⟨a, .dK ks, e1, trivial, fun od => ?_⟩
      obtain ⟨k2, n2⟩ := k1.lockF e2 trivial e1 od
      exact q _ _ _ F1 ρ1 _ (n1.trans n2) k2 upd_same r
theorem c_items {a : E} {apos tpos : Pos} {x : Expr} {elts : List Expr} {kk : Nat} (hb : isC0 x = false) (hl : (apos.endLine == pos.line) = true) (ha : PE X x (RdE X C a)) : PI X (.Tuple elts kk tpos) (.Call (.Attribute x "items" apos) [] [] pos) (RdI X C (.items a)) :=
  PI.imp (pi_items (pe_lk (pe_V ha)) (c0_base hb _ _) hl) fun σ H R => by
    rintro ⟨U, F, ρ, s, ds, s', k, e1, q⟩
    simp only [evI] at e1
    split at e1
    · rename_i o kvs s1 h1
      cases e1
      exact i_lkA k h1 fun b od ks F' ρ' H' nx k' e r => ⟨b, od, ks, rfl, e, q _ F' ρ' H' nx k' (goes_items e r)⟩
    · cases e1
theorem c_values {a : E} {apos : Pos} {x : Expr} (hb : isC0 x = false) (hl : (apos.endLine == pos.line) = true) (ha : PE X x (RdE X C a)) : PI X tg (.Call (.Attribute x "values" apos) [] [] pos) (RdI X C (.values a)) :=
  PI.imp (pi_values (pe_lk (pe_V ha)) (c0_base hb _ _) hl) fun σ H R => by
    rintro ⟨U, F, ρ, s, ds, s', k, e1, q⟩
    simp only [evI] at e1
    split at e1
    · rename_i o kvs s1 h1
      cases e1
      exact i_lkA k h1 fun b od ks F' ρ' H' nx k' e r => ⟨b, od, ks, rfl, e, q _ F' ρ' H' nx k' (goes_vals e r)⟩
    · cases e1
end
end Mn

set_option Elab.async false
set_option linter.all false
set_option maxRecDepth 100000
set_option maxHeartbeats 4000000
/-! ## targets and comprehensions -/
namespace Mn
open PySem L2 PyProof.Rows
/-! ### slots forgotten -/
theorem wipeF_length (sl : List (Option (Bool × D))) : ∀ vs : List Nat, (wipeF sl vs).length = sl.length
  | [] => rfl
  | v :: vs => by unfold wipeF; rw [List.length_set, wipeF_length sl vs]
theorem wipeF_some {sl : List (Option (Bool × D))} {i : Nat} {x : Bool × D} : ∀ {vs : List Nat}, (wipeF sl vs)[i]? = some (some x) → sl[i]? = some (some x) ∧ i ∉ vs
  | [], h => ⟨h, by simp⟩
  | v :: vs, h => by
    unfold wipeF at h
    by_cases hi : v = i
    · subst hi
      by_cases hv : v < (wipeF sl vs).length
      · rw [List.getElem?_set_self hv] at h; cases h
      · rw [List.getElem?_eq_none (by simpa using hv)] at h; cases h
    · rw [List.getElem?_set_ne hi] at h
      obtain ⟨h1, h2⟩ := wipeF_some h
      exact ⟨h1, by simp only [List.mem_cons, not_or]; exact ⟨fun e => hi e.symm, h2⟩⟩
theorem wipe_not {σ : L2.St} {i : Nat} : ∀ {vs : List Nat}, i ∉ vs → (wipe σ vs)[i]? = σ[i]?
  | [], _ => rfl
  | v :: vs, h => by
    simp only [List.mem_cons, not_or] at h
    unfold wipe
    rw [List.getElem?_set_ne (Ne.symm h.1)]
    exact wipe_not h.2
theorem wipe_in {σ : L2.St} {i : Nat} : ∀ {vs : List Nat}, i ∈ vs → i < σ.length → (wipe σ vs)[i]? = some none
  | v :: vs, h, hl => by
    unfold wipe
    by_cases hv : v = i
    · subst hv
      rw [List.getElem?_set_self (by rw [wipe_length]; exact hl)]
    · rw [List.getElem?_set_ne hv]
      exact wipe_in (by rcases List.mem_cons.mp h with z | z; exact absurd z.symm hv; exact z) hl
theorem wipe_get {σ τ : L2.St} {vs : List Nat} (hl : τ.length = σ.length) (h : ∀ i, i ∉ vs → τ[i]? = σ[i]?) : wipe τ vs = wipe σ vs := by
  refine List.ext_getElem? fun i => ?_
  by_cases hi : i ∈ vs
  · by_cases hlt : i < σ.length
    · rw [wipe_in hi hlt, wipe_in hi (by rw [hl]; exact hlt)]
    · rw [List.getElem?_eq_none (by rw [wipe_length]; omega), List.getElem?_eq_none (by rw [wipe_length]; omega)]
  · rw [wipe_not hi, wipe_not hi, h i hi]
theorem wipe_wipe {σ : L2.St} {vs : List Nat} : wipe (wipe σ vs) vs = wipe σ vs := wipe_get (wipe_length _ _) fun i hi => wipe_not hi
section
variable {P : Program} {w : World} {K : PySem.W.Frag} {U F F' H H' : Hp} {ρ ρ' : List Addr} {s : Fm} {σ : L2.St} {v : V} {d : D} {a p : Addr} {o o' : HO}
theorem Ok.wiped (k : Ok P w K U F ρ s σ H) (vs : List Nat) : Ok P w K U F ρ { s with sl := wipeF s.sl vs } (wipe σ vs) H :=
  k.forget (by rw [wipeF_length, wipe_length]; exact k.len) fun i x h => by
    obtain ⟨h1, h2⟩ := wipeF_some h
    exact ⟨h1, wipe_not h2⟩
/-- an object set aside -/
theorem Ok.addU (k : Ok P w K U F ρ s σ H) (hD : H p = some o) (hF : F p = none) (hc : p ∉ ρ) (hs : ∀ (i : Nat) (d : D), s.sl[i]? = some (some (true, d)) → σ[i]? ≠ some (some (.ref p))) : Ok P w K (upd U p o) F ρ s σ H := by
  refine ⟨k.fh, fun b x e => ?_, fun b x e => ?_, k.len, fun i q d e => ?_, k.apart, k.cells, fun j c e => ?_, k.nd⟩
  · by_cases hb : b = p
    · subst hb
      rw [upd_same] at e; cases e
      exact hD
    · rw [upd_ne hb] at e; exact k.uh b x e
  · by_cases hb : b = p
    · subst hb; exact hF
    · rw [upd_ne hb] at e; exact k.uf b x e
  · obtain ⟨v, e1, g1, g2⟩ := k.slot i q d e
    refine ⟨v, e1, g1, fun z => ?_⟩
    subst z
    obtain ⟨b, eb, n, f, u, c⟩ := g2 rfl
    subst eb
    have hb : b ≠ p := fun z => by subst z; exact hs i d e e1
    exact ⟨b, rfl, n, f, by rw [upd_ne hb]; exact u, c⟩
  · obtain ⟨b, eb, c1, f, u⟩ := k.cell j c e
    have hb : b ≠ p := fun z => by subst z; exact hc (List.mem_of_getElem? eb)
    exact ⟨b, eb, c1, f, by rw [upd_ne hb]; exact u⟩
theorem Ok.dropU (k : Ok P w K (upd U p o) F ρ s σ H) (hU : U p = none) : Ok P w K U F ρ s σ H ∧ H p = some o ∧ F p = none ∧ p ∉ ρ ∧ ∀ (i : Nat) (d : D), s.sl[i]? = some (some (true, d)) → σ[i]? ≠ some (some (.ref p)) := by
  have old : ∀ b x, U b = some x → upd U p o b = some x := fun b x e => by
    have hb : b ≠ p := fun z => by subst z; rw [hU] at e; cases e
    rw [upd_ne hb]; exact e
  have non : ∀ b, upd U p o b = none → U b = none := fun b e => by
    cases q : U b with
    | none => rfl
    | some x => rw [old b x q] at e; cases e
  refine ⟨⟨k.fh, fun b x e => k.uh b x (old b x e), fun b x e => k.uf b x (old b x e), k.len, fun i q d e => ?_, k.apart, k.cells, fun j c e => ?_, k.nd⟩, k.uh p o upd_same, k.uf p o upd_same, fun hc => ?_, fun i d e q => ?_⟩
  · obtain ⟨v, e1, g1, g2⟩ := k.slot i q d e
    refine ⟨v, e1, g1, fun z => ?_⟩
    obtain ⟨b, eb, n, f, u, c⟩ := g2 z
    exact ⟨b, eb, n, f, non b u, c⟩
  · obtain ⟨b, eb, c1, f, u⟩ := k.cell j c e
    exact ⟨b, eb, c1, f, non b u⟩
  · obtain ⟨j, e⟩ := List.mem_iff_getElem?.mp hc
    obtain ⟨_, _, _, _, u⟩ := k.cell_at e
    rw [upd_same] at u; cases u
  · obtain ⟨v, e1, _, g⟩ := k.slot i true d e
    obtain ⟨b, eb, _, _, u, _⟩ := g rfl
    rw [q] at e1; cases e1; cases eb
    rw [upd_same] at u; cases u
/-- what is set aside is changed -/
theorem Ok.turnU (k : Ok P w K (upd U p o) F ρ s σ H) (o' : HO) : Ok P w K (upd U p o') F ρ s σ (upd H p o') := by
  have hF := k.uf p o upd_same
  have neU : ∀ b, upd U p o b = none → b ≠ p := fun b e z => by subst z; rw [upd_same] at e; cases e
  refine ⟨fun b x e => ?_, fun b x e => ?_, fun b x e => ?_, k.len, fun i q d e => ?_, k.apart, k.cells, fun j c e => ?_, k.nd⟩
  · have hb : b ≠ p := fun z => by subst z; rw [hF] at e; cases e
    rw [upd_ne hb]; exact k.fh b x e
  · by_cases hb : b = p
    · subst hb
      rw [upd_same] at e ⊢; exact e
    · rw [upd_ne hb] at e ⊢
      exact k.uh b x (by rw [upd_ne hb]; exact e)
  · by_cases hb : b = p
    · subst hb; exact hF
    · rw [upd_ne hb] at e
      exact k.uf b x (by rw [upd_ne hb]; exact e)
  · obtain ⟨v, e1, g1, g2⟩ := k.slot i q d e
    refine ⟨v, e1, g1, fun z => ?_⟩
    obtain ⟨b, eb, n, f, u, c⟩ := g2 z
    have hb := neU b u
    rw [upd_ne hb] at u
    exact ⟨b, eb, n.mono (.refl _) (.refl _) (upd_ne hb), f, by rw [upd_ne hb]; exact u, c⟩
  · obtain ⟨b, eb, c1, f, u⟩ := k.cell j c e
    have hb := neU b u
    rw [upd_ne hb] at u
    exact ⟨b, eb, c1.mono (.refl _) (.refl _) (upd_ne hb), f, by rw [upd_ne hb]; exact u⟩
/-- a comprehension's own names are the def's again -/
theorem Ok.brought {s0 : Fm} {F0 H0 U0 : Hp} {ρ0 : List Addr} {own : List Nat} (k : Ok P w K U F ρ s (wipe σ own) H) (k0 : Ok P w K U0 F0 ρ0 s0 σ H0) (nx : Nx F0 ρ0 H0 F ρ H) (hw : ∀ i, i ∈ own → ∀ x, s.sl[i]? ≠ some (some x)) : Ok P w K U F ρ ⟨bring s0.sl own s.sl, s.mu⟩ σ H := by
  have hlen : s.sl.length = σ.length := by rw [k.len, wipe_length]
  have key : ∀ (i : Nat) (x : Bool × D), (bring s0.sl own s.sl)[i]? = some (some x) → (i ∈ own ∧ x.1 = false ∧ s0.sl[i]? = some (some x)) ∨ (i ∉ own ∧ s.sl[i]? = some (some x)) := fun i x h => by
    unfold bring at h
    rw [List.getElem?_mapIdx] at h
    cases e : s.sl[i]? with
    | none => rw [e] at h; cases h
    | some y =>
      rw [e] at h
      by_cases hi : i ∈ own
      · have hc : own.contains i = true := by simpa using hi
        simp only [Option.map_some, hc, if_true] at h
        split at h
        · rename_i d hd
          cases h
          exact .inl ⟨hi, rfl, hd⟩
        · cases h
      · have hc : own.contains i = false := by simpa using hi
        simp only [Option.map_some, hc, Bool.false_eq_true, if_false] at h
        cases h
        exact .inr ⟨hi, rfl⟩
  refine ⟨k.fh, k.uh, k.uf, by show (bring s0.sl own s.sl).length = _; unfold bring; rw [List.length_mapIdx]; exact hlen, fun i q d e => ?_, fun i j d e b h1 h2 h3 h4 => ?_, k.cells, k.cell, k.nd⟩
  · rcases key i (q, d) e with ⟨_, h1, h2⟩ | ⟨h1, h2⟩
    · obtain ⟨v, e1, g1, _⟩ := k0.slot i q d h2
      have h1 : q = false := h1
      exact ⟨v, e1, fun z => (g1 z).mono nx.sub nx.pre, fun z => by rw [h1] at z; cases z⟩
    · rw [← wipe_not (σ := σ) h1]
      exact k.slot i q d h2
  · rcases key i _ h1 with ⟨_, z, _⟩ | ⟨g1, g2⟩
    · cases z
    · rcases key j _ h2 with ⟨_, z, _⟩ | ⟨g3, g4⟩
      · cases z
      · rw [← wipe_not (σ := σ) g1] at h3
        rw [← wipe_not (σ := σ) g3] at h4
        exact k.apart i j d e b g2 g4 h3 h4
end

/-! ### targets -/
def RdG1 (X : Cx) (t : Tg) : TG := fun v σ H Q => ∃ U F ρ s d sl', Ok X.prog X.w X.K U F ρ s σ H ∧ Rep X.prog X.w X.K F ρ v d ∧ asgT t d s.sl = some sl' ∧ ∀ σ', Ok X.prog X.w X.K U F ρ { s with sl := sl' } σ' H → (∀ own, subT t own = true → wipe σ' own = wipe σ own) → Q σ' H
def RdGs (X : Cx) (t : Tgs) : L2.TGs := fun vs σ H Q => ∃ U F ρ s ds sl', Ok X.prog X.w X.K U F ρ s σ H ∧ Reps X.prog X.w X.K F ρ vs ds ∧ asgTs t ds s.sl = some sl' ∧ ∀ σ', Ok X.prog X.w X.K U F ρ { s with sl := sl' } σ' H → (∀ own, subTs t own = true → wipe σ' own = wipe σ own) → Q σ' H
section
variable {X : Cx} {EV : EVT} {C : Calls} {T : Tb} {n : Nat} {S : Sta} {pos : Pos}
def shpT : Expr → Bool
  | .Name .. => true
  | .Tuple .. => true
  | _ => false
theorem asgE_cons {e : Expr} {es : List Expr} {env : PySem.Env} (h : shpT e = true) : assignEach (e :: es) env = (false, assign e env) :: assignEach es env := by cases e <;> first | rfl | cases h
theorem chkG_shp {t : Tg} {x : Expr} (h : chkG t S x = true) : shpT x = true := by
  cases t with
  | name i => unfold chkG at h; split at h; rfl; cases h
  | tup ts => unfold chkG at h; split at h; rfl; cases h
theorem asgE_plain {env : PySem.Env} : ∀ {ts : Tgs} {xs : List Expr}, chkGs ts S xs = true → (assignEach xs env).findIdx? (·.1) = none ∧ (assignEach xs env).length = xs.length
  | .nil, xs, h => by
    unfold chkGs at h
    cases xs with
    | nil => exact ⟨rfl, rfl⟩
    | cons a b => cases h
  | .cons t ts, xs, h => by
    unfold chkGs at h
    cases xs with
    | nil => cases h
    | cons a b =>
      simp only [Bool.and_eq_true] at h
      obtain ⟨h1, h2⟩ := asgE_plain (env := env) h.2
      rw [asgE_cons (chkG_shp h.1)]
      refine ⟨?_, by simp [h2]⟩
      rw [List.findIdx?_cons]
      simp [h1]
theorem stB_of (c : Cnx T EV C n S X) {i : Nat} {id : Str} (h : stB S i id = true) : X.N[i]? = some id ∧ Loc X.env.scope id ∧ (X.fn id = true ∨ X.env.scope.names.lookup id = some .local) := by
  unfold stB at h
  simp only [Bool.and_eq_true, decide_eq_true_eq] at h
  obtain ⟨h1, h2⟩ := h
  rw [c.hN, c.sc]
  split at h2
  · exact ⟨h1, .inl (by assumption), .inr (by assumption)⟩
  · exact ⟨h1, .inr (by assumption), .inl (c.fn id h2)⟩
  · cases h2
theorem set_in {sl sl' : List (Option (Bool × D))} {i : Nat} {d : D} (h : asgT (.name i) d sl = some sl') : i < sl.length ∧ sl' = sl.set i (some (false, d)) := by
  unfold asgT at h
  split at h
  · cases h; exact ⟨by assumption, rfl⟩
  · cases h
mutual
theorem c_tg (c : Cnx T EV C n S X) : ∀ (t : Tg) (x : Expr), chkG t S x = true → PG X x (RdG1 X t)
  | .name i, x, h => by
    unfold chkG at h
    split at h
    · obtain ⟨h1, h2, h3⟩ := stB_of c h
      have pg := pg_name (pos := by assumption) c.nd h1 h2 h3
      refine ⟨fun pins s σ H v u Q I r hw => pg.run pins s σ H v u Q I r ?_⟩
      obtain ⟨U, F, ρ, fm, d, sl', k, rp, e, q⟩ := hw
      obtain ⟨hi, rfl⟩ := set_in e
      refine q _ (k.store (.val rp)) fun own ho => wipe_get (by rw [List.length_set]) fun j hj => ?_
      have hne : i ≠ j := fun z => by subst z; unfold subT at ho; exact hj (by simpa using ho)
      rw [List.getElem?_set_ne hne]
    · cases h
  | .tup ts, x, h => by
    unfold chkG at h
    split at h
    · rename_i xs kk p
      obtain ⟨h1, h2⟩ := asgE_plain (env := X.env) h
      have pg := pg_tup (pos := p) (k := kk) c.calm (c_tgs c ts xs h) h2 h1
      refine ⟨fun pins s σ H v u Q I r hw => pg.run pins s σ H v u Q I r ?_⟩
      obtain ⟨U, F, ρ, fm, d, sl', k, rp, e, q⟩ := hw
      cases d with
      | tup ds =>
        simp only [asgT] at e
        cases rp with
        | @tup a vs ds hq hr =>
          refine ⟨a, vs, rfl, k.t hq, ?_, U, F, ρ, fm, ds, sl', k, hr, e, fun σ' k' hs => q σ' k' fun own ho => hs own (by unfold subT at ho; exact ho)⟩
          rw [hr.length]
          exact asgTs_len e h
      | _ => simp only [asgT] at e; cases e
    · cases h
theorem c_tgs (c : Cnx T EV C n S X) : ∀ (t : Tgs) (xs : List Expr), chkGs t S xs = true → PGs X xs (RdGs X t)
  | .nil, xs, h => by
    unfold chkGs at h
    cases xs with
    | cons a b => cases h
    | nil =>
      refine ⟨fun pins s σ H vs us Q I r hw => pgs_nil.run pins s σ H vs us Q I r ?_⟩
      obtain ⟨U, F, ρ, fm, ds, sl', k, rp, e, q⟩ := hw
      cases ds with
      | cons a b => simp only [asgTs] at e; cases e
      | nil =>
        simp only [asgTs] at e
        cases e
        cases rp
        exact ⟨rfl, q σ k fun _ _ => rfl⟩
  | .cons t ts, xs, h => by
    unfold chkGs at h
    cases xs with
    | nil => cases h
    | cons a b =>
      simp only [Bool.and_eq_true] at h
      have pg := pgs_cons (c_tg c t a h.1) (c_tgs c ts b h.2) (by rw [asgE_cons (chkG_shp h.1)]; rfl)
      refine ⟨fun pins s σ H vs us Q I r hw => pg.run pins s σ H vs us Q I r ?_⟩
      obtain ⟨U, F, ρ, fm, ds, sl', k, rp, e, q⟩ := hw
      cases ds with
      | nil => simp only [asgTs] at e; cases e
      | cons d ds' =>
        simp only [asgTs] at e
        split at e
        · rename_i sl1 e1
          cases rp with
          | cons r1 r2 =>
            refine ⟨_, _, rfl, U, F, ρ, fm, d, sl1, k, r1, e1, fun σ1 k1 s1 => ⟨U, F, ρ, _, ds', sl', k1, r2, e, fun σ2 k2 s2 => q σ2 k2 fun own ho => ?_⟩⟩
            unfold subTs at ho
            simp only [Bool.and_eq_true] at ho
            rw [s2 own ho.2, s1 own ho.1]
        · cases e
theorem asgTs_len : ∀ {t : Tgs} {ds : List D} {sl sl' : List (Option (Bool × D))} {xs : List Expr}, asgTs t ds sl = some sl' → chkGs t S xs = true → ds.length = xs.length
  | .nil, ds, sl, sl', xs, e, h => by
    unfold chkGs at h
    unfold asgTs at e
    cases xs with
    | cons a b => cases h
    | nil =>
      cases ds with
      | nil => rfl
      | cons a b => cases e
  | .cons t ts, ds, sl, sl', xs, e, h => by
    unfold chkGs at h
    cases xs with
    | nil => cases h
    | cons a b =>
      simp only [Bool.and_eq_true] at h
      cases ds with
      | nil => unfold asgTs at e; cases e
      | cons d ds =>
        unfold asgTs at e
        split at e
        · rw [List.length_cons, List.length_cons, asgTs_len e h.2]
        · cases e
end
end
end Mn

set_option Elab.async false
set_option linter.all false
set_option maxRecDepth 100000
set_option maxHeartbeats 4000000
/-! ## comprehensions; every expression -/
namespace Mn
open PySem L2 PyProof.Rows
section
variable {X : Cx} {EV : EVT} {C : Calls} {T : Tb} {n : Nat} {S : Sta} {pos : Pos}
theorem mn_Dict_pairsH {prog : Program} {w : World} {K : Type} [DecidableEq K] {knd : HeapKind prog w K} {A : Around} {E : Value → Shared → Prop} {s : Shared} {env : PySem.Env} {keys : List (Option Expr)} {values : List Expr} {pos : Pos} {pairs : List (Sem Value × Sem Value)} {Q : Value → Shared → Prop} (hu : knd.room A)
    (hshape : (evalEachOpt keys env).zip ((evalEach values env).map fun v => do let x ← v; standAt pos; pure x) = pairs.map fun p => (some p.1, p.2)) (h0 : pairs ≠ []) (hlen : pairs.length ≤ 15)
    (h : wpAny (model prog w) A (evalPairs pairs) (fun vs s₁ => ∃ ps, CarriesH knd s₁.heap vs ps ∧ s₁.heap.DictOfH knd s.heap.objs.size [] ∧
      ∀ h' tk, h'.DictOfH knd s.heap.objs.size (storedAllH [] ps) → Heap.SameBut s.heap.objs.size s₁.heap h' → Q (.ref s.heap.objs.size) { s₁ with heap := h', toks := tk }) E
      { s with heap := s.heap.push { cls := .type "dict", data := .dict #[] } }) :
    wpAny (model prog w) A (eval (.Dict keys values pos) env) Q E s := by
  rw [arm_eval_Dict, hshape, dictDisplay_pairs pairs h0 (by omega)]
  exact wpAny_bind (wpAny_standAt (wpAny_bind (wpAny_subDictH (knd := knd) (Q := fun d s' => wpAny (model prog w) A (pure (Value.ref d)) Q E s') hu hlen
    (wpAny_mono h (fun vs s₁ h₁ => by obtain ⟨ps, hc, hm, hq⟩ := h₁; exact ⟨ps, hc, hm, fun h' tk a b => wpAny_pure (hq h' tk a b)⟩) fun _ _ e => e))))
theorem c_dic1N {a b : E} {x y : Expr} (hu : X.A.units + 66 < cLine) (ha : PE X x (RdE X C a)) (hb : PE X y (RdE X C b)) : PE X (.Dict [some x] [y] pos) (RdE X C (.dic1 .n a b)) := by
  refine ⟨fun pins s σ H Q I h => ?_⟩
  obtain ⟨U, F, ρ, fm, r, fm', k, e, q⟩ := h
  simp only [ev] at e
  split at e
  · rename_i o1 dx fm1 h1
    split at e
    · rename_i o2 dy fm2 h2
      split at e
      · rename_i ck hck
        cases e
        obtain ⟨ds, ks, rfl, _, _, rfl⟩ := ck_n hck
        have hp := I.hok.fresh (Nat.le_refl s.heap.objs.size)
        have I1 : Inv X pins σ (upd H s.heap.objs.size (ND X.prog X.w s.heap.objs.size [])) { s with heap := s.heap.push { cls := .type "dict", data := .dict #[] } } :=
          I.laid (a := s.heap.objs.size) (o := ND X.prog X.w s.heap.objs.size []) (t' := s.toks) (fun _ _ q => Heap.get?_push_of_some _ q) (Nat.le_refl _)
            ⟨⟨Nat.zero_le _, beq_eq_false_iff_ne.mpr (Ne.symm (Nat.ne_of_lt I.big)), [], _, #[], 0, .nil, Heap.get?_push_size _ rfl, ⟨rfl, rfl, rfl⟩, rfl, rfl, List.nodup_nil⟩, ⟨_, Heap.get?_push_size _ rfl⟩, fun g1 g2 ⟨z1, z2, xs1, o1, des1, ep1, q1, q2, q3⟩ hk => ⟨z1, z2, xs1, o1, des1, ep1, q1, hk _ q2, q3⟩⟩
        generalize hpp : s.heap.objs.size = p at hp I1
        have kU := (k.newO (o := ND X.prog X.w p []) hp).addU upd_same (k.noF hp) (k.noC hp) (fun _ _ e => k.noS hp e)
        refine mn_Dict_pairsH (knd := nestedKind X.prog X.w) (show X.A.units + 8 < cLine by omega) (zip_pairTrees [some x] [y] X.env pos rfl rfl) (by simp [pairTrees]) (by simp [pairTrees]) ?_
        rw [hpp]
        refine pairTrees_cons_walk (thn ((pe_V ha).run pins _ σ _ _ I1 ⟨_, F, ρ, fm, _, fm1, kU, h1, fun v F1 ρ1 H1 n1 k1 r1 => ?_⟩) fun u s1 ⟨xv, H1, I2, rx, q1⟩ => thn ((pe_V hb).run pins s1 σ H1 (fun yv H2 => ∃ F2 ρ2, Nx F ρ (upd H p (ND X.prog X.w p [])) F2 ρ2 H2 ∧ Ok X.prog X.w X.K (upd U p (ND X.prog X.w p [])) F2 ρ2 fm' σ H2 ∧ Rep X.prog X.w X.K F2 ρ2 xv (.tup ds) ∧ Rep X.prog X.w X.K F2 ρ2 yv dy) I2 (q1 : RdV X C b σ H1 _)) fun u2 s2 ⟨yv, H2, I3, ry, F2, ρ2, n2, k2, rpx, rpy⟩ => pairTrees_nil_walk ?_)
        · exact ⟨_, F1, ρ1, fm1, _, fm', k1, h2, fun v2 F2 ρ2 H2 n2 k2 r2 => ⟨F2, ρ2, n1.trans n2, k2, r1.mono n2.sub n2.pre, r2⟩⟩
        · obtain ⟨k3, hD, hF, hc, hs⟩ := k2.dropU (k.noU hp)
          obtain ⟨b', eb, hb'⟩ := key_is I3 k3 rpx hck
          subst eb
          cases rx
          obtain ⟨⟨z1, z2, xs1, o1, des1, ep1, q1, q2, q3, q4, q5, q6⟩, _, _⟩ := (show ObjOk X.prog X.w H2 s2.heap p (ND X.prog X.w p []) from I3.hok p _ hD)
          cases q1
          refine ⟨[(.tup ks, b', u2)], ⟨rfl, rfl, hb', trivial⟩, ⟨o1, des1, ep1, q2, q3, q4, q5, (fun _ hx => nomatch hx), List.nodup_nil⟩, fun h' tk dd hsb => ?_⟩
          obtain ⟨o', des, ep, g1, g2, g3, g4, g5, g6⟩ := dd
          have new : ObjOk X.prog X.w (upd H2 p (ND X.prog X.w p [(.tup ks, b', yv)])) h' p (ND X.prog X.w p [(.tup ks, b', yv)]) :=
            ⟨⟨by show 1 ≤ sizeLine; decide, z2, [(.tup ks, b', u2)], o', des, ep, .cons ⟨rfl, rfl, ry⟩ .nil, g1, g2, g3, g4, g6⟩, ⟨o', g1⟩, fun g1 g2 ⟨z1, z2, xs1, o1, des1, ep1, q1, q2, q3⟩ hk => ⟨z1, z2, xs1, o1, des1, ep1, q1, hk _ q2, q3⟩⟩
          have I4 := d_write (t' := tk) I3 (a := p) (by rw [hD]; exact trivial) hsb ⟨o', g1⟩ new
          have k4 := (k2.turnU (ND X.prog X.w p [(.tup ks, b', yv)])).dropU (k.noU hp)
          obtain ⟨k5, hD5, hF5, hc5, hs5⟩ := k4
          refine ⟨.ref p, _, I4, rfl, q (.ref p) F2 ρ2 _ ?_ k5 ⟨fun z => (Bool.noConfusion z), fun _ => ⟨p, rfl, ⟨[(.tup ks, b', yv)], upd_same, .cons hck rpx rpy .nil⟩, hF5, k.noU hp, hc5, hs5⟩⟩⟩
          exact (Nx.newO hp).trans (n2.trans (.write hD trivial))
      · cases e
    · cases e
  · cases e
abbrev RdTs (X : Cx) (C : Calls) (es : Es) : TT := RdG X.prog X.w X.K (evTs C es) (fun _ _ _ _ _ _ (b : Bool) c => b = c)
theorem c_ts0 : PTs X [] (RdTs X C .nil) := ⟨fun pins s σ H Q I h => pts_nil.run pins s σ H Q I (by
  obtain ⟨U, F, ρ, fm, b, fm', k, e, q⟩ := h
  simp only [evTs] at e; cases e
  exact q true F ρ H (.refl _ _ _) k rfl)⟩
theorem c_ts1 {e : E} {x : Expr} (h : PT X x (RdT X C e)) : PTs X [x] (RdTs X C (.cons e .nil)) := ⟨fun pins s σ H Q I hw => (pts_one h).run pins s σ H Q I (by
  obtain ⟨U, F, ρ, fm, b, fm', k, e1, q⟩ := hw
  simp only [evTs] at e1
  split at e1
  · cases e1; exact ⟨U, F, ρ, fm, _, fm', k, by assumption, q⟩
  · cases e1; exact ⟨U, F, ρ, fm, _, fm', k, by assumption, q⟩
  · cases e1)⟩
theorem Cnx.blk (c : Cnx T EV C n S X) (scope : Scope) (s : Shared) (H : Hp) (Ca : Addr) (cl : List (Str × Addr)) (fp : List Addr) : Cnx T EV C n (S.blk scope) (X.blk s H scope (compEnvC scope cl Ca X.env) fp) where
  hN := c.hN
  nd := c.nd
  sc := by
    show (compEnvC scope cl Ca X.env).scope = relS scope S.sc
    rw [← c.sc]; rfl
  fn := fun x h => h
  calm := c.calm
  room := c.room
  blt := c.blt
  con := c.con
  fns := c.fns
/-- a turn of a comprehension -/
def lcT (C : Calls) (own : List Nat) (tg : Tg) (cs : Es) (e : E) : D → Fm → Option (Option D × Fm) := fun d s => match asgT tg d (wipeF s.sl own) with
  | some sl => match evTs C cs ⟨sl, s.mu⟩ with
    | some (true, s) => match ev C e s with
      | some ((_, x), s) => some (some x, { s with sl := wipeF s.sl own })
      | none => none
    | some (false, s) => some (none, { s with sl := wipeF s.sl own })
    | none => none
  | none => none
theorem i_lc {own : List Nat} {tg : Tg} {it : It} {cs : Es} {e : E} (hsub : subT tg own = true) {σ : L2.St} {H : Hp} {Q : VK} (h : RdE X C (.lc own tg it cs e) σ H Q) : tLc (RdI X C it) (RdG1 X tg) (RdTs X C cs) (RdV X C e) own σ H Q := by
  obtain ⟨U, F, ρ, s, r, s', k, e1, q⟩ := h
  simp only [ev] at e1
  split at e1
  · rename_i ds s0 h1
    split at e1
    · rename_i xs s1 h2
      cases e1
      have h2 : lcF (lcT C own tg cs e) ds { s0 with sl := wipeF s0.sl own } [] = some (xs, s1) := h2
      refine ⟨U, F, ρ, s, ds, s0, k, h1, fun J F1 ρ1 H1 n1 k1 go => ?_⟩
      intro D hD
      have k1w := k1.wiped own
      refine ⟨fun i m H => m = ds.length - i ∧ i ≤ ds.length ∧ ∃ F2 ρ2 s2 vs xs2, Ok X.prog X.w X.K (upd U D (.lst vs)) F2 ρ2 s2 (wipe σ own) H ∧ Nx F1 ρ1 H1 F2 ρ2 H ∧ Reps X.prog X.w X.K F2 ρ2 vs xs2 ∧ lcF (lcT C own tg cs e) (ds.drop i) s2 xs2 = some (xs, s1) ∧ ∀ i, i ∈ own → ∀ x, s2.sl[i]? ≠ some (some x),
        ⟨ds.length, by simp, Nat.zero_le _, F1, ρ1, _, [], [], (k1w.newO hD).addU upd_same (k1w.noF hD) (k1w.noC hD) (fun _ _ e => k1w.noS hD e), .newO hD, .nil, by simpa using h2, fun i hi x hx => (wipeF_some hx).2 hi⟩, ?_⟩
      rintro i m H2 ⟨rfl, hi, F2, ρ2, s2, vs, xs2, k2, n2, r2, e2, w2⟩
      obtain ⟨g1, g2, g3⟩ := go _ F2 ρ2 s2 _ H2 n2 k2
      by_cases hlt : i < ds.length
      · refine .inr ⟨g1 i hlt, fun H => i + 1 ≤ ds.length ∧ ∃ F2 ρ2 s2 vs xs2, Ok X.prog X.w X.K (upd U D (.lst vs)) F2 ρ2 s2 (wipe σ own) H ∧ Nx F1 ρ1 H1 F2 ρ2 H ∧ Reps X.prog X.w X.K F2 ρ2 vs xs2 ∧ lcF (lcT C own tg cs e) (ds.drop (i + 1)) s2 xs2 = some (xs, s1) ∧ ∀ i, i ∈ own → ∀ x, s2.sl[i]? ≠ some (some x),
          fun H' p' => ⟨ds.length - (i + 1), by omega, rfl, p'⟩, fun x H' y => ?_⟩
        obtain ⟨d, F3, hd, n3, k3, r3⟩ := g3 i x H' hlt y
        have hdrop : ds.drop i = d :: ds.drop (i + 1) := by
          rw [List.drop_eq_getElem_cons hlt]
          congr 1
          rw [List.getElem?_eq_getElem hlt] at hd
          exact Option.some.inj hd
        rw [hdrop] at e2
        simp only [lcF] at e2
        have k3w := k3.wiped own
        rw [wipe_wipe] at k3w
        unfold lcT at e2
        cases ea : asgT tg d (wipeF s2.sl own) with
        | none => simp only [ea] at e2; cases e2
        | some sl =>
          simp only [ea] at e2
          refine ⟨_, F3, ρ2, { s2 with sl := wipeF s2.sl own }, d, sl, k3w, r3, ea, fun σ2 k4 hw => ⟨by rw [hw own hsub, wipe_wipe], ?_⟩⟩
          have hσ : wipe σ2 own = wipe σ own := by rw [hw own hsub, wipe_wipe]
          cases et : evTs C cs ⟨sl, s2.mu⟩ with
          | none => simp only [et] at e2; cases e2
          | some bs =>
            obtain ⟨b, s3⟩ := bs
            simp only [et] at e2
            refine ⟨_, F3, ρ2, _, b, s3, k4, et, fun b' F4 ρ4 H4 n4 k5 hb => ?_⟩
            obtain rfl : b' = b := hb
            cases b' with
            | false =>
              show if false = true then _ else _
              rw [if_neg (by decide)]
              have e2 : lcF (lcT C own tg cs e) (ds.drop (i + 1)) { s3 with sl := wipeF s3.sl own } xs2 = some (xs, s1) := e2
              have k6 := k5.wiped own
              rw [hσ] at k6
              exact ⟨hlt, F4, ρ4, _, vs, xs2, k6, (n2.trans n3).trans n4, r2.mono (n3.trans n4).sub (n3.trans n4).pre, e2, fun i hi x hx => (wipeF_some hx).2 hi⟩
            | true =>
              show if true = true then _ else _
              rw [if_pos rfl]
              cases ee : ev C e s3 with
              | none => simp only [ee] at e2; cases e2
              | some rs =>
                obtain ⟨⟨o, z⟩, s4⟩ := rs
                simp only [ee] at e2
                split at e2
                · rename_i hl
                  refine ⟨_, F4, ρ4, s3, (o, z), s4, k5, ee, fun yv F5 ρ5 H5 n5 k6 r5 => ?_⟩
                  have e2 : lcF (lcT C own tg cs e) (ds.drop (i + 1)) { s4 with sl := wipeF s4.sl own } (xs2 ++ [z]) = some (xs, s1) := e2
                  have nn := (n3.trans n4).trans n5
                  have r2' := r2.mono nn.sub nn.pre
                  have hDn : H5 D = some (.lst vs) := k6.uh D _ upd_same
                  have k7 := (k6.wiped own).turnU (.lst (vs ++ [yv]))
                  rw [hσ] at k7
                  exact ⟨vs, hDn, by rw [r2'.length]; exact lim_lt hl, hlt, F5, ρ5, _, vs ++ [yv], xs2 ++ [z], k7, (n2.trans nn).trans (.write hDn trivial), r2'.snoc r5, e2, fun i hi x hx => (wipeF_some hx).2 hi⟩
                · cases e2
      · have e : i = ds.length := by omega
        subst e
        refine .inl ⟨g2, ?_⟩
        rw [List.drop_length] at e2
        simp only [lcF] at e2
        cases e2
        obtain ⟨k4, hDn, hF, hc, hs⟩ := k2.dropU (k1.noU hD)
        have k5 := k4.brought k1 n2 w2
        refine q (.ref D) F2 ρ2 H2 (n1.trans n2) k5 ⟨fun z => (Bool.noConfusion z), fun _ => ⟨D, rfl, ⟨vs, hDn, r2⟩, hF, k1.noU hD, hc, fun j d' hj hq => ?_⟩⟩
        obtain ⟨v, e1, _, g⟩ := k5.slot j true d' hj
        obtain ⟨b, eb, nb, _, _, _⟩ := g rfl
        rw [hq] at e1; cases e1; cases eb
        by_cases hj2 : j ∈ own
        · have hj3 : (bring s0.sl own s1.sl)[j]? = some (some (true, d')) := hj
          unfold bring at hj3
          rw [List.getElem?_mapIdx] at hj3
          cases e : s1.sl[j]? with
          | none => rw [e] at hj3; cases hj3
          | some y =>
            rw [e] at hj3
            have hc : own.contains j = true := by simpa using hj2
            simp only [Option.map_some, hc, if_true] at hj3
            split at hj3 <;> cases hj3
        · have hj3 : (bring s0.sl own s1.sl)[j]? = some (some (true, d')) := hj
          unfold bring at hj3
          rw [List.getElem?_mapIdx] at hj3
          cases e : s1.sl[j]? with
          | none => rw [e] at hj3; cases hj3
          | some y =>
            rw [e] at hj3
            have hc : own.contains j = false := by simpa using hj2
            simp only [Option.map_some, hc, Bool.false_eq_true, if_false] at hj3
            cases hj3
            exact hs j d' e (by rw [wipe_not hj2]; exact hq)
    · cases e1
  · cases e1
theorem c_lc (c : Cnx T EV C n S X) {own : List Nat} {tg : Tg} {it : It} {cs : Es} {e : E} {elt tgx itx : Expr} {ifs : List Expr} {scope : Scope} (hb : blkC S.N S.sc scope (ownN S.N own) = true) (ho : (ownN S.N own).map (·.2) = own) (hsub : subT tg own = true)
    (hs : shp itx = true) (hi : PI X tgx itx (RdI X C it)) (hg : chkG tg (S.blk scope) tgx = true) (ht : ∀ X' : Cx, Cnx T EV C n (S.blk scope) X' → PTs X' ifs (RdTs X' C cs)) (he : ∀ X' : Cx, Cnx T EV C n (S.blk scope) X' → PE X' elt (RdE X' C e)) :
    PE X (.ListComp elt [⟨tgx, itx, ifs, 0⟩] scope pos) (RdE X C (.lc own tg it cs e)) := by
  have pe := pe_lc (pos := pos) c.calm c.nd hi (own := ownN S.N own) (blkOk_by (by rw [c.hN, c.sc]; exact hb)) (g := RdG1 X tg) (tt := RdTs X C cs) (te := RdV X C e) (fun s H Ca cl fp => c_tg (c.blk scope s H Ca cl fp) tg tgx hg) (fun s H Ca cl fp => ht (X.blk s H scope (compEnvC scope cl Ca X.env) fp) (c.blk scope s H Ca cl fp)) (fun s H Ca cl fp => pe_V (he (X.blk s H scope (compEnvC scope cl Ca X.env) fp) (c.blk scope s H Ca cl fp))) (shp_fold hs)
  rw [ho] at pe
  exact PE.imp pe fun σ H Q h => i_lc hsub h
end
end Mn

set_option Elab.async false
set_option linter.all false
set_option maxRecDepth 100000
set_option maxHeartbeats 4000000
/-! ## every expression that is checked does what the small language says -/
namespace Mn
open PySem L2 PyProof.Rows
structure Sd (X : Cx) (C : Calls) (e : E) (x : Expr) : Prop where
  E : PE X x (RdE X C e)
  R : PE X x (RdR X C e)
  T : notIf x = true → PT X x (RdT X C e)
structure Sds (X : Cx) (C : Calls) (es : Es) (xs : List Expr) : Prop where
  A : PA X xs (RdA X C es)
  Rs : PA X xs (RdRs X C es)
  shp : ∀ y ∈ xs, Mn.shp y = true
  len : xs.length = lenEs es
  and : xs ≠ [] → ∀ pos, PE X (.BoolOp .And xs pos) (RdE X C (.and es))
  or : xs ≠ [] → ∀ pos, PE X (.BoolOp .Or xs pos) (RdE X C (.or es))
  tand : xs.all notIf = true → xs ≠ [] → ∀ pos, PW X (.BoolOp .And xs pos) (RdT X C (.and es))
  tor : xs.all notIf = true → xs ≠ [] → ∀ pos, PW X (.BoolOp .Or xs pos) (RdT X C (.or es))
  ts : xs.all notIf = true → xs.length ≤ 1 → PTs X xs (RdTs X C es)
section
variable {EV : EVT} {C : Calls} {T : Tb} {n : Nat}
theorem sd_plain {X : Cx} {e : E} {x : Expr} (hE : PE X x (RdE X C e)) (hv : ∀ i, e ≠ .var i) (hp : plainT x = true) (hs : shp x = true) : Sd X C e x :=
  ⟨hE, pe_R hv hE, fun _ => pt_plain (pe_R hv hE) hp hs⟩
theorem sds_nil {X : Cx} : Sds X C .nil [] := ⟨c_nil, c_nilR, fun y hy => (by cases hy), rfl, fun h => absurd rfl h, fun h => absurd rfl h, fun _ h => absurd rfl h, fun _ h => absurd rfl h, fun _ _ => c_ts0⟩
theorem sds_cons {X : Cx} {e : E} {es : Es} {x : Expr} {xs : List Expr} (hs : shp x = true) (h : Sd X C e x) (hr : Sds X C es xs) : Sds X C (.cons e es) (x :: xs) where
  A := c_cons hs h.E hr.A
  Rs := c_consR hs h.R hr.Rs
  shp := fun y hy => by
    rcases List.mem_cons.mp hy with rfl | hy
    · exact hs
    · exact hr.shp y hy
  len := by simp only [List.length_cons, lenEs, hr.len]
  and := fun _ pos => by
    cases xs with
    | nil =>
      cases es with
      | nil => exact c_and1 h.E
      | cons a b => exact absurd hr.len (by simp [lenEs])
    | cons y ys => exact c_and h.E (hr.and (by simp) pos)
  or := fun _ pos => by
    cases xs with
    | nil =>
      cases es with
      | nil => exact c_or1 h.E
      | cons a b => exact absurd hr.len (by simp [lenEs])
    | cons y ys => exact c_or h.E (hr.or (by simp) pos)
  tand := fun hn _ pos => by
    simp only [List.all_cons, Bool.and_eq_true] at hn
    cases xs with
    | nil =>
      cases es with
      | nil => exact ct_and1 (h.T hn.1)
      | cons a b => exact absurd hr.len (by simp [lenEs])
    | cons y ys => exact ct_and (h.T hn.1) (hr.tand hn.2 (by simp) pos)
  tor := fun hn _ pos => by
    simp only [List.all_cons, Bool.and_eq_true] at hn
    cases xs with
    | nil =>
      cases es with
      | nil => exact ct_or1 (h.T hn.1)
      | cons a b => exact absurd hr.len (by simp [lenEs])
    | cons y ys => exact ct_or (h.T hn.1) (hr.tor hn.2 (by simp) pos)
  ts := fun hn hl => by
    simp only [List.all_cons, Bool.and_eq_true] at hn
    cases xs with
    | nil =>
      cases es with
      | nil => exact c_ts1 (h.T hn.1)
      | cons a b => exact absurd hr.len (by simp [lenEs])
    | cons y ys => simp at hl
theorem Cnx.un {S : Sta} {X : Cx} (c : Cnx T EV C n S X) : X.A.units + 66 < cLine := by
  have := c.room.un
  omega
mutual
theorem snd : ∀ (e : E) (S : Sta) (X : Cx) (x : Expr), Cnx T EV C n S X → chk T e S x = true → Sd X C e x
  | .var i, S, X, x, c, h => by
    have hs := chk_shp T _ S x h
    unfold chk at h
    split at h
    · simp only [Bool.and_eq_true, decide_eq_true_eq] at h
      have h0 := c_var0 (pos := by assumption) c h.1.1 h.1.2 h.2
      exact ⟨c_var h0, c_varR h0, fun _ => pt_plain (c_varR h0) rfl hs⟩
    · cases h
  | .cst d, S, X, x, c, h => by
    have hs := chk_shp T _ S x h
    unfold chk at h
    split at h
    · exact sd_plain (c_cst h) (by intro i z; cases z) rfl hs
    · cases h
  | .glo y d, S, X, x, c, h => by
    have hs := chk_shp T _ S x h
    unfold chk at h
    split at h
    · simp only [Bool.and_eq_true, decide_eq_true_eq] at h
      obtain ⟨⟨⟨rfl, h1⟩, h2⟩, h3⟩ := h
      split at h3
      · rename_i d' hd
        cases D.same_eq h3
        obtain ⟨u, v, e1, e2, e3⟩ := c.con _ _ hd
        exact sd_plain (c_glo (gl_of c h1) e1 e2 e3 (okN_of h2).1) (by intro i z; cases z) rfl hs
      · cases h3
    · cases h
  | .tup es, S, X, x, c, h => by
    have hs := chk_shp T _ S x h
    unfold chk at h
    split at h
    · exact sd_plain (c_tup (snds es S X _ c h).A) (by intro i z; cases z) rfl hs
    · cases h
  | .lst es, S, X, x, c, h => by
    have hs := chk_shp T _ S x h
    unfold chk at h
    split at h
    · exact sd_plain (c_lst (snds es S X _ c h).A) (by intro i z; cases z) rfl hs
    · cases h
  | .dic0 k, S, X, x, c, h => by
    have hs := chk_shp T _ S x h
    unfold chk at h
    split at h
    · cases k with
      | a => exact sd_plain c_dic0A (by intro i z; cases z) rfl hs
      | n => exact sd_plain c_dic0N (by intro i z; cases z) rfl hs
    · cases h
  | .dic1 k a b, S, X, x, c, h => by
    have hs := chk_shp T _ S x h
    unfold chk at h
    split at h
    · simp only [Bool.and_eq_true, decide_eq_true_eq] at h
      obtain ⟨⟨rfl, h1⟩, h2⟩ := h
      exact sd_plain (c_dic1N c.un (snd a S X _ c h1).E (snd b S X _ c h2).E) (by intro i z; cases z) rfl hs
    · cases h
  | .newc e, S, X, x, c, h => by
    have hs := chk_shp T _ S x h
    unfold chk at h
    simp only [Bool.and_eq_true] at h
    exact sd_plain (c_newc (snd e S X x c h.2).E) (by intro i z; cases z) h.1 hs
  | .op o a b, S, X, x, c, h => by
    have hs := chk_shp T _ S x h
    unfold chk at h
    split at h
    · simp only [Bool.and_eq_true, decide_eq_true_eq] at h
      obtain ⟨⟨rfl, h1⟩, h2⟩ := h
      exact sd_plain (c_op (snd a S X _ c h1).E (snd b S X _ c h2).E) (by intro i z; cases z) rfl hs
    · cases h
  | .neg a, S, X, x, c, h => by
    have hs := chk_shp T _ S x h
    unfold chk at h
    split at h
    · have hE := c_neg (pos := by assumption) (snd a S X _ c h).E
      exact ⟨hE, pe_R (by intro i z; cases z) hE, fun z => by cases z⟩
    · cases h
  | .cmp o a b, S, X, x, c, h => by
    unfold chk at h
    split at h
    · simp only [Bool.and_eq_true, decide_eq_true_eq] at h
      rename_i y p z q
      obtain ⟨⟨rfl, h1⟩, h2⟩ := h
      have ha := (snd a S X _ c h1).R
      have hb := (snd b S X _ c h2).R
      have hE := c_cmp (pos := q) (o := p) c.un (chk_shp T _ S _ h2) ha hb
      exact ⟨hE, pe_R (by intro i z; cases z) hE, fun _ => ct_cmp c.un (chk_shp T _ S _ h2) ha hb⟩
    · cases h
  | .chn o o' a b d, S, X, x, c, h => by
    unfold chk at h
    split at h
    · simp only [Bool.and_eq_true, decide_eq_true_eq] at h
      rename_i y p p' z u q
      obtain ⟨⟨⟨⟨rfl, rfl⟩, h1⟩, h2⟩, h3⟩ := h
      have ha := (snd a S X _ c h1).E
      have hb := (snd b S X _ c h2).E
      have hd := (snd d S X _ c h3).E
      have hE := c_chn (pos := q) (o := p) (o' := p') c.un (chk_shp T _ S _ h3) ha hb hd
      exact ⟨hE, pe_R (by intro i z; cases z) hE, fun _ => ct_chn c.un (chk_shp T _ S _ h3) ha hb hd⟩
    · cases h
  | .and es, S, X, x, c, h => by
    unfold chk at h
    split at h
    · rename_i xs p
      simp only [Bool.and_eq_true, Bool.not_eq_true'] at h
      obtain ⟨⟨h1, h2⟩, h3⟩ := h
      have hx : xs ≠ [] := by intro z; rw [z] at h1; cases h1
      have q := snds es S X _ c h2
      exact ⟨q.and hx p, pe_R (by intro i z; cases z) (q.and hx p), fun _ => (q.tand h3 hx p).pt⟩
    · cases h
  | .or es, S, X, x, c, h => by
    unfold chk at h
    split at h
    · rename_i xs p
      simp only [Bool.and_eq_true, Bool.not_eq_true'] at h
      obtain ⟨⟨h1, h2⟩, h3⟩ := h
      have hx : xs ≠ [] := by intro z; rw [z] at h1; cases h1
      have q := snds es S X _ c h2
      exact ⟨q.or hx p, pe_R (by intro i z; cases z) (q.or hx p), fun _ => (q.tor h3 hx p).pt⟩
    · cases h
  | .not a, S, X, x, c, h => by
    unfold chk at h
    split at h
    · simp only [Bool.and_eq_true] at h
      have q := snd a S X _ c h.1
      have hE := c_not (pos := by assumption) q.R
      exact ⟨hE, pe_R (by intro i z; cases z) hE, fun _ => ct_not (q.T h.2)⟩
    · cases h
  | .ite d a b, S, X, x, c, h => by
    unfold chk at h
    split at h
    · simp only [Bool.and_eq_true] at h
      obtain ⟨⟨⟨h1, h2⟩, h3⟩, h4⟩ := h
      have hE := c_ite (pos := by assumption) ((snd d S X _ c h1).T h2) (snd a S X _ c h3).E (snd b S X _ c h4).E
      exact ⟨hE, pe_R (by intro i z; cases z) hE, fun z => by cases z⟩
    · cases h
  | .ix a i, S, X, x, c, h => by
    have hs := chk_shp T _ S x h
    unfold chk at h
    split at h
    · simp only [Bool.and_eq_true] at h
      exact sd_plain (c_ix c.un (chk_shp T _ S _ h.2) (snd a S X _ c h.1).R (snd i S X _ c h.2).E) (by intro i z; cases z) rfl hs
    · cases h
  | .sl a lo hi, S, X, x, c, h => by
    have hs := chk_shp T _ S x h
    unfold chk at h
    split at h
    · simp only [Bool.and_eq_true] at h
      exact sd_plain (c_sl (snd a S X _ c h.1.1).R (sndo lo S X _ c h.1.2) (sndo hi S X _ c h.2)) (by intro i z; cases z) rfl hs
    · cases h
  | .call f es, S, X, x, c, h => by
    have hs := chk_shp T _ S x h
    unfold chk at h
    split at h
    · rename_i id p xs q
      simp only [Bool.and_eq_true] at h
      obtain ⟨⟨⟨h1, h2⟩, h3⟩, h4⟩ := h
      split at h3
      · rename_i g hg
        simp only [Bool.and_eq_true, decide_eq_true_eq] at h3
        have r := snds es S X _ c h4
        cases xs with
        | nil => exact absurd h3.2 (by simp)
        | cons y ys => exact sd_plain (c_call c h1 h2 hg h3.1.1 (by rw [← r.len]; exact h3.1.2) r.shp r.A) (by intro i z; cases z) rfl hs
      · cases h3
    · cases h
  | .blt b es, S, X, x, c, h => by
    have hs := chk_shp T _ S x h
    unfold chk at h
    split at h
    · rename_i id p xs q
      simp only [Bool.and_eq_true, decide_eq_true_eq, Bool.not_eq_true'] at h
      obtain ⟨⟨⟨⟨⟨h1, h2⟩, h3⟩, h4⟩, h5⟩, h6⟩ := h
      have r := snds es S X _ c h6
      cases xs with
      | nil => cases h5
      | cons y ys => exact sd_plain (c_blt c h4 h3 h1 r.shp r.Rs) (by intro i z; cases z) rfl hs
    · cases h
  | .isi ty e, S, X, x, c, h => by
    have hs := chk_shp T _ S x h
    unfold chk at h
    split at h
    · simp only [Bool.and_eq_true, decide_eq_true_eq] at h
      obtain ⟨⟨⟨⟨⟨⟨h1, h2⟩, h3⟩, h4⟩, h5⟩, h6⟩, h7⟩ := h
      exact sd_plain (c_isi c h2 h1 h3 h4 h6 (chk_shp T _ S _ h7) (snd e S X _ c h7).R) (by intro i z; cases z) rfl hs
    · cases h
  | .mth m a es, S, X, x, c, h => by
    have hs := chk_shp T _ S x h
    unfold chk at h
    split at h
    · rename_i y nm ap xs cp
      simp only [Bool.and_eq_true, Bool.not_eq_true'] at h
      obtain ⟨⟨⟨⟨h1, h2⟩, h3⟩, h4⟩, h5⟩ := h
      have r := snds es S X _ c h3
      have hm : m ∈ mths ∧ nm = mthN m ∧ xs.length < 30 := by
        split at h5 <;> first | (cases h5; done) | (simp only [decide_eq_true_eq] at h5; exact ⟨by decide, h5, by simp⟩)
      refine sd_plain (c_mth c.un hm.1 hm.2.1 (snd a S X _ c h1).R r.A h2 h4 r.shp hm.2.2 (fun z => ?_)) (by intro i z; cases z) rfl hs
      have hl := r.len
      rw [z] at hl
      cases es with
      | nil => rfl
      | cons _ _ => simp [lenEs] at hl
    · cases h
  | .lc own tg it cs e, S, X, x, c, h => by
    have hs := chk_shp T _ S x h
    unfold chk at h
    split at h
    · rename_i y tgx itx ifs a scope p
      simp only [Bool.and_eq_true, decide_eq_true_eq] at h
      obtain ⟨⟨⟨⟨⟨⟨⟨⟨⟨rfl, h1⟩, h2⟩, h3⟩, h4⟩, h5⟩, h6⟩, h7⟩, h8⟩, h9⟩ := h
      have hi := sndI it S X itx tgx c h3
      exact sd_plain (c_lc c h1 h2 h5 hi.1 hi.2 h4 (fun X' c' => (snds cs _ X' _ c' h6).ts h7 h8) (fun X' c' => (snd e _ X' _ c' h9).E)) (by intro i z; cases z) rfl hs
    · cases h
theorem snds : ∀ (es : Es) (S : Sta) (X : Cx) (xs : List Expr), Cnx T EV C n S X → chks T es S xs = true → Sds X C es xs
  | .nil, S, X, xs, c, h => by
    unfold chks at h
    cases xs with
    | nil => exact sds_nil
    | cons a b => cases h
  | .cons e es, S, X, xs, c, h => by
    unfold chks at h
    cases xs with
    | nil => cases h
    | cons a b =>
      simp only [Bool.and_eq_true] at h
      exact sds_cons (chk_shp T _ S _ h.1) (snd e S X _ c h.1) (snds es S X _ c h.2)
theorem sndo : ∀ (e : Eo) (S : Sta) (X : Cx) (x : Option Expr), Cnx T EV C n S X → chko T e S x = true → PO X x (RdO X C e)
  | .none, S, X, x, c, h => by
    unfold chko at h
    cases x with
    | none => exact c_none
    | some a => cases h
  | .some e, S, X, x, c, h => by
    unfold chko at h
    cases x with
    | none => cases h
    | some a => exact c_some (snd e S X _ c h).E
theorem sndI : ∀ (it : It) (S : Sta) (X : Cx) (x tg : Expr), Cnx T EV C n S X → chkI T it S x (isTup tg) = true → shp x = true ∧ PI X tg x (RdI X C it)
  | .val e, S, X, x, tg, c, h => by
    unfold chkI at h
    exact ⟨chk_shp T _ S _ h, c_val (snd e S X _ c h).E⟩
  | .range es, S, X, x, tg, c, h => by
    unfold chkI at h
    split at h
    · rename_i id p xs q
      simp only [Bool.and_eq_true, decide_eq_true_eq] at h
      obtain ⟨⟨⟨rfl, h1⟩, h2⟩, h3⟩ := h
      have r := snds es S X _ c h2
      split at h3
      · rename_i y
        exact ⟨rfl, c_range1 c h1 (r.shp y (by simp)) r.A r.len.symm⟩
      · rename_i y z
        exact ⟨rfl, c_range2 c h1 (r.shp y (by simp)) (r.shp z (by simp)) r.A r.len.symm⟩
      · cases h3
    · cases h
  | .zip a b, S, X, x, tg, c, h => by
    unfold chkI at h
    split at h
    · simp only [Bool.and_eq_true, decide_eq_true_eq] at h
      obtain ⟨⟨⟨⟨h0, rfl⟩, h1⟩, h2⟩, h3⟩ := h
      unfold isTup at h0
      split at h0
      · exact ⟨rfl, c_zip c h1 (chk_shp T _ S _ h2) (chk_shp T _ S _ h3) (snd a S X _ c h2).E (snd b S X _ c h3).E⟩
      · cases h0
    · cases h
  | .enum a, S, X, x, tg, c, h => by
    unfold chkI at h
    split at h
    · simp only [Bool.and_eq_true, decide_eq_true_eq] at h
      obtain ⟨⟨⟨h0, rfl⟩, h1⟩, h2⟩ := h
      unfold isTup at h0
      split at h0
      · exact ⟨rfl, c_enum c h1 (chk_shp T _ S _ h2) (snd a S X _ c h2).E⟩
      · cases h0
    · cases h
  | .items a, S, X, x, tg, c, h => by
    unfold chkI at h
    split at h
    · simp only [Bool.and_eq_true, decide_eq_true_eq, Bool.not_eq_true'] at h
      obtain ⟨⟨⟨⟨h0, rfl⟩, h1⟩, h2⟩, h3⟩ := h
      unfold isTup at h0
      split at h0
      · exact ⟨rfl, c_items h1 h2 (snd a S X _ c h3).E⟩
      · cases h0
    · cases h
  | .values a, S, X, x, tg, c, h => by
    unfold chkI at h
    split at h
    · simp only [Bool.and_eq_true, decide_eq_true_eq, Bool.not_eq_true'] at h
      obtain ⟨⟨⟨rfl, h1⟩, h2⟩, h3⟩ := h
      exact ⟨rfl, c_values h1 h2 (snd a S X _ c h3).E⟩
    · cases h
end
end
end Mn

set_option Elab.async false
set_option linter.all false
set_option maxRecDepth 100000
set_option maxHeartbeats 4000000
/-! ## statements -/
namespace Mn
open PySem L2 PyProof.Rows
/-- where a statement ends -/
def Fin (P : Program) (w : World) (K : PySem.W.Frag) (EV : EVT) (W : WX) (U F : Hp) (ρ : List Addr) (H : Hp) (s : Fm) (D : Ends) : Flow → Prop
  | .next => ∀ σ' F' ρ' H', Nx F ρ H F' ρ' H' → Ok P w K U F' ρ' s σ' H' → D.nx σ' H'
  | .brk => ∀ σ' F' ρ' H', Nx F ρ H F' ρ' H' → Ok P w K U F' ρ' s σ' H' → D.bk σ' H'
  | .cont => ∀ σ' F' ρ' H', Nx F ρ H F' ρ' H' → Ok P w K U F' ρ' s σ' H' → D.ct σ' H'
  | .ret r => ∀ v σ' F' ρ' H', Nx F ρ H F' ρ' H' → Ok P w K U F' ρ' s σ' H' → Res P w K U F' ρ' s σ' H' v r → D.rt v H'
  | .exc d => ∀ cls dd σ' F' ρ' H', Nx F ρ H F' ρ' H' → Ok P w K U F' ρ' s σ' H' → EV cls dd H' d → W cls dd σ' H'
def RdS (X : Cx) (EV : EVT) (W : WX) (f : Fm → Option (Flow × Fm)) : TS := fun D σ H => ∃ U F ρ s fl s', Ok X.prog X.w X.K U F ρ s σ H ∧ f s = some (fl, s') ∧ Fin X.prog X.w X.K EV W U F ρ H s' D fl
section
variable {P : Program} {w : World} {K : PySem.W.Frag} {U F F' H H' : Hp} {ρ ρ' : List Addr} {s : Fm} {D D' : Ends} {fl : Flow} {EV : EVT} {W : WX}
theorem Fin.mono (nx : Nx F ρ H F' ρ' H') (h : Fin P w K EV W U F ρ H s D fl) : Fin P w K EV W U F' ρ' H' s D fl := by
  cases fl with
  | next => exact fun σ' F2 ρ2 H2 n k => h σ' F2 ρ2 H2 (nx.trans n) k
  | brk => exact fun σ' F2 ρ2 H2 n k => h σ' F2 ρ2 H2 (nx.trans n) k
  | cont => exact fun σ' F2 ρ2 H2 n k => h σ' F2 ρ2 H2 (nx.trans n) k
  | ret r => exact fun v σ' F2 ρ2 H2 n k rs => h v σ' F2 ρ2 H2 (nx.trans n) k rs
  | exc d => exact fun cls dd σ' F2 ρ2 H2 n k ev => h cls dd σ' F2 ρ2 H2 (nx.trans n) k ev
end
section
variable {X : Cx} {EV : EVT} {C : Calls} {T : Tb} {n m : Nat} {S : Sta} {pos : Pos} {W : WX}
theorem PS.imp {x : Stmt} {t t' : TS} (h : PS X x t) (hi : ∀ D σ H, t' D σ H → t D σ H) : PS X x t' := ⟨fun pins s σ H D I q => h.run pins s σ H D I (hi D σ H q)⟩
theorem PSs.imp {x : List Stmt} {t t' : TS} (h : PSs X x t) (hi : ∀ D σ H, t' D σ H → t D σ H) : PSs X x t' := ⟨fun pins s σ H D I q => h.run pins s σ H D I (hi D σ H q)⟩
theorem i_set {i : Nat} {e : E} {D : Ends} {σ : L2.St} {H : Hp} (h : RdS X EV W (exS C m (.set i e)) D σ H) : tAsg (RdE X C e) (gName i) D σ H := by
  obtain ⟨U, F, ρ, s, fl, s', k, e1, q⟩ := h
  simp only [exS] at e1
  split at e1
  · rename_i r s1 h1
    split at e1
    · rename_i hi
      cases e1
      exact ⟨U, F, ρ, s, r, s1, k, h1, fun v F' ρ' H' nx k' rs => q _ F' ρ' H' nx (k'.store rs)⟩
    · cases e1
  · cases e1
theorem sw_lc {elt : Expr} {gs : List Comprehension} {scope : Scope} {pos p : Pos} {y : Str} {l : Nat} {env : PySem.Env} (h : swB env.scope (.ListComp elt gs scope pos) y p = false) : swapsWith (.ListComp elt gs scope pos) (some (.Name y p)) l env = pure false := by
  show (pure (env.blockKind == .function && env.kindOf y == some .local && p.line == pos.line && !(scope.names.any fun (n, k) => n == y && (k == .local || k == .cell))) : Sem Bool) = pure false
  congr 1
  unfold swB at h
  have hk : env.kindOf y = env.scope.names.lookup y := rfl
  rw [hk]
  cases e : env.scope.names.lookup y with
  | none => simp
  | some k =>
    rw [e] at h
    cases k <;> simp at h ⊢
    intro h1 h2
    exact h h2
theorem sw_name {x : Expr} {y : Str} {p : Pos} {l : Nat} {env : PySem.Env} (hs : shp x = true) (h : swB env.scope x y p = false) : swapsWith x (some (.Name y p)) l env = pure false := by
  cases hl : isLc x with
  | false => exact lc_sw hl hs _ _
  | true =>
    cases x <;> first | (cases hl; done) | exact sw_lc h
theorem s_set (c : Cnx T EV C n S X) {i : Nat} {e : E} {id : Str} {p : Pos} {x : Expr} (h1 : stB S i id = true) (hs : shp x = true) (hw : swB S.sc x id p = false) (hE : PE X x (RdE X C e)) : PS X (.Assign [.Name id p] x pos) (RdS X EV W (exS C m (.set i e))) := by
  obtain ⟨g1, g2, g3⟩ := stB_of c h1
  exact PS.imp (ps_set c.nd g1 g2 hE (sw_name hs (by rw [c.sc]; exact hw)) g3) fun D σ H h => i_set h
theorem s_setLc (c : Cnx T EV C n S X) {i : Nat} {id : Str} {p pos' : Pos} {own : List Nat} {tg : Tg} {it : It} {cs : Es} {e : E} {elt tgx itx : Expr} {ifs : List Expr} {scope : Scope} (h1 : stB S i id = true) (hw : swB S.sc (.ListComp elt [⟨tgx, itx, ifs, 0⟩] scope pos') id p = true) (hk : S.sc.kind = .function)
    (hb : blkC S.N S.sc scope (ownN S.N own) = true) (ho : (ownN S.N own).map (·.2) = own) (hsub : subT tg own = true)
    (hs : shp itx = true) (hi : PI X tgx itx (RdI X C it)) (hg : chkG tg (S.blk scope) tgx = true) (ht : ∀ X' : Cx, Cnx T EV C n (S.blk scope) X' → PTs X' ifs (RdTs X' C cs)) (he : ∀ X' : Cx, Cnx T EV C n (S.blk scope) X' → PE X' elt (RdE X' C e)) :
    PS X (.Assign [.Name id p] (.ListComp elt [⟨tgx, itx, ifs, 0⟩] scope pos') pos) (RdS X EV W (exS C m (.set i (.lc own tg it cs e)))) := by
  obtain ⟨g1, g2, g3⟩ := stB_of c h1
  unfold swB at hw
  simp only [Bool.and_eq_true, Bool.not_eq_true'] at hw
  obtain ⟨⟨hw1, hw2⟩, hw3⟩ := hw
  have hloc : X.env.scope.names.lookup id = some .local := by
    rw [c.sc]
    split at hw1
    · assumption
    · cases hw1
  have ps := ps_setLc (spos := pos) c.calm c.nd g1 hloc (sw_true (by rw [c.sc]; exact hk) hloc hw2 hw3) hi (own := ownN S.N own) (blkOk_by (by rw [c.hN, c.sc]; exact hb)) (g := RdG1 X tg) (tt := RdTs X C cs) (te := RdV X C e) (fun s H Ca cl fp => c_tg (c.blk scope s H Ca cl fp) tg tgx hg) (fun s H Ca cl fp => ht (X.blk s H scope (compEnvC scope cl Ca X.env) fp) (c.blk scope s H Ca cl fp)) (fun s H Ca cl fp => pe_V (he (X.blk s H scope (compEnvC scope cl Ca X.env) fp) (c.blk scope s H Ca cl fp))) (shp_fold hs)
  rw [ho] at ps
  exact PS.imp ps fun D σ H h => i_lc hsub (i_set h)
theorem tup_sw {t y : Expr} {ts : List Expr} {k : Nat} {q : Pos} (l : Nat) (env : PySem.Env) : swapsWithSole [.Tuple ts k q] y l env = pure false := by cases y <;> rfl
theorem tup_st {y : Expr} {ts : List Expr} {k : Nat} {q : Pos} (env : PySem.Env) (h : isTup y = false) : swappedStores [.Tuple ts k q] y env = pure none := by cases y <;> first | (cases h; done) | rfl
theorem sub_sw {y o i : Expr} {q : Pos} (l : Nat) (env : PySem.Env) : swapsWithSole [.Subscript o i q] y l env = pure false := by cases y <;> rfl
theorem sub_st {y o i : Expr} {q : Pos} (env : PySem.Env) : swappedStores [.Subscript o i q] y env = pure none := by cases y <;> rfl
theorem sub_as {o i : Expr} {q : Pos} {env : PySem.Env} (hi : shp i = true) (v : Value) : assign (.Subscript o i q) env v = (do
      let ov ← holding [v] (eval o env)
      let iv ← holding [v, ov] (eval i env)
      standAt q
      holding [v, ov, iv] (setItem ov iv v)
      release [v, ov, iv] []) := by cases i <;> first | (cases hi; done) | rfl
theorem s_asg (c : Cnx T EV C n S X) {t : Tg} {e : E} {ts : List Expr} {k : Nat} {q : Pos} {x : Expr} (h1 : chkG t S (.Tuple ts k q) = true) (hx : isTup x = false) (hE : PE X x (RdE X C e)) : PS X (.Assign [.Tuple ts k q] x pos) (RdS X EV W (exS C m (.asg t e))) :=
  PS.imp (ps_asg (pe_V hE) (c_tg c t _ h1) (tup_sw (t := x) _ _) (tup_st _ hx) rfl) fun D σ H => by
    rintro ⟨U, F, ρ, s, fl, s', k, e1, q⟩
    simp only [exS] at e1
    split at e1
    · rename_i o d s1 h1
      split at e1
      · rename_i sl h2
        cases e1
        refine ⟨U, F, ρ, s, _, s1, k, h1, fun v F' ρ' H' nx k' rs => ⟨U, F', ρ', s1, d, sl, k', rs, h2, fun σ' k2 _ => q σ' F' ρ' H' nx k2⟩⟩
      · cases e1
    · cases e1
theorem s_seti (c : Cnx T EV C n S X) {a i e : E} {x y z : Expr} {q : Pos} (hy : shp y = true) (ha : PE X x (RdR X C a)) (hi : PE X y (RdE X C i)) (he : PE X z (RdE X C e)) : PS X (.Assign [.Subscript x y q] z pos) (RdS X EV W (exS C m (.seti a i e))) :=
  PS.imp (ps_asg (pe_V he) (pg_sub ha (pe_V hi) (or_set c.un) (sub_as hy)) (sub_sw _ _) (sub_st _) rfl) fun D σ H => by
    rintro ⟨U, F, ρ, s, fl, s', k, e1, q⟩
    simp only [exS] at e1
    split at e1
    · rename_i o d s1 h1
      split at e1
      · rename_i p s2 h2
        split at e1
        · rename_i o2 y' s3 h3
          split at e1
          · rename_i x' h4
            split at e1
            · rename_i z' h5
              split at e1
              · rename_i s4 h6
                cases e1
                refine ⟨U, F, ρ, s, _, s1, k, h1, fun v F1 ρ1 H1 n1 k1 r1 => ⟨U, F1, ρ1, s1, p, s2, k1, h2, fun ov F2 ρ2 H2 n2 k2 r2 => ⟨U, F2, ρ2, s2, _, s3, k2, h3, fun iv F3 ρ3 H3 n3 k3 r3 => ?_⟩⟩⟩
                refine ⟨U, F3, ρ3, s3, σ, p, x', y', d, z', s', k3, r2.mono n3, r3, r1.mono (n2.trans n3).sub (n2.trans n3).pre, h4, h5, h6, fun H' nx k' => q σ F3 ρ3 H' (((n1.trans n2).trans n3).trans nx) k'⟩
              · cases e1
            · cases e1
          · cases e1
        · cases e1
      · cases e1
    · cases e1
theorem s_aug (c : Cnx T EV C n S X) {i : Nat} {o : Bop} {e : E} {id : Str} {p : Pos} {x : Expr} (h1 : stB S i id = true) (ho : o = .add ∨ o = .sub ∨ o = .mul) (hE : PE X x (RdE X C e)) : PS X (.AugAssign (.Name id p) (opOf o) x pos) (RdS X EV W (exS C m (.aug i o e))) := by
  obtain ⟨g1, g2, g3⟩ := stB_of c h1
  refine PS.imp (ps_aug c.nd g1 g2 (pe_V hE) (or_iop (o := o)) g3) fun D σ H => ?_
  rintro ⟨U, F, ρ, s, fl, s', k, e1, q⟩
  simp only [exS] at e1
  split at e1
  · rename_i x' hs
    split at e1
    · rename_i hf
      split at e1
      · rename_i o1 y s1 h1
        split at e1
        · rename_i r h2
          split at e1
          · rename_i hi
            cases e1
            obtain ⟨v, hv, g, _⟩ := k.slot i false x' hs
            refine ⟨v, hv, U, F, ρ, s, _, s1, k, h1, fun yv F1 ρ1 H1 n1 k1 r1 => ⟨ho, ?_, ?_⟩⟩
            · intro a z
              have rp := g rfl
              subst z
              cases x' <;> first | (cases hf; done) | cases rp
            · exact ⟨U, F1, ρ1, s1, σ, x', y, r, k1, (g rfl).mono n1.sub n1.pre, r1, h2, fun z F' ρ' H' nx k' rs => q _ F' ρ' H' (n1.trans nx) (k'.store rs)⟩
          · cases e1
        · cases e1
      · cases e1
    · cases e1
  · cases e1
theorem s_ex {e : E} {x : Expr} (hl : isLc x = false) (hs : shp x = true) (hE : PE X x (RdE X C e)) : PS X (.Expr x pos) (RdS X EV W (exS C m (.ex e))) :=
  PS.imp (ps_expr hE (lc_sw hl hs _ _)) fun D σ H => by
    rintro ⟨U, F, ρ, s, fl, s', k, e1, q⟩
    simp only [exS] at e1
    split at e1
    · rename_i r s1 h1
      cases e1
      exact ⟨U, F, ρ, s, r, s', k, h1, fun v F' ρ' H' nx k' rs => q σ F' ρ' H' nx k'⟩
    · cases e1
/-- a name that is answered goes along with its list -/
theorem c_M {i : Nat} {x : Expr} (h : PE X x (tVar i)) : PE X x (RdG X.prog X.w X.K (evM C (.var i)) (Res X.prog X.w X.K)) := PE.imp h fun σ H Q => by
  rintro ⟨U, F, ρ, s, r, s', k, e, q⟩
  simp only [evM] at e
  split at e
  · rename_i o d hs
    cases e
    obtain ⟨v, e1, g1, g2⟩ := k.slot i o d hs
    refine ⟨v, e1, ?_⟩
    cases o with
    | false => exact q v F ρ H (.refl _ _ _) k (.val (g1 rfl))
    | true =>
      obtain ⟨a, rfl, nd, hF, hU, hc⟩ := g2 rfl
      have hlt : i < s.sl.length := (List.getElem?_eq_some_iff.mp hs).1
      have k2 : Ok X.prog X.w X.K U F ρ { s with sl := s.sl.set i none } σ H := k.forget (by rw [List.length_set]; exact k.len) fun j x hx => by
        by_cases hj : j = i
        · subst hj
          rw [List.getElem?_set_self hlt] at hx; cases hx
        · rw [List.getElem?_set_ne (Ne.symm hj)] at hx
          exact ⟨hx, rfl⟩
      refine q (.ref a) F ρ H (.refl _ _ _) k2 ⟨fun z => Bool.noConfusion z, fun _ => ⟨a, rfl, nd, hF, hU, hc, fun j d' hj hq => ?_⟩⟩
      have hj : (s.sl.set i none)[j]? = some (some (true, d')) := hj
      by_cases z : j = i
      · subst z
        rw [List.getElem?_set_self hlt] at hj; cases hj
      · rw [List.getElem?_set_ne (Ne.symm z)] at hj
        exact z (k.apart j i d' d a hj hs hq e1)
  · cases e
theorem s_ret {e : E} {x : Expr} (hM : PE X x (RdG X.prog X.w X.K (evM C e) (Res X.prog X.w X.K))) : PS X (.Return (some x) pos) (RdS X EV W (exS C m (.ret e))) :=
  PS.imp (ps_ret hM) fun D σ H => by
    rintro ⟨U, F, ρ, s, fl, s', k, e1, q⟩
    simp only [exS] at e1
    split at e1
    · rename_i r s1 h1
      cases e1
      exact ⟨U, F, ρ, s, r, s', k, h1, fun v F' ρ' H' nx k' rs => q v σ F' ρ' H' nx k' rs⟩
    · cases e1
theorem s_if {e : E} {x : Expr} {t f : List Mn.S} {a b : List Stmt} (hT : PT X x (RdT X C e)) (ha : PSs X a (RdS X EV W (exSs C m t))) (hb : PSs X b (RdS X EV W (exSs C m f))) : PS X (.If x a b pos) (RdS X EV W (exS C m (.ite e t f))) :=
  PS.imp (ps_if hT ha hb) fun D σ H => by
    rintro ⟨U, F, ρ, s, fl, s', k, e1, q⟩
    simp only [exS] at e1
    split at e1
    · rename_i s1 h1
      refine ⟨U, F, ρ, s, true, s1, k, h1, fun c F1 ρ1 H1 n1 k1 hc => ?_⟩
      obtain rfl : c = true := hc
      show if true = true then _ else _
      rw [if_pos rfl]
      exact ⟨U, F1, ρ1, s1, fl, s', k1, e1, q.mono n1⟩
    · rename_i s1 h1
      refine ⟨U, F, ρ, s, false, s1, k, h1, fun c F1 ρ1 H1 n1 k1 hc => ?_⟩
      obtain rfl : c = false := hc
      show if false = true then _ else _
      rw [if_neg (by decide)]
      exact ⟨U, F1, ρ1, s1, fl, s', k1, e1, q.mono n1⟩
    · cases e1
theorem s_while (hp : PassesOwn (model X.prog X.w) X.A X.env X.xe) {e : E} {x : Expr} {b : List Mn.S} {a : List Stmt} (hT : PT X x (RdT X C e)) (ha : PSs X a (RdS X EV W (exSs C m b))) : PS X (.While x a [] pos) (RdS X EV W (exS C m (.whil e b))) :=
  PS.imp (ps_while hp hT ha) fun D σ H => by
    rintro ⟨U, F, ρ, s, fl, s', k, e1, q⟩
    simp only [exS] at e1
    refine ⟨fun j σ' H' => ∃ F1 ρ1 s1, Ok X.prog X.w X.K U F1 ρ1 s1 σ' H' ∧ Nx F ρ H F1 ρ1 H' ∧ whilF (evT C e) (exSs C m b) j s1 = some (fl, s'), ⟨m, F, ρ, s, k, .refl _ _ _, e1⟩, ?_⟩
    rintro j σ1 H1 ⟨F1, ρ1, s1, k1, n1, e2⟩
    cases j with
    | zero => simp only [whilF] at e2; cases e2
    | succ j =>
      simp only [whilF] at e2
      split at e2
      · rename_i s2 h2
        cases e2
        refine ⟨U, F1, ρ1, s1, false, s', k1, h2, fun c F2 ρ2 H2 n2 k2 hc => ?_⟩
        obtain rfl : c = false := hc
        show if false = true then _ else _
        rw [if_neg (by decide)]
        exact q σ1 F2 ρ2 H2 (n1.trans n2) k2
      · rename_i s2 h2
        refine ⟨U, F1, ρ1, s1, true, s2, k1, h2, fun c F2 ρ2 H2 n2 k2 hc => ?_⟩
        obtain rfl : c = true := hc
        show if true = true then _ else _
        rw [if_pos rfl]
        refine ⟨fun σ' H' => ∃ F1 ρ1 s1, Ok X.prog X.w X.K U F1 ρ1 s1 σ' H' ∧ Nx F ρ H F1 ρ1 H' ∧ whilF (evT C e) (exSs C m b) j s1 = some (fl, s'), fun σ' H' h => ⟨j, Nat.lt_succ_self _, h⟩, ?_⟩
        split at e2
        · rename_i s3 h3
          exact ⟨U, F2, ρ2, s2, .next, s3, k2, h3, fun σ' F' ρ' H' nx k' => ⟨F', ρ', s3, k', (n1.trans n2).trans nx, e2⟩⟩
        · rename_i s3 h3
          exact ⟨U, F2, ρ2, s2, .cont, s3, k2, h3, fun σ' F' ρ' H' nx k' => ⟨F', ρ', s3, k', (n1.trans n2).trans nx, e2⟩⟩
        · rename_i s3 h3
          cases e2
          exact ⟨U, F2, ρ2, s2, .brk, s', k2, h3, fun σ' F' ρ' H' nx k' => q σ' F' ρ' H' ((n1.trans n2).trans nx) k'⟩
        · rename_i r s3 h3
          cases e2
          exact ⟨U, F2, ρ2, s2, .ret r, s', k2, h3, fun v σ' F' ρ' H' nx k' rs => q v σ' F' ρ' H' ((n1.trans n2).trans nx) k' rs⟩
        · rename_i r s3 h3
          cases e2
          exact ⟨U, F2, ρ2, s2, .exc r, s', k2, h3, fun cls dd σ' F' ρ' H' nx k' ev => q cls dd σ' F' ρ' H' ((n1.trans n2).trans nx) k' ev⟩
        · cases e2
      · cases e2
theorem s_for (c : Cnx T EV C n S X) (hp : PassesOwn (model X.prog X.w) X.A X.env X.xe) {t : Tg} {it : It} {b : List Mn.S} {tg x : Expr} {a : List Stmt} (hg : chkG t S tg = true) (hs : shp x = true) (hi : PI X tg x (RdI X C it)) (ha : PSs X a (RdS X EV W (exSs C m b))) : PS X (.For tg x a [] pos) (RdS X EV W (exS C m (.forr t it b))) :=
  PS.imp (ps_for hp c.calm hi (c_tg c t tg hg) ha (shp_fold hs)) fun D σ H => by
    rintro ⟨U, F, ρ, s, fl, s', k, e1, q⟩
    simp only [exS] at e1
    split at e1
    · rename_i ds s0 h1
      refine ⟨U, F, ρ, s, ds, s0, k, h1, fun J F1 ρ1 H1 n1 k1 go => ?_⟩
      refine ⟨fun i j σ H => j = ds.length - i ∧ i ≤ ds.length ∧ ∃ F2 ρ2 s2, Ok X.prog X.w X.K U F2 ρ2 s2 σ H ∧ Nx F1 ρ1 H1 F2 ρ2 H ∧ forF t (exSs C m b) (ds.drop i) s2 = some (fl, s'), ⟨ds.length, by simp, Nat.zero_le _, F1, ρ1, s0, k1, .refl _ _ _, by simpa using e1⟩, ?_⟩
      rintro i j σ2 H2 ⟨rfl, hi, F2, ρ2, s2, k2, n2, e2⟩
      obtain ⟨g1, g2, g3⟩ := go U F2 ρ2 s2 σ2 H2 n2 k2
      by_cases hlt : i < ds.length
      · refine .inr ⟨g1 i hlt, fun σ H => i + 1 ≤ ds.length ∧ ∃ F2 ρ2 s2, Ok X.prog X.w X.K U F2 ρ2 s2 σ H ∧ Nx F1 ρ1 H1 F2 ρ2 H ∧ forF t (exSs C m b) (ds.drop (i + 1)) s2 = some (fl, s'), fun σ' H' p' => ⟨ds.length - (i + 1), by omega, rfl, p'⟩, fun x H' y => ?_⟩
        obtain ⟨d, F3, hd, n3, k3, r3⟩ := g3 i x H' hlt y
        have hdrop : ds.drop i = d :: ds.drop (i + 1) := by
          rw [List.drop_eq_getElem_cons hlt]
          congr 1
          rw [List.getElem?_eq_getElem hlt] at hd
          exact Option.some.inj hd
        rw [hdrop] at e2
        simp only [forF] at e2
        split at e2
        · rename_i sl hsl
          refine ⟨U, F3, ρ2, s2, d, sl, k3, r3, hsl, fun σ4 k4 _ => ?_⟩
          split at e2
          · rename_i s3 h3
            exact ⟨U, F3, ρ2, _, .next, s3, k4, h3, fun σ' F' ρ' H' nx k' => ⟨hlt, F', ρ', s3, k', (n2.trans n3).trans nx, e2⟩⟩
          · rename_i s3 h3
            exact ⟨U, F3, ρ2, _, .cont, s3, k4, h3, fun σ' F' ρ' H' nx k' => ⟨hlt, F', ρ', s3, k', (n2.trans n3).trans nx, e2⟩⟩
          · rename_i s3 h3
            cases e2
            exact ⟨U, F3, ρ2, _, .brk, s', k4, h3, fun σ' F' ρ' H' nx k' => q σ' F' ρ' H' (((n1.trans n2).trans n3).trans nx) k'⟩
          · rename_i r s3 h3
            cases e2
            exact ⟨U, F3, ρ2, _, .ret r, s', k4, h3, fun v σ' F' ρ' H' nx k' rs => q v σ' F' ρ' H' (((n1.trans n2).trans n3).trans nx) k' rs⟩
          · rename_i r s3 h3
            cases e2
            exact ⟨U, F3, ρ2, _, .exc r, s', k4, h3, fun cls dd σ' F' ρ' H' nx k' ev => q cls dd σ' F' ρ' H' (((n1.trans n2).trans n3).trans nx) k' ev⟩
          · cases e2
        · cases e2
      · have e : i = ds.length := by omega
        subst e
        rw [List.drop_length] at e2
        simp only [forF] at e2
        cases e2
        exact .inl ⟨g2, q σ2 F2 ρ2 H2 (n1.trans n2) k2⟩
    · cases e1
theorem ss_nil : PSs X [] (RdS X EV W (exSs C m [])) := PSs.imp pss_nil fun D σ H => by
  rintro ⟨U, F, ρ, s, fl, s', k, e1, q⟩
  simp only [exSs] at e1
  cases e1
  exact q σ F ρ H (.refl _ _ _) k
theorem ss_cons {st : Mn.S} {r : List Mn.S} {x : Stmt} {xs : List Stmt} (h : PS X x (RdS X EV W (exS C m st))) (hr : PSs X xs (RdS X EV W (exSs C m r))) : PSs X (x :: xs) (RdS X EV W (exSs C m (st :: r))) := PSs.imp (pss_cons h hr) fun D σ H => by
  rintro ⟨U, F, ρ, s, fl, s', k, e1, q⟩
  simp only [exSs] at e1
  split at e1
  · rename_i s1 h1
    exact ⟨U, F, ρ, s, .next, s1, k, h1, fun σ' F' ρ' H' nx k' => ⟨U, F', ρ', s1, fl, s', k', e1, q.mono nx⟩⟩
  · rename_i f s1 hn h1
    cases e1
    refine ⟨U, F, ρ, s, fl, s', k, h1, ?_⟩
    cases fl with
    | next => exact (hn rfl).elim
    | brk => exact q
    | cont => exact q
    | ret r => exact q
    | exc d => exact q
  · cases e1
theorem sd_M {e : E} {x : Expr} (c : Cnx T EV C n S X) (h : chk T e S x = true) : PE X x (RdG X.prog X.w X.K (evM C e) (Res X.prog X.w X.K)) := by
  by_cases hv : ∃ i, e = .var i
  · obtain ⟨i, rfl⟩ := hv
    unfold chk at h
    split at h
    · simp only [Bool.and_eq_true, decide_eq_true_eq] at h
      exact c_M (c_var0 c h.1.1 h.1.2 h.2)
    · cases h
  · have e1 : evM C e = ev C e := by
      funext s
      cases e <;> first | rfl | exact absurd ⟨_, rfl⟩ hv
    rw [e1]
    exact (snd e S X x c h).E
/-- raise and try, where the law has them -/
structure Exq (T : Tb) (EV : EVT) (C : Calls) (m : Nat) (S : Sta) (X : Cx) (W : WX) : Prop where
  rz : ∀ (id : Str) (y : Expr) (e : E) (p q pos : Pos), T.exc = some id → glB S.sc id = true → okN id = true → shp y = true → PE X y (RdE X C e) → PS X (.Raise (some (.Call (.Name id p) [y] [] q)) none pos) (RdS X EV W (exS C m (.raise e)))
  tz : ∀ (f : Nat) (es : Es) (i j : Nat) (st : Stmt) (xs : List Expr) (id : Str), T.tryS S f j st = some (xs, id) → stB S i id = true → lenEs es = (match T.fns[f]? with | some g => g.np | none => 0) → (∀ y ∈ xs, shp y = true) → xs ≠ [] → (∀ pn xe, PA (X.tr pn xe) xs (RdA X C es)) → PS X st (RdS X EV W (exS C m (.tryc f es i j)))
theorem Cnx.tr {X : Cx} (c : Cnx T EV C n S X) (pn : List (Addr × Obj)) (xe : Value → Shared → Prop) : Cnx T EV C n S (X.tr pn xe) := ⟨c.hN, c.nd, c.sc, c.fn, c.calm, c.room, c.blt, c.con, c.fns⟩
mutual
theorem sndS : ∀ (st : Mn.S) (S : Sta) (X : Cx) (x : Stmt), Cnx T EV C n S X → PassesOwn (model X.prog X.w) X.A X.env X.xe ∧ Exq T EV C m S X W → chkS T st S x = true → PS X x (RdS X EV W (exS C m st))
  | .set i e, S, X, x, c, hp, h => by
    unfold chkS at h
    split at h
    · rename_i id p y pos
      simp only [Bool.and_eq_true, Bool.or_eq_true, Bool.not_eq_true'] at h
      obtain ⟨⟨h1, h2⟩, h3⟩ := h
      cases hw : swB S.sc y id p with
      | false => exact s_set c h1 (chk_shp T _ S _ h2) hw (snd e S X _ c h2).E
      | true =>
        rcases h3 with h3 | h3
        · rw [hw] at h3; cases h3
        · split at h3
          · rename_i own tg it cs e
            have hk : S.sc.kind = .function := by
              split at h3
              · assumption
              · cases h3
            unfold chk at h2
            split at h2
            · rename_i y tgx itx ifs a scope p
              simp only [Bool.and_eq_true, decide_eq_true_eq] at h2
              obtain ⟨⟨⟨⟨⟨⟨⟨⟨⟨rfl, g1⟩, g2⟩, g3⟩, g4⟩, g5⟩, g6⟩, g7⟩, g8⟩, g9⟩ := h2
              have hi := sndI it S X itx tgx c g3
              exact s_setLc c h1 hw hk g1 g2 g5 hi.1 hi.2 g4 (fun X' c' => (snds cs _ X' _ c' g6).ts g7 g8) (fun X' c' => (snd e _ X' _ c' g9).E)
            · cases h2
          · cases h3
    · cases h
  | .asg t e, S, X, x, c, hp, h => by
    unfold chkS at h
    split at h
    · simp only [Bool.and_eq_true, Bool.not_eq_true'] at h
      exact s_asg c h.1.1 h.2 (snd e S X _ c h.1.2).E
    · cases h
  | .seti a i e, S, X, x, c, hp, h => by
    unfold chkS at h
    split at h
    · simp only [Bool.and_eq_true] at h
      exact s_seti c (chk_shp T _ S _ h.1.2) (snd a S X _ c h.1.1).R (snd i S X _ c h.1.2).E (snd e S X _ c h.2).E
    · cases h
  | .aug i o e, S, X, x, c, hp, h => by
    unfold chkS at h
    split at h
    · simp only [Bool.and_eq_true, decide_eq_true_eq] at h
      obtain ⟨⟨⟨h1, rfl⟩, h3⟩, h4⟩ := h
      exact s_aug c h1 (by simpa using h3) (snd e S X _ c h4).E
    · cases h
  | .augi a i o e, S, X, x, c, hp, h => by
    unfold chkS at h
    split at h <;> cases h
  | .ex e, S, X, x, c, hp, h => by
    unfold chkS at h
    split at h
    · simp only [Bool.and_eq_true, Bool.not_eq_true'] at h
      exact s_ex h.2 (chk_shp T _ S _ h.1) (snd e S X _ c h.1).E
    · cases h
  | .ret e, S, X, x, c, hp, h => by
    unfold chkS at h
    split at h
    · exact s_ret (sd_M c h)
    · cases h
  | .ret0, S, X, x, c, hp, h => by
    unfold chkS at h
    split at h
    · refine PS.imp ps_retN fun D σ H => ?_
      rintro ⟨U, F, ρ, s, fl, s', k, e1, q⟩
      simp only [exS] at e1
      cases e1
      exact q .non σ F ρ H (.refl _ _ _) k (.val .non)
    · cases h
  | .ite e t f, S, X, x, c, hp, h => by
    unfold chkS at h
    split at h
    · simp only [Bool.and_eq_true] at h
      exact s_if ((snd e S X _ c h.1.1.1).T h.1.1.2) (sndSs t S X _ c hp h.1.2) (sndSs f S X _ c hp h.2)
    · cases h
  | .whil e b, S, X, x, c, hp, h => by
    unfold chkS at h
    split at h
    · simp only [Bool.and_eq_true] at h
      exact s_while hp.1 ((snd e S X _ c h.1.1).T h.1.2) (sndSs b S X _ c hp h.2)
    · cases h
  | .forr t it b, S, X, x, c, hp, h => by
    unfold chkS at h
    split at h
    · simp only [Bool.and_eq_true] at h
      have hi := sndI it S X _ _ c h.1.2
      exact s_for c hp.1 h.1.1 hi.1 hi.2 (sndSs b S X _ c hp h.2)
    · cases h
  | .brk, S, X, x, c, hp, h => by
    unfold chkS at h
    split at h
    · refine PS.imp ps_break fun D σ H => ?_
      rintro ⟨U, F, ρ, s, fl, s', k, e1, q⟩
      simp only [exS] at e1
      cases e1
      exact q σ F ρ H (.refl _ _ _) k
    · cases h
  | .cont, S, X, x, c, hp, h => by
    unfold chkS at h
    split at h
    · refine PS.imp ps_continue fun D σ H => ?_
      rintro ⟨U, F, ρ, s, fl, s', k, e1, q⟩
      simp only [exS] at e1
      cases e1
      exact q σ F ρ H (.refl _ _ _) k
    · cases h
  | .pass, S, X, x, c, hp, h => by
    unfold chkS at h
    split at h
    · refine PS.imp ps_pass fun D σ H => ?_
      rintro ⟨U, F, ρ, s, fl, s', k, e1, q⟩
      simp only [exS] at e1
      cases e1
      exact q σ F ρ H (.refl _ _ _) k
    · cases h
  | .raise e, S, X, x, c, hp, h => by
    unfold chkS at h
    split at h
    · simp only [Bool.and_eq_true, decide_eq_true_eq] at h
      obtain ⟨⟨⟨h1, h2⟩, h3⟩, h4⟩ := h
      exact hp.2.rz _ _ e _ _ _ h1 h2 h3 (chk_shp T _ S _ h4) (snd e S X _ c h4).E
    · cases h
  | .tryc f es i j, S, X, x, c, hp, h => by
    unfold chkS at h
    split at h
    · rename_i xs id hx
      simp only [Bool.and_eq_true, decide_eq_true_eq, Bool.not_eq_true'] at h
      obtain ⟨⟨⟨h1, h2⟩, h3⟩, h4⟩ := h
      exact hp.2.tz f es i j x xs id hx h2 h3 (snds es S X xs c h1).shp (by intro z; rw [z] at h4; cases h4) fun pn xe => (snds es S (X.tr pn xe) xs (c.tr pn xe) h1).A
    · cases h
  | .never, S, X, x, c, hp, h => PS.imp ps_never fun D σ H => by
    rintro ⟨U, F, ρ, s, fl, s', k, e1, q⟩
    simp only [exS] at e1
    cases e1
theorem sndSs : ∀ (ss : List Mn.S) (S : Sta) (X : Cx) (xs : List Stmt), Cnx T EV C n S X → PassesOwn (model X.prog X.w) X.A X.env X.xe ∧ Exq T EV C m S X W → chkSs T ss S xs = true → PSs X xs (RdS X EV W (exSs C m ss))
  | [], S, X, xs, c, hp, h => by
    unfold chkSs at h
    cases xs with
    | nil => exact ss_nil
    | cons a b => cases h
  | st :: r, S, X, xs, c, hp, h => by
    unfold chkSs at h
    cases xs with
    | nil => cases h
    | cons a b =>
      simp only [Bool.and_eq_true] at h
      exact ss_cons (sndS st S X a c hp h.1) (sndSs r S X b c hp h.2)
end
end
end Mn

set_option Elab.async false
set_option linter.all false
set_option maxRecDepth 100000
set_option maxHeartbeats 4000000
/-! ## defs; the law's end -/
namespace Mn
open PySem L2 PyProof.Rows
def scopeC (N P : List Str) (sc : Scope) : Bool :=
  (match sc.kind with | .function => true | _ => false) && !sc.isCoroutine && !sc.isGenerator && decide N.Nodup && decide (N.take P.length = P) && P.all (fun x => match sc.names.lookup x with | some .local => true | some .cell => true | _ => false) && sc.names.all (fun y => match y.2 with | .free => false | _ => true)
theorem fnScope_by {N P : List Str} {sc : Scope} (h : scopeC N P sc = true) : FnScope N P sc := by
  unfold scopeC at h
  simp only [Bool.and_eq_true, Bool.not_eq_true', decide_eq_true_eq, List.all_eq_true] at h
  obtain ⟨⟨⟨⟨⟨⟨h1, h2⟩, h3⟩, h4⟩, h5⟩, h6⟩, h7⟩ := h
  refine ⟨?_, h2, h3, h4, h5, fun x hx => ?_, fun y hy e => ?_⟩
  · split at h1
    · assumption
    · cases h1
  · have q := h6 x hx
    split at q
    · exact .inl (by assumption)
    · exact .inr (by assumption)
    · cases q
  · have q := h7 y hy
    rw [e] at q
    cases q
structure Row where
  fn : Fn
  st : Stmt
def rowOk (T : Tb) (r : Row) : Bool := chkSs T r.fn.body ⟨r.fn.N, defScope r.st, fun _ => true⟩ (defBody r.st) && scopeC r.fn.N (r.fn.N.take r.fn.np) (defScope r.st) && decide (r.fn.np ≤ r.fn.N.length)
section
variable {P : Program} {w : World} {K : PySem.W.Frag} {mg : Str → Option Value} {base : Heap} {T : Tb} {m : Nat} {rows : List Row}
/-- raise and try do what they should in every def's body -/
def ExqAll (P : Program) (w : World) (K : PySem.W.Frag) (mg : Str → Option Value) (T : Tb) (EV : EVT) (m : Nat) : Prop :=
  ∀ (n : Nat) (S : Sta) (X : Cx) (W : WX), X.prog = P → X.w = w → X.K = K → X.mg = mg → X.stack = X.env :: X.outer → X.env.frame = some X.env.locals → Cnx T EV (run T.fns m n) n S X → L2N.Takes X W → PassesOwn (model X.prog X.w) X.A X.env X.xe → Exq T EV (run T.fns m n) m S X W
theorem exq_none (h1 : T.exc = none) (h2 : ∀ S f j st, T.tryS S f j st = none) {EV : EVT} : ExqAll P w K mg T EV m := fun n S X W _ _ _ _ _ _ _ _ _ =>
  ⟨fun id y e p q pos z => (by rw [h1] at z; cases z), fun f es i j st xs id z => (by rw [h2] at z; cases z)⟩
theorem fn_ok {EV : EVT} (hx : ExqAll P w K mg T EV m) (hT : T.fns = rows.map (·.fn)) (hrow : ∀ r ∈ rows, rowOk T r = true)
    (hfn : ∀ (i : Nat) (r : Row), rows[i]? = some r → ∃ f fd, FunD K r.fn.name r.fn.name (defArgs r.st) (defBody r.st) (defScope r.st) [] [] f fd ∧ mg r.fn.name = some (.ref f) ∧ Binds K fd (r.fn.N.take r.fn.np) [])
    (hblt : ∀ x ∈ bltNames, mg x = none) (hcon : ∀ x d, T.con.lookup x = some d → ∃ u v, mg x = some u ∧ RelV v u ∧ ∀ F ρ, Rep P w K F ρ v d) :
    ∀ (n : Nat) (i : Nat) (r : Row), rows[i]? = some r → ∀ f fd, FunD K r.fn.name r.fn.name (defArgs r.st) (defBody r.st) (defScope r.st) [] [] f fd → FnOk P w K mg base (L2N.CX P w) (n + 2) f fd (r.fn.N.take r.fn.np) (spF P w K EV (run T.fns m n) i r.fn.np) := by
  intro n
  induction n with
  | zero =>
    intro i r hr f fd F
    have no : ∀ vs H Q E, ¬ spF P w K EV (run T.fns m 0) i r.fn.np vs H Q E := by
      rintro vs H Q E ⟨U, F, ρ, mu, ds, q, mu', h1, h2, h3, h4, _⟩
      simp only [run] at h4
      cases h4
    exact ⟨fun vs H Q E h => (no _ _ _ _ h).elim, fun A outer s H args us vs Q E _ _ _ _ h => (no _ _ _ _ h).elim⟩
  | succ n ih =>
    intro i r hr f fd F
    have hmem : r ∈ rows := List.mem_of_getElem? hr
    have hok := hrow r hmem
    unfold rowOk at hok
    simp only [Bool.and_eq_true, decide_eq_true_eq] at hok
    obtain ⟨⟨hb, hs⟩, hnp⟩ := hok
    have S := fnScope_by hs
    refine F.ok S (fun vs H Q E h => ?_) (fun cdv A outer s H vs Q E hrm h => ?_)
    · obtain ⟨_, _, _, _, _, _, _, h1, _⟩ := h
      rw [List.length_take, h1]
      omega
    · have hi : T.fns[i]? = some r.fn := by rw [hT, List.getElem?_map, hr]; rfl
      have c : Cnx T EV (run T.fns m n) n ⟨r.fn.N, defScope r.st, fun _ => true⟩ (cxOf (L2N.CX P w) P w K mg base r.fn.N r.fn.name (defScope r.st) f cdv A outer s H E) := by
        refine ⟨rfl, S.nd, rfl, fun _ _ => rfl, rfl, hrm, hblt, hcon, fun j g hj => ?_⟩
        have hj2 : T.fns[j]? = some g := hj
        rw [hT, List.getElem?_map] at hj2
        cases e : rows[j]? with
        | none => rw [e] at hj2; cases hj2
        | some r' =>
          rw [e] at hj2
          cases hj2
          obtain ⟨f', fd', F', g1, g2⟩ := hfn j r' e
          exact ⟨f', fd', g1, F'.kp, g2, ih j r' e f' fd' F'⟩
      have tk : L2N.Takes (cxOf (L2N.CX P w) P w K mg base r.fn.N r.fn.name (defScope r.st) f cdv A outer s H E) (fun cls d _ H => E cls d H) := L2N.takes_of rfl rfl rfl rfl
      have hp : PassesOwn (model P w) (cxOf (L2N.CX P w) P w K mg base r.fn.N r.fn.name (defScope r.st) f cdv A outer s H E).A (cxOf (L2N.CX P w) P w K mg base r.fn.N r.fn.name (defScope r.st) f cdv A outer s H E).env (cxOf (L2N.CX P w) P w K mg base r.fn.N r.fn.name (defScope r.st) f cdv A outer s H E).xe := passes_of rfl
      refine ⟨RdS _ EV (fun cls d _ H => E cls d H) (exSs (run T.fns m n) m r.fn.body), sndSs r.fn.body _ _ _ c ⟨hp, hx n _ _ _ rfl rfl rfl rfl rfl rfl c tk hp⟩ hb, ?_⟩
      obtain ⟨U, F', ρ, mu, ds, q, mu', h1, k, rs, e, hq, hqe⟩ := h
      simp only [run, hi] at e
      split at e
      · rename_i hl
        have k2 := k.enter (n := r.fn.N.length) (N := r.fn.N) rfl rs
        split at e
        · rename_i q' s' he
          cases e
          exact ⟨_, F', ρ, _, .ret q', s', k2, he, fun v σ' F2 ρ2 H2 nx k3 r3 => hq q' rfl v F2 ρ2 H2 [] [] nx (k.leave (σ' := σ') (sl' := s'.sl) nx k3) (k.leaveR (σ' := σ') (sl' := s'.sl) r3)⟩
        · rename_i s' he
          cases e
          exact ⟨_, F', ρ, _, .next, s', k2, he, fun σ' F2 ρ2 H2 nx k3 => hq _ rfl .non F2 ρ2 H2 [] [] nx (k.leave (σ' := σ') (sl' := s'.sl) nx k3) (.val .non)⟩
        · rename_i d s' he
          cases e
          exact ⟨_, F', ρ, _, .exc d, s', k2, he, fun cls dd σ' F2 ρ2 H2 nx k3 ev => hqe d rfl cls dd F2 ρ2 H2 [] [] nx (k.leave (σ' := σ') (sl' := s'.sl) nx k3) ev⟩
        · cases e
      · cases e
end

/-! ### constants of the module -/
mutual
def conV (K : PySem.W.Frag) : D → Value → Bool
  | .non, u => (match u with
    | .none => true
    | _ => false)
  | .bl b, u => (match u with
    | .bool c => b == c
    | _ => false)
  | .int i, u => (match u with
    | .int j _ => decide (i = j)
    | _ => false)
  | .str x, u => (match u with
    | .str y _ => decide (x = y)
    | _ => false)
  | .tup ds, u => (match u with
    | .ref a => (match K.lookup a with
      | some ⟨.type c, _, .seq its _, _⟩ => decide (c = "tuple") && (decide (its.size ≤ sizeLine) && conVs K ds its.toList)
      | _ => false)
    | _ => false)
  | _, _ => false
def conVs (K : PySem.W.Frag) : List D → List Value → Bool
  | [], us => us.isEmpty
  | d :: ds, us => (match us with
    | u :: us => conV K d u && conVs K ds us
    | [] => false)
end
mutual
theorem conV_ok {P : Program} {w : World} {K : PySem.W.Frag} : ∀ (d : D) (u : Value), conV K d u = true → ∃ v, RelV v u ∧ ∀ F ρ, Rep P w K F ρ v d
  | .non, u, h => by cases u <;> simp only [conV] at h <;> first | (cases h; done) | exact ⟨.non, rfl, fun _ _ => .non⟩
  | .bl b, u, h => by
    cases u <;> simp only [conV] at h <;> first | (cases h; done) | skip
    rw [eq_of_beq h]
    exact ⟨.bl _, rfl, fun _ _ => .bl _⟩
  | .int i, u, h => by
    cases u <;> simp only [conV] at h <;> first | (cases h; done) | skip
    rw [of_decide_eq_true h]
    exact ⟨.int _, ⟨_, rfl⟩, fun _ _ => .int _⟩
  | .str i, u, h => by
    cases u <;> simp only [conV] at h <;> first | (cases h; done) | skip
    rw [of_decide_eq_true h]
    exact ⟨.str _, ⟨_, rfl⟩, fun _ _ => .str _⟩
  | .tup ds, u, h => by
    cases u <;> simp only [conV] at h <;> first | (cases h; done) | skip
    rename_i a
    split at h
    · rename_i c od its n sl e
      simp only [Bool.and_eq_true, decide_eq_true_eq] at h
      obtain ⟨rfl, h2, h3⟩ := h
      obtain ⟨vs, g1, g2⟩ := conVs_ok (P := P) (w := w) ds its.toList h3
      exact ⟨.ref a, rfl, fun F ρ => .tup (.inr ⟨_, its, n, e, rfl, rfl, h2, g1⟩) (g2 F ρ)⟩
    · cases h
  | .lst _, u, h => by simp only [conV] at h; cases h
  | .dic _ _, u, h => by simp only [conV] at h; cases h
  | .ptr _, u, h => by simp only [conV] at h; cases h
theorem conVs_ok {P : Program} {w : World} {K : PySem.W.Frag} : ∀ (ds : List D) (us : List Value), conVs K ds us = true → ∃ vs, Vals vs us ∧ ∀ F ρ, Reps P w K F ρ vs ds
  | [], us, h => by
    cases us with
    | nil => exact ⟨[], .nil, fun _ _ => .nil⟩
    | cons a b => simp only [conVs] at h; cases h
  | d :: ds, us, h => by
    cases us with
    | nil => simp only [conVs] at h; cases h
    | cons u us =>
      simp only [conVs, Bool.and_eq_true] at h
      obtain ⟨v, g1, g2⟩ := conV_ok (P := P) (w := w) d u h.1
      obtain ⟨vs, g3, g4⟩ := conVs_ok (P := P) (w := w) ds us h.2
      exact ⟨v :: vs, .cons g1 g3, fun F ρ => .cons (g2 F ρ) (g4 F ρ)⟩
end
def conB (K : PySem.W.Frag) (q : Str × D) : Bool := match PySem.W.nsIn K mainGlobals q.1 with
  | some (some u) => conV K q.2 u
  | _ => false

/-! ### what the head tells -/
def obsM (n : Nat) (fa : List He.Fa) (fn : List He.DefD) (cs : List (Str × D)) (ex : PySem.W.Frag → Bool) (g : Addr → Option Obj) : He.AlD :=
  ((fa.all fun f => f.ok (He.frG g (He.asD g n))) && (fn.all fun d => d.ok (He.frG g (He.asD g n))) && cs.all (conB (He.frG g (He.asD g n))) && ex (He.frG g (He.asD g n)), fn.map fun d => He.fnW (He.frG g (He.asD g n)) d.at_)
def hookM (n : Nat) (fa : List He.Fa) (fn : List He.DefD) (cs : List (Str × D)) (ex : PySem.W.Frag → Bool) : PySem.W.Hook where
  α := He.AlD
  obs := fun s => obsM n fa fn cs ex s.heap.get?
  val := fun _ => He.valD fn
  says := fun _ h => ∃ K : PySem.W.Frag, K.In h ∧ He.SaysD fa fn K ∧ cs.all (conB K) = true ∧ ex K = true
  of := fun _ _ e => by
    have e1 := congrArg (fun z : He.AlD => z.1) e
    have e2 := congrArg (fun z : He.AlD => z.2) e
    simp only [obsM, He.valD, Bool.and_eq_true] at e1 e2
    refine ⟨_, He.frG_in, ?_, e1.1.2, e1.2⟩
    unfold He.SaysD He.obsD
    rw [e2, e1.1.1.1, e1.1.1.2]
    rfl
  keeps := fun _ _ _ ⟨K, hK, c⟩ k => ⟨K, PySem.W.Frag.In.keeps hK k, c⟩
theorem obsM_eq {n : Nat} {fa : List He.Fa} {fn : List He.DefD} {cs : List (Str × D)} {ex : PySem.W.Frag → Bool} {g : Addr → Option Obj} {s : Shared} (h : ∀ a, g a = s.heap.get? a) : obsM n fa fn cs ex g = (hookM n fa fn cs ex).obs s := by
  have e : g = s.heap.get? := funext h
  rw [e] <;> rfl
def rowD (r : Row) : He.DefD := ⟨(r.fn.name, none), r.fn.name, r.fn.name, defArgs r.st, defBody r.st, defScope r.st, [], []⟩
def faOf (rows : List Row) : List He.Fa := rows.map (fun r => .glo r.fn.name) ++ bltNames.map .free
theorem fact_mem {fa : List He.Fa} {fn : List He.DefD} {K : PySem.W.Frag} (c : He.SaysD fa fn K) {f : He.Fa} (h : f ∈ fa) : f.ok K = true := by
  obtain ⟨i, hi⟩ := List.mem_iff_getElem?.mp h
  exact c.fact i hi
/-- the facts of a table -/
theorem facts {EV : EVT} {P : Program} {w : World} {K : PySem.W.Frag} {h base : Heap} {mg : Str → Option Value} {T : Tb} {rows : List Row} (hx : ∀ m, ExqAll P w K mg T EV m) (X : K.In h) (G : h.Ns mainGlobals mg) (c : He.SaysD (faOf rows) (rows.map rowD) K) (cc : T.con.all (conB K) = true)
    (hT : T.fns = rows.map (·.fn)) (hrow : ∀ r ∈ rows, rowOk T r = true)
    (hb : ∀ r ∈ rows, ∀ (kV doc pm : Value) (an : Option Addr) (cdv ct : Value) (us : List Value), us.length = (r.fn.N.take r.fn.np).length → bindArgs (PySem.W.fnOf r.fn.name r.fn.name (defArgs r.st) (defBody r.st) (defScope r.st) .none kV doc pm an cdv ct) ⟨us, []⟩ = pure ((r.fn.N.take r.fn.np).zip us))
    {i : Nat} {r : Row} (hr : rows[i]? = some r) {fa : Addr} (hfa : mg r.fn.name = some (.ref fa)) :
    ∃ fd : FuncData, (∀ (s : Shared) (us : List Value), us.length = (r.fn.N.take r.fn.np).length → BindsTo s fd ⟨us, []⟩ ((r.fn.N.take r.fn.np).zip us)) ∧ ∀ m n, FnOk P w K mg base (L2N.CX P w) (n + 2) fa fd (r.fn.N.take r.fn.np) (spF P w K EV (run T.fns m n) i r.fn.np) := by
  have hfn : ∀ (i : Nat) (r : Row), rows[i]? = some r → ∃ f fd, FunD K r.fn.name r.fn.name (defArgs r.st) (defBody r.st) (defScope r.st) [] [] f fd ∧ mg r.fn.name = some (.ref f) ∧ Binds K fd (r.fn.N.take r.fn.np) [] := by
    intro i r hr
    obtain ⟨fd, F⟩ := c.def_ i (d := rowD r) (by rw [List.getElem?_map, hr]; rfl)
    have hm : r ∈ rows := List.mem_of_getElem? hr
    refine ⟨_, fd, F, ?_, F.bindsN fun kV doc pm an cdv ct us hl => hb r hm kV doc pm an cdv ct us hl⟩
    exact He.glo_ok X G (fact_mem c (List.mem_append_left _ (List.mem_map.mpr ⟨r, hm, rfl⟩)))
  obtain ⟨f, fd, F, g1, g2⟩ := hfn i r hr
  rw [hfa] at g1; cases g1
  refine ⟨fd, fun s us hl => F.bindsA (fun kV doc pm an cdv ct us hl => hb r (List.mem_of_getElem? hr) kV doc pm an cdv ct us hl) s us hl, fun m n => ?_⟩
  refine fn_ok (hx m) hT hrow hfn (fun x hx => He.free_ok X G (fact_mem c (List.mem_append_right _ (List.mem_map.mpr ⟨x, hx, rfl⟩)))) (fun x d hd => ?_) n i r hr _ fd F
  have hm := List.all_eq_true.mp cc _ (PySem.mem_of_lookup hd)
  unfold conB at hm
  split at hm
  · rename_i u hu
    obtain ⟨v, q1, q2⟩ := conV_ok (P := P) (w := w) d u hm
    exact ⟨u, v, PySem.W.mg_of X G hu, q1, q2⟩
  · cases hm
/-- the law's promise from the pure law -/
def spL (P : Program) (w : World) (K : PySem.W.Frag) (EV : EVT) (fns : List Fn) (n i : Nat) : Sp := fun vs H Q E => ∃ m, spF P w K EV (run fns m n) i 1 vs H Q E
theorem spL_ok {P : Program} {w : World} {K : PySem.W.Frag} {EV : EVT} {mg : Str → Option Value} {base : Heap} {fns : List Fn} {n i : Nat} {f : Addr} {fd : FuncData} {ps : List Str} (h : ∀ m n, FnOk P w K mg base (L2N.CX P w) (n + 2) f fd ps (spF P w K EV (run fns m n) i 1)) : FnOk P w K mg base (L2N.CX P w) (n + 2) f fd ps (spL P w K EV fns n i) :=
  ⟨fun vs H Q E ⟨m, q⟩ => (h m n).len vs H Q E q, fun A outer s H args us vs Q E hr e0 hb r ⟨m, q⟩ => (h m n).run A outer s H args us vs Q E hr e0 hb r q⟩
theorem spL_of {P : Program} {w : World} {K : PySem.W.Frag} {EV : EVT} {fns : List Fn} {n i : Nat} {ns : List Int} {H : Hp} {a : Addr} {E : XK} (ho : Only H) (hS : SqL K H a (ns.map V.int)) (law : ∃ m o mu, run fns m n i [.lst (ns.map .int)] [] = some (.ok (o, .bl true), mu)) :
    spL P w K EV fns n i [.ref a] H (fun v _ => v = .bl true) E := by
  obtain ⟨m, o, mu, e⟩ := law
  refine ⟨m, fun _ => none, H, [], [], [.lst (ns.map .int)], .ok (o, .bl true), mu, rfl, ⟨fun a u e => .inl e, fun _ _ e => (by cases e), fun _ _ e => (by cases e), rfl, fun i o d e => (by simp at e), fun i j d e a h => (by simp at h), rfl, fun j c e => (by simp at e), .nil⟩, .cons (.lst hS .ints) .nil, e, fun q hq v F' ρ' H' sl' σ' nx k rs => ?_, fun d hd => by cases hd⟩
  cases hq
  cases o with
  | false => cases rs.1 rfl; rfl
  | true => obtain ⟨_, _, n, _⟩ := rs.2 rfl; exact n.elim
end Mn

set_option Elab.async false
set_option linter.all false
set_option maxRecDepth 100000
set_option maxHeartbeats 4000000
/-! ## an exception of an own class: made, raised, caught; a def called in the except suite -/
namespace Mn
open PySem L2 PyProof.Rows

/-! ### raised where nothing is handled -/
theorem pmkN {X : Cx} {x : Str} {e : Expr} {es : List Expr} {ta : TA} {p pos : Pos} {Ca fI : Addr} {k : Nat} {fd : FuncData} {ps : List Str} {sp : Sp} (T : OexC X.K Ca) (iC : PySem.W.findIn X.K (.ref Ca) "__init__" = some (some (.ref fI))) (tI : PySem.W.typeIn X.K (.ref fI) = some (.type "function"))
    (Fi : FnOk X.prog X.w X.K X.mg X.base (L2N.CX X.prog X.w) k fI fd ps sp) (hr : Room (k + 1) X.A) (hb : Binds X.K fd ps []) (hg : Gl X x) (hm : X.mg x = some (.ref Ca)) (ha : PA X (e :: es) ta)
    (hdb : (x == ("__debug__" : Str)) = false) (hst : starEach (e :: es) X.env = (false, eval e X.env) :: starEach es X.env) (hpl : (backTo pos (starEach es X.env)).any (·.1) = false) :
    L2N.PMk X (.Call (.Name x p) (e :: es) [] pos) (tMkO Ca sp [] ta) := by
  intro pins s σ H Q I h
  obtain ⟨nm, qn, N0, bs, bm, sn, sub, ab, col, dd, k0, k1, k2, k3, k5, hC, hbm⟩ := T.cls
  refine wpAny_Call_Name_kw (ld_glob I hg hm ?_ hdb)
  refine PySem.W.callWith_K (h₀ := X.base) I.ok.mod.kin T.kC (thn (ha.run pos pins s σ H _ I h) fun us s1 ⟨vs, H1, I1, r1, hz, q1⟩ => ⟨I1.kIn, ?_⟩) hst hpl
  show wpAny _ _ (call (.ref Ca) us) _ _ _
  obtain ⟨h1, g1, d1, t1, o1⟩ := s1
  have hz1 : h1.objs.size ≤ h1.objs.size + 1 := Nat.le_succ _
  have hq := q1 (h1.objs.size + 1) (I1.hok.fresh hz1)
  rw [List.append_nil] at hq
  have keepP : ∀ b o, h1.get? b = some o → ((h1.push (PySem.W.kdv_tup us)).push (PySem.HandSPX.excO Ca h1.objs.size)).get? b = some o := fun b o e => Heap.get?_push_of_some _ (Heap.get?_push_of_some _ e)
  have got : ((h1.push (PySem.W.kdv_tup us)).push (PySem.HandSPX.excO Ca h1.objs.size)).get? (h1.objs.size + 1) = some (PySem.HandSPX.excO Ca h1.objs.size) := by heap_get
  have I2 : Inv X pins σ (upd H1 (h1.objs.size + 1) (exo (h1.objs.size + 1) Ca none)) ⟨(h1.push (PySem.W.kdv_tup us)).push (PySem.HandSPX.excO Ca h1.objs.size), g1, d1, t1, o1⟩ :=
    I1.laid (t' := t1) (a := h1.objs.size + 1) (o := exo (h1.objs.size + 1) Ca none) (h' := (h1.push (PySem.W.kdv_tup us)).push (PySem.HandSPX.excO Ca h1.objs.size)) keepP hz1 (exo_ok got)
  have rr : Vals (V.ref (h1.objs.size + 1) :: vs) (Value.ref (h1.objs.size + 1) :: us) := .cons rfl r1
  have hlen : (Value.ref (h1.objs.size + 1) :: us ++ []).length = ps.length := by
    have z := rr.length
    rw [Fi.len _ _ _ _ hq] at z
    rw [List.append_nil]
    exact z.symm
  have few : us.length ≤ sizeLine := by
    rw [← Paired.length r1, sizeLine_eq]
    omega
  have bb := hb _ (Value.ref (h1.objs.size + 1) :: us) I2.kIn hlen
  rw [List.append_nil] at bb
  refine wpAny_call (PySem.HandSPX.call_own F.excBase_ValueError (fun Y => PySem.HandSPX.refsVE_contains Y bm hbm) (I1.kIn _ _ hC) (PySem.W.looks_findIn I1.kIn iC) (fun self => PySem.W.bind_fn I1.kIn self tI) few
    (codeAny_mono (Fi.run _ X.stack _ _ ⟨Value.ref (h1.objs.size + 1) :: us, []⟩ (Value.ref (h1.objs.size + 1) :: us) _ _ never (hr.make Ca us []) (I2.env0.make Ca us []) bb rr hq) fun r s' hq' => ?_))
  cases r with
  | error er => exact pass_never pins σ _ _ er s' I2 hq'
  | ok fl =>
    cases fl with
    | ret u =>
      obtain ⟨v, H2, os2, bare2, un2, hok2, rv, ev, d, fs, ea, ed, hd1, q2⟩ := hq'
      subst ev
      obtain ⟨h2, g2, d2, t2, os'⟩ := s'
      obtain ⟨t0, G, J, kG, ge, hoe, na⟩ := mk_end0 (d2 := d2) (t2 := t2) I1 hz1 keepP un2 hok2 os2 bare2 ea ed hd1
      exact ⟨rv, h1.objs.size + 1, _, _, ⟨G, g2, d2, t2, os'⟩, _, .ref Ca, some d, rfl, J, kG, ge, hoe, ⟨rfl, rfl, fun vs hv => by cases hv; rfl⟩, rfl, rfl, na, rfl, bare2, raises_own T.exC T.tyC, q2⟩
    | next => exact False.elim hq'
    | brk => exact False.elim hq'
    | cont => exact False.elim hq'

/-- what a module says of its exception class: its __init__ stores one field -/
structure ExF (P : Program) (w : World) (K : PySem.W.Frag) (mg : Str → Option Value) (nm fld : Str) (Ca fI : Addr) (fdI : FuncData) : Prop where
  hm : mg nm = some (.ref Ca)
  oex : OexC K Ca
  iC : PySem.W.findIn K (.ref Ca) "__init__" = some (some (.ref fI))
  tI : PySem.W.typeIn K (.ref fI) = some (.type "function")
  hno : PySem.W.findIn K (.ref Ca) fld = some none
  bI : Binds K fdI ["self", fld] []
  fn : ∀ base, FnOk P w K mg base (L2N.CX P w) 1 fI fdI ["self", fld] (fun vs H Q _ => ∃ a v, vs = [.ref a, v] ∧ H a = some (exo a Ca none) ∧ ∀ dx, H dx = none → dx ≠ a → Q .non (upd (upd H dx (exd dx [(fld, v)])) a (exo a Ca (some dx))))
/-- its __init__ by its body: self.f = f -/
theorem init_ok {P : Program} {w : World} {K : PySem.W.Frag} {mg : Str → Option Value} {base : Heap} {fld : Str} {Ca fI : Addr} {fdI : FuncData} {x qual : Str} {params : Arguments} {body : List Stmt} {scope : Scope} (oex : OexC K Ca) (hno : PySem.W.findIn K (.ref Ca) fld = some none)
    (F : FunD K x qual params body scope [] [] fI fdI) {p1 p2 p3 p4 : Pos} (hb : body = [.Assign [.Attribute (.Name "self" p1) fld p2] (.Name fld p3) p4]) (hs : scopeC ["self", fld] ["self", fld] scope = true) (hok : okN fld = true) (hloc : visB scope fld = true) (hself : visB scope "self" = true) :
    FnOk P w K mg base (L2N.CX P w) 1 fI fdI ["self", fld] (fun vs H Q _ => ∃ a v, vs = [.ref a, v] ∧ H a = some (exo a Ca none) ∧ ∀ dx, H dx = none → dx ≠ a → Q .non (upd (upd H dx (exd dx [(fld, v)])) a (exo a Ca (some dx)))) := by
  have S := fnScope_by hs
  subst hb
  refine F.ok S (fun vs H Q E h => ?_) (fun cdv A outer s H vs Q E hr h => ?_)
  · obtain ⟨a, v, rfl, _⟩ := h
    rfl
  · obtain ⟨a, v, rfl, ha, hq⟩ := h
    refine ⟨_, PSs.nox (pss_one (ps_ost (pe_var (i := 0) rfl (vis_of hself) (by decide) (by decide)) (pe_var (i := 1) rfl (vis_of hloc) (okN_of hok).1 (okN_of hok).2) rfl)), ?_⟩
    exact ⟨v, rfl, .ref a, rfl, a, Ca, rfl, oex, hno, .inl ⟨ha, fun dx h1 h2 => hq dx h1 h2⟩⟩
/-- the exception's class, its dict, the text it bears -/
def evX (fld : Str) (Ca : Addr) : EVT := fun cls dd H d => cls = .ref Ca ∧ ∃ dx x, dd = some dx ∧ d = .str x ∧ H dx = some (.xd [(fld, .str x)])
section
variable {X : Cx} {C : Calls} {T : Tb} {n m : Nat} {S : Sta} {W : WX}
theorem s_raise {nm fld : Str} {Ca fI : Addr} {fdI : FuncData} (e : ExF X.prog X.w X.K X.mg nm fld Ca fI fdI) (c : Cnx T (evX fld Ca) C n S X) (tk : L2N.Takes X W) {id : Str} {y : Expr} {ex : E} {p q pos : Pos} (hid : id = nm) (hg : glB S.sc id = true) (hok : okN id = true) (hs : shp y = true) (hE : PE X y (RdE X C ex)) :
    PS X (.Raise (some (.Call (.Name id p) [y] [] q)) none pos) (RdS X (evX fld Ca) W (exS C m (.raise ex))) := by
  subst hid
  have hr : Room (1 + 1) X.A := c.room.mono (by omega)
  refine PS.imp (L2N.ps_raise c.calm tk (pmkN e.oex e.iC e.tI (e.fn X.base) hr e.bI (gl_of c hg) e.hm (c_cons hs hE c_nil) (okN_of hok).1 (shp_star hs) (back_plain fun z hz => by cases hz))) fun D σ H => ?_
  rintro ⟨U, F, ρ, s, fl, s', k, e1, h⟩
  simp only [exS] at e1
  split at e1
  · rename_i o x s1 h1
    cases e1
    refine ⟨U, F, ρ, s, [.str x], s', k, by simp only [evs, h1], fun vs F1 ρ1 H1 n1 k1 r1 => ?_⟩
    cases r1 with
    | cons a1 a2 =>
      cases a2
      cases a1
      refine ⟨by simp, fun a ha => ⟨a, .str x, rfl, upd_same, fun dx hdx hne => ⟨rfl, dx, [(fld, .str x)], upd_same, ?_, ?_, ?_⟩⟩⟩
      · rw [upd_ne hne, upd_same]
      · rw [upd_ne hne] at hdx; exact hdx
      · have hdx1 : H1 dx = none := by rw [upd_ne hne] at hdx; exact hdx
        have eH : upd (del (upd (upd (upd H1 a (exo a Ca none)) dx (exd dx [(fld, .str x)])) a (exo a Ca (some dx))) a) dx (.xd [(fld, .str x)]) = upd H1 dx (.xd [(fld, .str x)]) := by
          funext b
          by_cases hb : b = dx
          · subst hb; rw [upd_same, upd_same]
          · rw [upd_ne hb, upd_ne hb]
            by_cases hba : b = a
            · subst hba; rw [del_same, ha]
            · rw [del_ne hba, upd_ne hba, upd_ne hb, upd_ne hba]
        rw [eH]
        exact h (.ref Ca) (some dx) σ F1 ρ1 _ (n1.trans (.newO hdx1)) (k1.newO hdx1) ⟨rfl, dx, x, rfl, rfl, upd_same⟩
  · cases e1
end
end Mn

set_option Elab.async false
set_option linter.all false
set_option maxRecDepth 100000
set_option maxHeartbeats 4000000
/-! ## a def that is called with the caught exception; try -/
namespace Mn
open PySem L2 PyProof.Rows
/-- a def called while p's exception is handled: what it promises may speak of p -/
structure FnHp (P : Program) (w : World) (K : PySem.W.Frag) (mg : Str → Option Value) (base : Heap) (k : Nat) (f : Addr) (fd : FuncData) (ps : List Str) (sp : Addr × Obj → Sp) : Prop where
  len : ∀ p vs H Q E, sp p vs H Q E → vs.length = ps.length
  go : ∀ (A : Around) (outer : List Env) (s : Shared) (H : Hp) (args : Args) (us : List Value) (vs : List V) (Q : VK) (E : XK) (p : Addr × Obj), L2H.RoomH k A → L2H.Hot1 A p → L2H.PinOk outer H s p → Env0 P w K mg base A outer s H → BindsTo s fd args (ps.zip us) → Vals vs us → sp p vs H Q E →
    codeAny (model P w) A (.call (.ref f) args) (CR (L2N.CX P w) outer P w H s Q E) s
theorem fnHp_of {P : Program} {w : World} {K : PySem.W.Frag} {mg : Str → Option Value} {base : Heap} {k : Nat} {f : Addr} {fd : FuncData} {x qual : Str} {params : Arguments} {body : List Stmt} {scope : Scope} {N ps : List Str} {sp : Addr × Obj → Sp} (F : FunD K x qual params body scope [] [] f fd) (S : FnScope N ps scope)
    (len : ∀ p vs H Q E, sp p vs H Q E → vs.length = ps.length)
    (hbody : ∀ (cdv : Value) (A : Around) (outer : List Env) (s : Shared) (H : Hp) (vs : List V) (Q : VK) (E : XK) (p : Addr × Obj), L2H.Hot1 A p → L2H.RoomH k (A.deeper (envOfC qual scope s.heap.objs.size f cdv)) → sp p vs H Q E →
      ∃ t, PSs (L2H.cxH (L2N.CX P w) P w K mg base N qual scope f cdv A outer s H E p) body t ∧ t { nx := fun _ H' => Q .non H', rt := Q } (start N vs) H) :
    FnHp P w K mg base (k + 1) f fd ps sp := by
  refine ⟨len, fun A outer s H args us vs Q E p hr hot hpin e0 hb r hsp => ?_⟩
  obtain ⟨oc, od, dV, kV, doc, pm, an, cdv, ct, osl, rfl, lk, hcd, _, _⟩ := F.ex
  have hl := len _ _ _ _ _ hsp
  have inK : K.In s.heap := e0.mod.kin.keeps fun b o e => (e0.bs b o e).1
  have lim : s.heap.NoLimit := e0.mod.nolimit.keeps fun b o e => (e0.bs b o e).1
  refine codeAny_call_function hr.depth (inK _ _ lk) rfl S.co S.gen rfl (PySem.W.codeRec_of inK hcd) (hb _ _ _ _ ?_)
  refine wpAny_newFunctionEnv_cells S.kind (fun ⟨y, v⟩ hy => ?_) fun env he s1 q1 => ?_
  · rcases S.par y (List.of_mem_zip hy).1 with q | q
    · exact .inl q
    · exact .inr ⟨q, PySem.W.cellsFrom_some _ _ _ (.inl q)⟩
  · subst he
    refine ⟨lim.keeps q1.toInCall.keep, codeAny_func ?_⟩
    obtain ⟨t, ht, hq⟩ := hbody cdv A outer s H vs Q E p hot (hr.deeper _) hsp
    have I := L2H.inv_startH (CX := L2N.CX P w) (E := E) S hpin e0 hl r q1
    refine wpAny_mono (ht.run [] s1 (start N vs) H _ I hq) (fun fl s' hs => ?_) fun e s' hs => hs
    cases fl with
    | ret u =>
      obtain ⟨v, σ', H', J, rv, q⟩ := hs
      exact ⟨v, H', J.os, J.bare, J.base, J.hok, rv, q⟩
    | next =>
      obtain ⟨σ', H', J, q⟩ := hs
      exact ⟨.non, H', J.os, J.bare, J.base, J.hok, rfl, q⟩
    | brk => obtain ⟨_, _, _, q⟩ := hs; exact q.elim
    | cont => obtain ⟨_, _, _, q⟩ := hs; exact q.elim
/-- such a call -/
theorem pe_callHp {X : Cx} {k : Nat} {f : Addr} {fd : FuncData} {ps : List Str} {sp : Addr × Obj → Sp} {x : Str} {q pos : Pos} {e : Expr} {es : List Expr} {t : TA} {p : Addr × Obj} (Fh : FnHp X.prog X.w X.K X.mg X.base k f fd ps sp) (hr : L2H.RoomH k X.A) (hot : L2H.Hot1 X.A p) (hp : p ∈ X.pn)
    (hg : Gl X x) (hm : X.mg x = some (.ref f)) (hk : PySem.W.keepIn X.K (.ref f) = true) (hb : Binds X.K fd ps []) (ha : PA X (e :: es) t) (hdb : (x == ("__debug__" : Str)) = false) (hst : starEach (e :: es) X.env = (false, eval e X.env) :: starEach es X.env)
    (hpl : (backTo pos (starEach es X.env)).any (·.1) = false) : PE X (.Call (.Name x q) (e :: es) [] pos) (fun σ H Q => t σ H fun vs H1 => sp p vs H1 Q never) := by
  refine ⟨fun pins s σ H Q I h => ?_⟩
  refine wpAny_Call_Name_kw (ld_glob I hg hm ?_ hdb)
  refine PySem.W.callWith_K (h₀ := X.base) I.ok.mod.kin hk (thn (ha.run pos pins s σ H _ I h) fun us s1 ⟨vs, H1, I1, r, hq⟩ => ⟨I1.kIn, ?_⟩) hst hpl
  have hl : us.length = ps.length := by rw [← r.length]; exact Fh.len _ _ _ _ _ hq
  have b := hb s1 us I1.kIn (by rw [List.append_nil]; exact hl)
  rw [List.append_nil] at b
  have at_ := I1.pin p (List.mem_append_left _ hp)
  have hpin : L2H.PinOk X.stack H1 s1 p := ⟨at_.1, at_.2.1, fun z => (List.mem_cons.mp (I1.stkSub p.1 z)).elim at_.2.2.1 at_.2.2.2.1, at_.2.2.2.2⟩
  refine wpAny_call (codeAny_mono (Fh.go X.A X.stack s1 H1 ⟨us, []⟩ us vs Q never p hr hot hpin I1.env0 b r hq) fun r s' hq' => ?_)
  cases r with
  | error er => exact pass_never pins σ H1 s1 er s' I1 hq'
  | ok fl =>
    cases fl with
    | ret u => exact I1.after hq'
    | next => exact hq'.elim
    | brk => exact hq'.elim
    | cont => exact hq'.elim

/-! ### what is asked of the exception at p -/
/-- an exception at p: its class, its dict -/
structure XAt (Ca dd : Addr) (p : Addr × Obj) : Prop where
  z : Zc (.ref Ca) (some dd) p.2
  f : ∃ vs, p.2.data = .fields vs
theorem XAt.inst {X : Cx} {pins : List (Addr × Obj)} {σ : L2.St} {H : Hp} {s : Shared} {Ca dd : Addr} {p : Addr × Obj} {fs : List (Str × V)} (x : XAt Ca dd p) (I : Inv X pins σ H s) (hp : p ∈ X.pn) (hd : H dd = some (.xd fs)) :
    ∃ (od : Obj) (mA : Str → Option Value), PySem.W.InstAt s.heap p.1 p.2 Ca (some od) ∧ (∀ f, PySem.W.lookIn f od = some (mA f)) ∧ ∀ f, RelO (fs.lookup f) (mA f) := by
  obtain ⟨ha, _⟩ := I.pin p (List.mem_append_left _ hp)
  obtain ⟨vs, hv⟩ := x.f
  obtain ⟨mA, hns, hr⟩ := (show ObjOk X.prog X.w H s.heap dd (.xd fs) from I.hok dd _ hd)
  obtain ⟨od, ho, hl⟩ := lookIn_ns hns
  exact ⟨od, mA, ⟨ha, x.z.1, by unfold PySem.W.notCls; rw [hv] <;> rfl, by rw [x.z.2]; exact ho⟩, hl, hr⟩
/-- isinstance(e, c) -/
def rIsP (K : PySem.W.Frag) (Ca dd : Addr) (a : Addr) : List V → Hp → VK → Prop := fun xs H Q => ∃ (c : V) (cv : Value) (b : Bool) (fs : List (Str × V)), xs = [.ref a, c] ∧ (∀ u, RelV c u → u = cv) ∧ PySem.W.kitOne K (.ref Ca) cv = some b ∧ H dd = some (.xd fs) ∧ Q (.bl b) H
theorem call_isP {X : Cx} {Ca dd : Addr} {p : Addr × Obj} (E : L2.ExcC X.K Ca) (x : XAt Ca dd p) (hp : p ∈ X.pn) : CallR X (.builtin "isinstance") (rIsP X.K Ca dd p.1) := by
  intro pins s σ H xs us Q I r h
  obtain ⟨c, cv, b, fs, rfl, hcv, e, hd, q⟩ := h
  obtain ⟨u1, u2, rfl, r1, r2⟩ := vals2 r
  cases r1
  have ec := hcv _ r2
  subst ec
  obtain ⟨od, mA, J, _, _⟩ := x.inst I hp hd
  have hcl : (PySem.W.clsIn X.K Ca).isSome = true := by
    obtain ⟨cd, hc, _⟩ := PySem.W.any_some E.hd
    rw [hc]; rfl
  exact PySem.W.kia_one (PySem.W.kitx_exc (od := some od) hcl E.hg E.hk E.hs E.ha E.hn E.ht E.hm) I.kIn J e (fun z => nomatch z) fun tk => ⟨.bl b, H, I.kept (t' := tk) fun _ _ z => z, rfl, q⟩
/-- e.f -/
theorem pe_xfP {X : Cx} {Ca dd : Addr} {p : Addr × Obj} {e : Expr} {te : TE} {pos : Pos} {n : Str} (T : XfC X.K Ca) (hno : PySem.W.findIn X.K (.ref Ca) n = some none) (x : XAt Ca dd p) (hp : p ∈ X.pn) (he : PE X e te) (hb : attributeBase e n X.env (eval e X.env) = eval e X.env) :
    PE X (.Attribute e n pos) (fun σ H Q => te σ H fun v H1 => v = .ref p.1 ∧ ∃ fs y, H1 dd = some (.xd fs) ∧ fs.lookup n = some y ∧ Q y H1) := by
  refine ⟨fun pins s σ H Q I h => ?_⟩
  refine attr_of hb (thn (he.run pins s σ H _ I h) fun u s1 ⟨v, H1, I1, rv, ev, fs, y, hd, l, q⟩ => ?_)
  subst ev
  cases rv
  obtain ⟨od, mA, J, hl, hr⟩ := x.inst I1 hp hd
  obtain ⟨u, hu, ru⟩ := RelO.some_of (v := y) (o := mA n) (by rw [← l]; exact hr n)
  exact HandSPX.exc_get I1.kIn J T.ga T.gg T.exC (PySem.W.findObj_own T.hdC hno rfl (by rw [hl, hu])) (handed_of ru) ⟨y, H1, I1.tok _, ru, q⟩

/-! ### try: f(..), except G as e: y = long(e) -/
/-- it answers the exception's field -/
def spLong (Ca : Addr) (fld : Str) : Addr × Obj → Sp := fun p vs H Q _ => ∃ dd x, XAt Ca dd p ∧ vs = [.ref p.1] ∧ H dd = some (.xd [(fld, .str x)]) ∧ Q (.str x) H
def tSuite (Ca : Addr) (fld : Str) (i j : Nat) : Addr → Value → Option Addr → TS := fun a cls d D σ H => ∃ dd x, cls = .ref Ca ∧ d = some dd ∧ σ[j]? = some (some (.ref a)) ∧ H dd = some (.xd [(fld, .str x)]) ∧ D.nx (σ.set i (some (.str x))) H
theorem s_try {X : Cx} {C : Calls} {T : Tb} {n m : Nat} {S : Sta} {W : WX} {Ca Gc fL : Addr} {fld fid gid en y lid pL : Str} {fdL : FuncData} (c : Cnx T (evX fld Ca) C n S X) (tk : L2N.Takes X W) (hstk : X.stack = X.env :: X.outer) (hfr : X.env.frame = some X.env.locals)
    {f : Nat} {g : Fn} {es : Es} {i j : Nat} {xs : List Expr} {p1 np py p3 p4 q1 q2 q3 q4 pos' pos : Pos} (hg1 : glB S.sc fid = true) (hok1 : okN fid = true) (hf : T.fns[f]? = some g) (hfn : g.name = fid) (hl : lenEs es = g.np) (hs : ∀ z ∈ xs, shp z = true) (hne : xs ≠ [])
    (ha : ∀ pn xe, PA (X.tr pn xe) xs (RdA X C es)) (hy : stB S i y = true) (hen : S.N[j]? = some en) (henl : S.sc.names.lookup en = some .local) (hoken : okN en = true)
    (hgg : glB S.sc gid = true) (hokg : okN gid = true) (hmG : X.mg gid = some (.ref Gc)) (hexm : PySem.W.exmOne X.K (.ref Ca) (.ref Gc) = some true)
    (hgl : glB S.sc lid = true) (hokl : okN lid = true) (hmL : X.mg lid = some (.ref fL)) (hkL : PySem.W.keepIn X.K (.ref fL) = true) (hbL : Binds X.K fdL [pL] []) (FL : FnHp X.prog X.w X.K X.mg X.base 1 fL fdL [pL] (spLong Ca fld)) :
    PS X (.Try [.Expr (.Call (.Name fid p1) xs [] q1) q2] [.ExceptHandler (some (.Name gid np)) (some en) [.Assign [.Name y py] (.Call (.Name lid p3) [.Name en p4] [] q3) q4] pos'] [] [] pos) (RdS X (evX fld Ca) W (exS C m (.tryc f es i j))) := by
  obtain ⟨af, fdf, hmf, hkf, hbf, Ff⟩ := c.fns f g hf
  subst hfn
  obtain ⟨gy1, gy2, gy3⟩ := stB_of c hy
  have hj : X.N[j]? = some en := by rw [c.hN]; exact hen
  have hln : X.env.kindOf en = some .local := by
    show X.env.scope.names.lookup en = _
    rw [c.sc]; exact henl
  obtain ⟨x0, xr, hx⟩ : ∃ x0 xr, xs = x0 :: xr := by
    cases xs with
    | nil => exact absurd rfl hne
    | cons a b => exact ⟨a, b, rfl⟩
  subst hx
  have names : Names X gid (.ref Gc) := ⟨gl_of c hgg, (okN_of hokg).1, .inl hmG⟩
  refine PS.imp (L2N.ps_try_as hstk hfr c.nd hj hln names tk (tb := fun W' => tDrop (tCallS (spF X.prog X.w X.K (evX fld Ca) C f g.np) (WE W') (RdA X C es))) (ts := tSuite Ca fld i j)
    (fun W' pn xe tk' _ => pss_one (ps_expr (pe_callS (X := X.tr pn xe) Ff c.room (gl_of (c.tr pn xe) hg1) hmf hkf hbf (fun σ => L2N.passAt tk' σ) (ha pn xe) (okN_of hok1).1 (shp_star (hs x0 (by simp))) (back_plain fun z hz => hs z (by simp [hz]))) rfl))
    (fun a oe cls d pn hz hfl => ?_)) fun D σ H h => ?_
  · -- the suite
    have pv : PE (X.suite a ((a, oe) :: pn)) (.Name en p4) (tVar j) := pe_var hj (.inl hln) (okN_of hoken).1 (okN_of hoken).2
    have hot : L2H.Hot1 (X.suite a ((a, oe) :: pn)).A (a, oe) := by
      obtain ⟨vs, hv⟩ := hfl
      exact ⟨rfl, vs, hv, hz.2.2 vs hv⟩
    have call := pe_callHp (X := X.suite a ((a, oe) :: pn)) (pos := q3) (q := p3) (p := (a, oe)) FL (L2H.RoomH.mono (k := n + 2) (j := 1) ⟨c.room.dp, c.room.un⟩ (Nat.le_add_left 1 (n + 1))) hot (List.mem_cons_self) (gl_of c hgl) hmL hkL hbL (pa_cons pv pa_nil (shp_star rfl)) (okN_of hokl).1 (shp_star rfl) rfl
    refine PSs.imp (pss_one (ps_set (pos := q4) (pos' := py) c.nd gy1 gy2 call rfl gy3)) fun D σ H => ?_
    rintro ⟨dd, x, rfl, rfl, hσ, hH, hD⟩
    exact ⟨.ref a, hσ, dd, x, ⟨⟨hz.1, hz.2.1⟩, hfl⟩, rfl, hH, hD⟩
  · obtain ⟨U, F, ρ, s, fl, s', k, e1, h⟩ := h
    simp only [exS] at e1
    split at e1
    · rename_i ds s1 h1
      refine ⟨U, F, ρ, s, ds, s1, k, h1, fun vs F1 ρ1 H1 n1 k1 r1 => ?_⟩
      have ent := k1.enter (n := 0) (N := []) rfl Reps_nil
      split at e1
      · rename_i q' mu' h2
        cases e1
        refine ⟨outer U s1 σ H1, F1, ρ1, s1.mu, ds, .ok q', mu', by rw [r1.length, evs_len h1, hl], ent, r1, h2, fun q hq v F2 ρ2 H2 sl' σ' n2 k2 r2 => ?_, fun d hd => by cases hd⟩
        exact h σ F2 ρ2 H2 (n1.trans n2) (k1.leave n2 k2)
      · rename_i d mu' h2
        split at e1
        · rename_i hij
          cases e1
          refine ⟨outer U s1 σ H1, F1, ρ1, s1.mu, ds, .exc d, mu', by rw [r1.length, evs_len h1, hl], ent, r1, h2, fun q hq => (by cases hq), fun d' hd' cls dd F2 ρ2 H2 sl' σ' n2 k2 ev => ?_⟩
          cases hd'
          obtain ⟨rfl, dx, x, rfl, rfl, hH2⟩ := ev
          have kl := k1.leave n2 k2
          refine ⟨true, hexm, fun _ a hna => ⟨dx, x, rfl, rfl, ?_, hH2, ?_⟩, fun z => by cases z⟩
          · rw [List.getElem?_set_self (by rw [← k1.len]; exact hij.2)]
          · have ks := kl.store (i := i) (Res.val (H := H2) (Rep.str x))
            refine h _ F2 ρ2 H2 (n1.trans n2) (ks.forget (by simp only [List.length_set]; exact k1.len) fun l z hz => ?_)
            have hlj : l ≠ j := fun e => by
              subst e
              rw [List.getElem?_set_self (by simpa using hij.2)] at hz; cases hz
            rw [List.getElem?_set_ne (Ne.symm hlj)] at hz
            refine ⟨hz, ?_⟩
            rw [List.getElem?_set_ne (Ne.symm hlj)]
            by_cases hli : l = i
            · subst hli
              have hlt : l < σ.length := by rw [← k1.len]; exact hij.1
              rw [List.getElem?_set_self (by simpa using hlt), List.getElem?_set_self hlt]
            · rw [List.getElem?_set_ne (Ne.symm hli), List.getElem?_set_ne (Ne.symm hlj), List.getElem?_set_ne (Ne.symm hli)]
        · cases e1
      · cases e1
    · cases e1

def tryC (fns : List Fn) (gid lid : Str) (S : Sta) (f j : Nat) (fid gid' en lid' en' : Str) : Bool := glB S.sc fid && okN fid && (match fns[f]? with | some g => decide (g.name = fid) | none => false) && decide (S.N[j]? = some en) && (match S.sc.names.lookup en with | some .local => true | _ => false) && okN en && decide (gid' = gid) && decide (lid' = lid) && decide (en' = en) && glB S.sc gid && glB S.sc lid
/-- how such a try is written -/
def tryK (fns : List Fn) (gid lid : Str) (S : Sta) (f j : Nat) : Stmt → Option (List Expr × Str)
  | .Try [.Expr (.Call (.Name fid _) xs [] _) _] [.ExceptHandler (some (.Name gid' _)) (some en) [.Assign [.Name y _] (.Call (.Name lid' _) [.Name en' _] [] _) _] _] [] [] _ =>
    if tryC fns gid lid S f j fid gid' en lid' en' = true then some (xs, y) else none
  | _ => none
theorem exq_of {P : Program} {w : World} {K : PySem.W.Frag} {mg : Str → Option Value} {T : Tb} {m : Nat} {nm fld gid lid pL : Str} {Ca Gc fI fL : Addr} {fdI fdL : FuncData} (e : ExF P w K mg nm fld Ca fI fdI) (h1 : T.exc = some nm) (h2 : T.tryS = tryK T.fns gid lid) (hokg : okN gid = true) (hokl : okN lid = true)
    (hmG : mg gid = some (.ref Gc)) (hexm : PySem.W.exmOne K (.ref Ca) (.ref Gc) = some true) (hmL : mg lid = some (.ref fL)) (hkL : PySem.W.keepIn K (.ref fL) = true) (hbL : Binds K fdL [pL] []) (FL : ∀ base, FnHp P w K mg base 1 fL fdL [pL] (spLong Ca fld)) : ExqAll P w K mg T (evX fld Ca) m := by
  rintro n S X W rfl rfl rfl rfl hstk hfr c tk hp
  refine ⟨fun id y ex p q pos hid hg hok hs hE => ?_, fun f es i j st xs id ht hy hl hs hne ha => ?_⟩
  · rw [h1] at hid
    exact s_raise e c tk (Option.some.inj hid).symm hg hok hs hE
  · rw [h2] at ht
    unfold tryK at ht
    split at ht
    · split at ht
      · rename_i hc
        cases ht
        unfold tryC at hc
        simp only [Bool.and_eq_true, decide_eq_true_eq] at hc
        obtain ⟨⟨⟨⟨⟨⟨⟨⟨⟨⟨g1, g2⟩, g3⟩, g4⟩, g5⟩, g6⟩, rfl⟩, rfl⟩, rfl⟩, g7⟩, g8⟩ := hc
        split at g3
        · rename_i g hf
          have hfn := of_decide_eq_true g3
          rw [hf] at hl
          have key : ∀ y : Str, (match S.sc.names.lookup y with | some .local => true | _ => false) = true → S.sc.names.lookup y = some .local := by
            intro y hy
            split at hy
            · assumption
            · cases hy
          exact s_try c tk hstk hfr g1 g2 hf hfn hl hs hne ha hy g4 (key _ g5) g6 g7 hokg hmG hexm g8 hokl hmL hkL hbL (FL X.base)
        · cases g3
      · cases ht
    · cases ht
/-! ### what the head's Bools tell of the class -/
def oexB (K : PySem.W.Frag) (C : Addr) : Bool := (match K.lookup C with
  | some ⟨.type "type", _, .cls cd, sl⟩ => (match cd.mro, sl.toList with
    | .ref C' :: bm, [_, _, _, _, some (.builtin n), _] => decide (C' = C) && decide (n = "ValueError.__new__") && !cd.hasDel && cd.hasDict && HandSPX.refsVE bm
    | _, _ => false)
  | _ => false) && decide (PySem.W.findIn K (.ref C) "__setattr__" = some (some (.builtin "object.__setattr__"))) && decide (PySem.W.subIn K (.ref C) (.type "BaseException") = some true) && decide (PySem.W.typeIn K (.ref C) = some (.type "type")) && PySem.W.keepIn K (.ref C)
theorem oexB_ok {K : PySem.W.Frag} {C : Addr} (h : oexB K C = true) : OexC K C := by
  unfold oexB at h
  simp only [Bool.and_eq_true, decide_eq_true_eq] at h
  obtain ⟨⟨⟨⟨h1, h2⟩, h3⟩, h4⟩, h5⟩ := h
  refine ⟨?_, h2, h3, h4, h5⟩
  split at h1
  · rename_i dd cd sl ho
    split at h1
    · rename_i C' bm k0 k1 k2 k3 n k5 hm hs
      simp only [Bool.and_eq_true, decide_eq_true_eq, Bool.not_eq_true'] at h1
      obtain ⟨⟨⟨⟨rfl, rfl⟩, hdel⟩, hdic⟩, ht⟩ := h1
      obtain ⟨nm, bs, mro, ns, qn, hd, sn, sub, ab, col, del⟩ := cd
      dsimp only at hm hdel hdic
      subst hm hdel hdic
      have hsl : sl = #[k0, k1, k2, k3, some (.builtin "ValueError.__new__"), k5] := by
        obtain ⟨l⟩ := sl
        simp only at hs
        rw [hs]
      subst hsl
      exact ⟨nm, qn, ns, bs, bm, sn, sub, ab, col, dd, k0, k1, k2, k3, k5, ho, ht⟩
    · cases h1
  · cases h1
def excB (K : PySem.W.Frag) (D : Addr) : Bool := decide (PySem.W.findIn K (.ref D) "__getattribute__" = some (some (.builtin "BaseException.__getattribute__"))) && decide (PySem.W.findIn K (.ref D) "__getattr__" = some none) && decide (PySem.W.subIn K (.ref D) (.type "BaseException") = some true) && PySem.W.hasDictIn K D && decide (PySem.W.findIn K (.ref D) "__class__" = some (some (.builtin "object.__class__"))) && decide (PySem.W.specialIn K (.builtin "object.__class__") "__get__" = some (some (.builtin "getset_descriptor.__get__"))) && decide (PySem.W.takesIn K (.builtin "object.__class__") = some true) && decide (PySem.W.mroIn K D (.type "object") = some true)
theorem excB_ok {K : PySem.W.Frag} {D : Addr} (h : excB K D = true) : L2.ExcC K D := by
  unfold excB at h
  simp only [Bool.and_eq_true, decide_eq_true_eq] at h
  obtain ⟨⟨⟨⟨⟨⟨⟨h1, h2⟩, h3⟩, h4⟩, h5⟩, h6⟩, h7⟩, h8⟩ := h
  exact ⟨h1, h2, h3, h4, h5, h6, h7, h8⟩
end Mn

set_option Elab.async false
set_option linter.all false
set_option maxRecDepth 100000
set_option maxHeartbeats 4000000
/-! ## the law's end -/
namespace Mn
open PySem PySem.Spec L2 PyProof.Rows
/-- the facts of a table, out of longer lists -/
theorem factsX {EV : EVT} {P : Program} {w : World} {K : PySem.W.Frag} {h : Heap} {mg : Str → Option Value} {T : Tb} {rows : List Row} {fax : List He.Fa} {fnx : List He.DefD} (hx : ∀ m, ExqAll P w K mg T EV m) (X : K.In h) (G : h.Ns mainGlobals mg) (c : He.SaysD fax fnx K) (cc : T.con.all (conB K) = true)
    (hfa : ∀ f ∈ faOf rows, f ∈ fax) (hfx : ∀ (i : Nat) (r : Row), rows[i]? = some r → fnx[i]? = some (rowD r)) (hT : T.fns = rows.map (·.fn)) (hrow : ∀ r ∈ rows, rowOk T r = true)
    (hb : ∀ r ∈ rows, ∀ (kV doc pm : Value) (an : Option Addr) (cdv ct : Value) (us : List Value), us.length = (r.fn.N.take r.fn.np).length → bindArgs (PySem.W.fnOf r.fn.name r.fn.name (defArgs r.st) (defBody r.st) (defScope r.st) .none kV doc pm an cdv ct) ⟨us, []⟩ = pure ((r.fn.N.take r.fn.np).zip us))
    {i : Nat} {r : Row} (hr : rows[i]? = some r) {fa : Addr} (hg : mg r.fn.name = some (.ref fa)) :
    ∃ fd : FuncData, (∀ (s : Shared) (us : List Value), us.length = (r.fn.N.take r.fn.np).length → BindsTo s fd ⟨us, []⟩ ((r.fn.N.take r.fn.np).zip us)) ∧ ∀ base m n, FnOk P w K mg base (L2N.CX P w) (n + 2) fa fd (r.fn.N.take r.fn.np) (spF P w K EV (run T.fns m n) i r.fn.np) := by
  have hfn : ∀ (i : Nat) (r : Row), rows[i]? = some r → ∃ f fd, FunD K r.fn.name r.fn.name (defArgs r.st) (defBody r.st) (defScope r.st) [] [] f fd ∧ mg r.fn.name = some (.ref f) ∧ Binds K fd (r.fn.N.take r.fn.np) [] := by
    intro i r hr
    obtain ⟨fd, F⟩ := c.def_ i (d := rowD r) (hfx i r hr)
    have hm : r ∈ rows := List.mem_of_getElem? hr
    refine ⟨_, fd, F, ?_, F.bindsN fun kV doc pm an cdv ct us hl => hb r hm kV doc pm an cdv ct us hl⟩
    exact He.glo_ok X G (fact_mem c (hfa _ (List.mem_append_left _ (List.mem_map.mpr ⟨r, hm, rfl⟩))))
  obtain ⟨f, fd, F, g1, g2⟩ := hfn i r hr
  rw [hg] at g1; cases g1
  refine ⟨fd, fun s us hl => F.bindsA (fun kV doc pm an cdv ct us hl => hb r (List.mem_of_getElem? hr) kV doc pm an cdv ct us hl) s us hl, fun base m n => ?_⟩
  refine fn_ok (hx m) hT hrow hfn (fun x hx => He.free_ok X G (fact_mem c (hfa _ (List.mem_append_right _ (List.mem_map.mpr ⟨x, hx, rfl⟩))))) (fun x d hd => ?_) n i r hr _ fd F
  have hm := List.all_eq_true.mp cc _ (PySem.mem_of_lookup hd)
  unfold conB at hm
  split at hm
  · rename_i u hu
    obtain ⟨v, q1, q2⟩ := conV_ok (P := P) (w := w) d u hm
    exact ⟨u, v, PySem.W.mg_of X G hu, q1, q2⟩
  · cases hm
/-- a law's end: F gives the law's def by the facts, law is the plain law -/
theorem walk_mini {l : PySem.W.OpenLaw} {q : Program} {loose : List Str} {XP : (Str → Option Value) → Heap → Prop} {d : DefRec} {x : Str} {dp : Nat} {fax : List He.Fa} {fnx : List He.DefD} {con : List (Str × D)} {ex : PySem.W.Frag → Bool} {fns : List Fn} {n N i : Nat}
    (hn : l.most = some n) (hn2 : n ≤ sizeLine) (hdf : d.params.defaults = []) (hr : Room (N + 2) callerA)
    (F : ∀ (w : World) (mg : Str → Option Value) (fa : Addr) (h : Heap) (K : PySem.W.Frag), K.In h → He.SaysD fax fnx K → con.all (conB K) = true → ex K = true → h.Ns mainGlobals mg → mg d.name = some (.ref fa) →
      ∃ (fd : FuncData) (EV : EVT), (∀ (s : Shared) (us : List Value), us.length = [x].length → BindsTo s fd ⟨us, []⟩ ([x].zip us)) ∧ ∀ base m k, FnOk l.prog w K mg base (L2N.CX l.prog w) (k + 2) fa fd [x] (spF l.prog w K EV (run fns m k) i 1))
    (law : ∀ ns : List Int, ns.length ≤ n → ∃ m o mu, run fns m N i [.lst (ns.map .int)] [] = some (.ok (o, .bl true), mu)) :
    PySem.W.WalkO q loose XP (hookM dp fax fnx con ex).says l.row.toRowW d [] (fun f vs => PySem.call f vs) := by
  refine Att.attach_call hn hdf fun w s₀ s₁ mg mb fa o pm cd doc a vs ns G Y ho hd hcd hmg hobj hints hlen hg => ?_
  obtain ⟨K, KX, c, cc, ce⟩ := Y
  obtain ⟨fd, EV, hb, hF⟩ := F w mg fa _ K KX c cc ce G.T.g hmg
  exact law_call (CX := L2N.CX l.prog w) (sp := spL l.prog w K EV fns N i) KX G.T.g G.T.b G.T.builtins G.T.nolimit hg hobj hints (Nat.le_trans hlen hn2) hr (fun base _ _ => spL_ok fun m k => hF base m k) (fun s u => hb s [u] rfl) (fun H hO hS => spL_of hO hS (law ns hlen)) fun H e s' z => by obtain ⟨_, _, _, _, _, _, _, _, _, _, _, _, z⟩ := z; exact z
end Mn

set_option Elab.async false
set_option linter.all false
set_option maxRecDepth 100000
set_option maxHeartbeats 4000000
namespace K55
open PySem L2 Mn
abbrev pw : PySem.Program := PySem.Challenge.pw_stopglass_k55_too_long
def top (i : Nat) : Stmt := pw.main.body.getD i (.Pass ⟨0, 0, 0, 0⟩)
/-- openers(rows) -/
def f_openers : Fn := ⟨"openers", 1, ["rows", "opened", "found", "at", "row"],
   [.set 1 (.lst .nil),
    .set 2 (.dic0 .a),
    .forr (.tup (.cons (.name 3) (.cons (.name 4) .nil))) (.enum (.var 0))
     [.ite (.or (.cons (.cmp .Eq (.ix (.var 4) (.cst (.int 0))) (.cst (.str "if"))) (.cons (.cmp .Eq (.ix (.var 4) (.cst (.int 0))) (.cst (.str "while"))) .nil)))
       [.ex (.mth .append (.var 1) (.cons (.var 3) .nil))]
       [.ite (.cmp .Eq (.ix (.var 4) (.cst (.int 0))) (.cst (.str "else")))
         [.seti (.var 2) (.var 3) (.ix (.var 1) (.neg (.cst (.int 1))))]
         [.ite (.cmp .Eq (.ix (.var 4) (.cst (.int 0))) (.cst (.str "end")))
           [.seti (.var 2) (.var 3) (.mth .pop (.var 1) .nil)]
           []]]],
    .ret (.var 2)]⟩
/-- closers(rows, opening) -/
def f_closers : Fn := ⟨"closers", 2, ["rows", "opening", "elses", "ends", "at", "begin"],
   [.set 2 (.dic0 .a),
    .set 3 (.dic0 .a),
    .forr (.tup (.cons (.name 4) (.cons (.name 5) .nil))) (.items (.var 1))
     [.ite (.cmp .Eq (.ix (.ix (.var 0) (.var 4)) (.cst (.int 0))) (.cst (.str "else")))
       [.seti (.var 2) (.var 5) (.var 4)]
       [.seti (.var 3) (.var 5) (.var 4)]],
    .ret (.tup (.cons (.var 2) (.cons (.var 3) .nil)))]⟩
/-- landing(rows, at, opening, ends) -/
def f_landing : Fn := ⟨"landing", 4, ["rows", "at", "opening", "ends", "begin"],
   [.whil (.or (.cons (.cmp .Eq (.ix (.ix (.var 0) (.var 1)) (.cst (.int 0))) (.cst (.str "else"))) (.cons (.cmp .Eq (.ix (.ix (.var 0) (.var 1)) (.cst (.int 0))) (.cst (.str "end"))) .nil)))
     [.set 4 (.ix (.var 2) (.var 1)),
      .ite (.cmp .Eq (.ix (.ix (.var 0) (.var 1)) (.cst (.int 0))) (.cst (.str "else")))
       [.set 1 (.op .add (.ix (.var 3) (.var 4)) (.cst (.int 1)))]
       [.ite (.cmp .Eq (.ix (.ix (.var 0) (.var 4)) (.cst (.int 0))) (.cst (.str "while")))
         [.ret (.var 4)]
         [.set 1 (.op .add (.var 1) (.cst (.int 1)))]]],
    .ret (.var 1)]⟩
/-- ways(rows) -/
def f_ways : Fn := ⟨"ways", 1, ["rows", "opening", "found", "elses", "ends", "at", "row", "beyond", "yes"],
   [.set 1 (.call 0 (.cons (.var 0) .nil)),
    .asg (.tup (.cons (.name 3) (.cons (.name 4) .nil))) (.call 1 (.cons (.var 0) (.cons (.var 1) .nil))),
    .set 2 (.lst .nil),
    .forr (.tup (.cons (.name 5) (.cons (.name 6) .nil))) (.enum (.var 0))
     [.ite (.cmp .In (.var 5) (.var 1))
       [.ex (.mth .append (.var 2) (.cons (.cst .non) .nil))]
       [.ite (.cmp .Eq (.ix (.var 6) (.cst (.int 0))) (.cst (.str "back")))
         [.ex (.mth .append (.var 2) (.cons (.tup .nil) .nil))]
         [.ite (.cmp .In (.var 5) (.var 4))
           [.set 7 (.mth .get2 (.var 3) (.cons (.var 5) (.cons (.ix (.var 4) (.var 5)) .nil))),
            .set 8 (.call 2 (.cons (.var 0) (.cons (.op .add (.var 5) (.cst (.int 1))) (.cons (.var 1) (.cons (.var 4) .nil))))),
            .ex (.mth .append (.var 2) (.cons (.tup (.cons (.var 8) (.cons (.call 2 (.cons (.var 0) (.cons (.op .add (.var 7) (.cst (.int 1))) (.cons (.var 1) (.cons (.var 4) .nil))))) .nil))) .nil))]
           [.ex (.mth .append (.var 2) (.cons (.tup (.cons (.call 2 (.cons (.var 0) (.cons (.op .add (.var 5) (.cst (.int 1))) (.cons (.var 1) (.cons (.var 4) .nil))))) .nil)) .nil))]]]],
    .ret (.var 2)]⟩
/-- place_in(program, name) -/
def f_place_in : Fn := ⟨"place_in", 2, ["program", "name", "function"],
   [.ret (.mth .index (.lc [2] (.name 2) (.val (.var 0)) .nil (.ix (.var 2) (.cst (.int 0)))) (.cons (.var 1) .nil))]⟩
/-- row_at(program, chain) -/
def f_row_at : Fn := ⟨"row_at", 2, ["program", "chain"],
   [.ret (.ix (.ix (.ix (.var 0) (.call 4 (.cons (.var 0) (.cons (.ix (.ix (.var 1) (.neg (.cst (.int 1)))) (.cst (.int 0))) .nil)))) (.cst (.int 3))) (.ix (.ix (.var 1) (.neg (.cst (.int 1)))) (.cst (.int 1))))]⟩
/-- moved(chain, at) -/
def f_moved : Fn := ⟨"moved", 2, ["chain", "at"],
   [.ret (.op .add (.sl (.var 0) .none (.some (.neg (.cst (.int 1))))) (.tup (.cons (.tup (.cons (.ix (.ix (.var 0) (.neg (.cst (.int 1)))) (.cst (.int 0))) (.cons (.var 1) .nil))) .nil)))]⟩
/-- in_place(program, chain) -/
def f_in_place : Fn := ⟨"in_place", 2, ["program", "chain", "row", "there"],
   [.set 2 (.call 5 (.cons (.var 0) (.cons (.var 1) .nil))),
    .ite (.or (.cons (.cmp .NotEq (.ix (.var 2) (.cst (.int 0))) (.cst (.str "call"))) (.cons (.cmp .GtE (.blt .len (.cons (.var 1) .nil)) (.glo "MOST_FRAMES" (.int 3))) .nil)))
     [.ret (.cst (.bl false))]
     [],
    .set 3 (.call 4 (.cons (.var 0) (.cons (.ix (.var 2) (.cst (.int 2))) .nil))),
    .ret (.and (.cons (.ix (.ix (.var 0) (.var 3)) (.cst (.int 1))) (.cons (.cmp .Lt (.var 3) (.call 4 (.cons (.var 0) (.cons (.ix (.ix (.var 1) (.neg (.cst (.int 1)))) (.cst (.int 0))) .nil)))) .nil)))]⟩
/-- behind_row(flows, chain) -/
def f_behind_row : Fn := ⟨"behind_row", 2, ["flows", "chain", "at"],
   [.ret (.lc [2] (.name 2) (.val (.ix (.ix (.var 0) (.ix (.ix (.var 1) (.neg (.cst (.int 1)))) (.cst (.int 0)))) (.ix (.ix (.var 1) (.neg (.cst (.int 1)))) (.cst (.int 1))))) .nil (.call 6 (.cons (.var 1) (.cons (.var 2) .nil))))]⟩
/-- led_to(program, flows, chain, wait) -/
def f_led_to : Fn := ⟨"led_to", 4, ["program", "flows", "chain", "wait", "row", "there"],
   [.set 4 (.call 5 (.cons (.var 0) (.cons (.var 2) .nil))),
    .ite (.and (.cons (.cmp .Eq (.ix (.var 4) (.cst (.int 0))) (.cst (.str "call"))) (.cons (.not (.var 3)) .nil)))
     [.ite (.call 7 (.cons (.var 0) (.cons (.var 2) .nil)))
       [.ret (.lst (.cons (.tup (.cons (.op .add (.var 2) (.tup (.cons (.tup (.cons (.ix (.var 4) (.cst (.int 2))) (.cons (.cst (.int 0)) .nil))) .nil))) (.cons (.cst (.bl false)) .nil))) .nil))]
       [],
      .ret (.lst (.cons (.tup (.cons (.var 2) (.cons (.cst (.bl true)) .nil))) .nil))]
     [],
    .ite (.cmp .Eq (.ix (.var 4) (.cst (.int 0))) (.cst (.str "back")))
     [.ite (.cmp .Eq (.blt .len (.cons (.var 2) .nil)) (.cst (.int 1)))
       [.ret (.lst .nil)]
       [],
      .set 2 (.sl (.var 2) .none (.some (.neg (.cst (.int 1)))))]
     [],
    .ret (.lc [5] (.name 5) (.val (.call 8 (.cons (.var 1) (.cons (.var 2) .nil)))) .nil (.tup (.cons (.var 5) (.cons (.cst (.bl false)) .nil))))]⟩
/-- flows_of(program) -/
def f_flows_of : Fn := ⟨"flows_of", 1, ["program", "flows", "function"],
   [.set 1 (.dic0 .a),
    .forr (.name 2) (.val (.var 0))
     [.seti (.var 1) (.ix (.var 2) (.cst (.int 0))) (.call 3 (.cons (.ix (.var 2) (.cst (.int 3))) .nil))],
    .ret (.var 1)]⟩
/-- plan(program, name) -/
def f_plan : Fn := ⟨"plan", 2, ["program", "name", "flows", "found", "numbers", "stations", "on", "there", "chain", "wait"],
   [.set 2 (.call 10 (.cons (.var 0) .nil)),
    .set 3 (.lst (.cons (.tup (.cons (.tup (.cons (.tup (.cons (.var 1) (.cons (.cst (.int 0)) .nil))) .nil)) (.cons (.cst (.bl false)) .nil))) .nil)),
    .set 4 (.dic1 .n (.ix (.var 3) (.cst (.int 0))) (.cst (.int 0))),
    .set 5 (.lst .nil),
    .whil (.cmp .Lt (.blt .len (.cons (.var 5) .nil)) (.blt .len (.cons (.var 3) .nil)))
     [.asg (.tup (.cons (.name 8) (.cons (.name 9) .nil))) (.ix (.var 3) (.blt .len (.cons (.var 5) .nil))),
      .set 6 (.lst .nil),
      .forr (.name 7) (.val (.call 9 (.cons (.var 0) (.cons (.var 2) (.cons (.var 8) (.cons (.var 9) .nil))))))
       [.ite (.cmp .NotIn (.var 7) (.var 4))
         [.ite (.cmp .Eq (.blt .len (.cons (.var 3) .nil)) (.glo "MOST_STATIONS" (.int 200)))
           [.raise (.var 1)]
           [],
          .seti (.var 4) (.var 7) (.blt .len (.cons (.var 3) .nil)),
          .ex (.mth .append (.var 3) (.cons (.var 7) .nil))]
         [],
        .ex (.mth .append (.var 6) (.cons (.ix (.var 4) (.var 7)) .nil))],
      .ex (.mth .append (.var 5) (.cons (.tup (.cons (.var 8) (.cons (.var 9) (.cons (.blt .tuple (.cons (.var 6) .nil)) .nil)))) .nil))],
    .ret (.var 5)]⟩
/-- _law_cell_at(_law_script, _law_k) -/
def f__law_cell_at : Fn := ⟨"_law_cell_at", 2, ["_law_script", "_law_k"],
   [.ite (.cmp .Lt (.var 1) (.blt .len (.cons (.var 0) .nil)))
     [.ret (.ix (.var 0) (.var 1))]
     [],
    .ret (.cst (.int 0))]⟩
/-- _law_function(_law_name, _law_folded, _law_extra, _law_calls, _law_inner) -/
def f__law_function : Fn := ⟨"_law_function", 5, ["_law_name", "_law_folded", "_law_extra", "_law_calls", "_law_inner", "_law_rows", "_law_k"],
   [.set 5 (.lc [6] (.name 6) (.range (.cons (.var 2) .nil)) .nil (.tup (.cons (.cst (.str "out")) (.cons (.var 6) .nil)))),
    .forr (.name 6) (.range (.cons (.var 3) .nil))
     [.ex (.mth .append (.var 5) (.cons (.tup (.cons (.cst (.str "call")) (.cons (.cst (.str "x")) (.cons (.var 4) (.cons (.tup .nil) .nil))))) .nil))],
    .ex (.mth .append (.var 5) (.cons (.tup (.cons (.cst (.str "back")) (.cons (.cst (.str "x")) .nil))) .nil)),
    .ret (.tup (.cons (.var 0) (.cons (.var 1) (.cons (.tup .nil) (.cons (.blt .tuple (.cons (.var 5) .nil)) .nil)))))]⟩
/-- _law_refused(_law_program, _law_name) -/
def f__law_refused : Fn := ⟨"_law_refused", 2, ["_law_program", "_law_name", "_law_found", "_law_e"],
   [.set 2 (.cst .non),
    .tryc 11 (.cons (.var 0) (.cons (.var 1) .nil)) 2 3,
    .ret (.cmp .Eq (.var 2) (.var 1))]⟩
/-- _law_is(_law_program, _law_name, _law_due) -/
def f__law_is : Fn := ⟨"_law_is", 3, ["_law_program", "_law_name", "_law_due"],
   [.ite (.cmp .Gt (.var 2) (.cst (.int 200)))
     [.ret (.call 14 (.cons (.var 0) (.cons (.var 1) .nil)))]
     [],
    .ret (.cmp .Eq (.blt .len (.cons (.call 11 (.cons (.var 0) (.cons (.var 1) .nil))) .nil)) (.var 2))]⟩
/-- law(_law_script) -/
def f_law : Fn := ⟨"law", 1, ["_law_script", "_law_small", "_law_calls", "_law_extra", "_law_folded", "_law_middle", "_law_inner", "_law_top", "_law_more", "_law_last", "_law_names", "_law_program", "_law_kept"],
   [.set 1 (.op .add (.cst (.int 1)) (.op .mod (.call 12 (.cons (.var 0) (.cons (.cst (.int 0)) .nil))) (.cst (.int 20)))),
    .set 2 (.op .add (.cst (.int 1)) (.op .mod (.call 12 (.cons (.var 0) (.cons (.cst (.int 1)) .nil))) (.cst (.int 9)))),
    .set 3 (.op .mod (.call 12 (.cons (.var 0) (.cons (.cst (.int 2)) .nil))) (.cst (.int 10))),
    .set 4 (.cmp .NotEq (.op .mod (.call 12 (.cons (.var 0) (.cons (.cst (.int 3)) .nil))) (.cst (.int 8))) (.cst (.int 1))),
    .set 5 (.op .add (.op .add (.var 3) (.cst (.int 1))) (.op .mul (.var 2) (.op .add (.cst (.int 1)) (.var 1)))),
    .set 6 (.op .add (.var 5) (.cst (.int 1))),
    .ite (.not (.var 4))
     [.set 6 (.cst (.int 2))]
     [],
    .set 7 (.blt .min2 (.cons (.cst (.int 12)) (.cons (.op .fdiv (.cst (.int 199)) (.var 6)) .nil))),
    .set 8 (.op .add (.op .sub (.op .sub (.cst (.int 199)) (.op .mul (.var 7) (.var 6))) (.cst (.int 1))) (.op .mod (.call 12 (.cons (.var 0) (.cons (.cst (.int 4)) .nil))) (.cst (.int 4)))),
    .set 8 (.op .mod (.var 8) (.cst (.int 40))),
    .set 9 (.op .add (.op .add (.op .mul (.var 7) (.var 6)) (.var 8)) (.cst (.int 1))),
    .set 10 (.tup (.cons (.cst (.str "low")) (.cons (.cst (.str "mid")) (.cons (.cst (.str "top")) .nil)))),
    .set 11 (.lst (.cons (.call 13 (.cons (.ix (.var 10) (.cst (.int 0))) (.cons (.cst (.bl true)) (.cons (.op .sub (.var 1) (.cst (.int 1))) (.cons (.cst (.int 0)) (.cons (.cst (.str "")) .nil)))))) (.cons (.call 13 (.cons (.ix (.var 10) (.cst (.int 1))) (.cons (.var 4) (.cons (.var 3) (.cons (.var 2) (.cons (.ix (.var 10) (.cst (.int 0))) .nil)))))) .nil))),
    .ex (.mth .append (.var 11) (.cons (.call 13 (.cons (.ix (.var 10) (.cst (.int 2))) (.cons (.cst (.bl false)) (.cons (.var 8) (.cons (.var 7) (.cons (.ix (.var 10) (.cst (.int 1))) .nil)))))) .nil)),
    .ex (.mth .append (.var 11) (.cons (.call 13 (.cons (.cst (.str "behind")) (.cons (.cst (.bl false)) (.cons (.cst (.int 0)) (.cons (.cst (.int 0)) (.cons (.cst (.str "")) .nil)))))) .nil)),
    .set 12 (.blt .list (.cons (.var 11) .nil)),
    .ite (.or (.cons (.not (.call 15 (.cons (.var 11) (.cons (.ix (.var 10) (.cst (.int 2))) (.cons (.var 9) .nil))))) (.cons (.not (.call 15 (.cons (.var 11) (.cons (.ix (.var 10) (.cst (.int 1))) (.cons (.var 5) .nil))))) .nil)))
     [.ret (.cst (.bl false))]
     [],
    .ret (.and (.cons (.call 15 (.cons (.var 11) (.cons (.ix (.var 10) (.cst (.int 0))) (.cons (.var 1) .nil)))) (.cons (.call 15 (.cons (.var 11) (.cons (.ix (.var 10) (.cst (.int 2))) (.cons (.var 9) .nil)))) (.cons (.cmp .Eq (.var 11) (.var 12)) .nil))))]⟩
def rows : List Row := [⟨f_openers, top 8⟩, ⟨f_closers, top 9⟩, ⟨f_landing, top 10⟩, ⟨f_ways, top 11⟩, ⟨f_place_in, top 15⟩, ⟨f_row_at, top 16⟩, ⟨f_moved, top 17⟩, ⟨f_in_place, top 18⟩, ⟨f_behind_row, top 19⟩, ⟨f_led_to, top 20⟩, ⟨f_flows_of, top 21⟩, ⟨f_plan, top 22⟩, ⟨f__law_cell_at, top 24⟩, ⟨f__law_function, top 25⟩, ⟨f__law_refused, top 27⟩, ⟨f__law_is, top 28⟩, ⟨f_law, top 29⟩]
def con : List (Str × D) := [("MOST_FRAMES", (.int 3)), ("MOST_STATIONS", (.int 200))]
def tb : Tb := ⟨rows.map (·.fn), con, some "TooLong", tryK (rows.map (·.fn)) "GlassError" "_law_long"⟩
/-- where each def stands -/
abbrev i_openers : Nat := 0
abbrev i_closers : Nat := 1
abbrev i_landing : Nat := 2
abbrev i_ways : Nat := 3
abbrev i_place_in : Nat := 4
abbrev i_row_at : Nat := 5
abbrev i_moved : Nat := 6
abbrev i_in_place : Nat := 7
abbrev i_behind_row : Nat := 8
abbrev i_led_to : Nat := 9
abbrev i_flows_of : Nat := 10
abbrev i_plan : Nat := 11
abbrev i__law_cell_at : Nat := 12
abbrev i__law_function : Nat := 13
abbrev i__law_refused : Nat := 14
abbrev i__law_is : Nat := 15
abbrev i_law : Nat := 16
theorem row_ok : ∀ r ∈ rows, rowOk tb r = true := by decide +kernel
theorem binds : ∀ r ∈ rows, ∀ (kV doc pm : Value) (an : Option Addr) (cdv ct : Value) (us : List Value), us.length = (r.fn.N.take r.fn.np).length → bindArgs (PySem.W.fnOf r.fn.name r.fn.name (defArgs r.st) (defBody r.st) (defScope r.st) .none kV doc pm an cdv ct) ⟨us, []⟩ = pure ((r.fn.N.take r.fn.np).zip us) := by
  intro r hr
  simp only [rows, List.mem_cons, List.not_mem_nil, or_false] at hr
  rcases hr with rfl | rfl | rfl | rfl | rfl | rfl | rfl | rfl | rfl | rfl | rfl | rfl | rfl | rfl | rfl | rfl | rfl
  · exact fun _ _ _ _ _ _ us hl => match us, hl with | [_], _ => rfl
  · exact fun _ _ _ _ _ _ us hl => match us, hl with | [_, _], _ => rfl
  · exact fun _ _ _ _ _ _ us hl => match us, hl with | [_, _, _, _], _ => rfl
  · exact fun _ _ _ _ _ _ us hl => match us, hl with | [_], _ => rfl
  · exact fun _ _ _ _ _ _ us hl => match us, hl with | [_, _], _ => rfl
  · exact fun _ _ _ _ _ _ us hl => match us, hl with | [_, _], _ => rfl
  · exact fun _ _ _ _ _ _ us hl => match us, hl with | [_, _], _ => rfl
  · exact fun _ _ _ _ _ _ us hl => match us, hl with | [_, _], _ => rfl
  · exact fun _ _ _ _ _ _ us hl => match us, hl with | [_, _], _ => rfl
  · exact fun _ _ _ _ _ _ us hl => match us, hl with | [_, _, _, _], _ => rfl
  · exact fun _ _ _ _ _ _ us hl => match us, hl with | [_], _ => rfl
  · exact fun _ _ _ _ _ _ us hl => match us, hl with | [_, _], _ => rfl
  · exact fun _ _ _ _ _ _ us hl => match us, hl with | [_, _], _ => rfl
  · exact fun _ _ _ _ _ _ us hl => match us, hl with | [_, _, _, _, _], _ => rfl
  · exact fun _ _ _ _ _ _ us hl => match us, hl with | [_, _], _ => rfl
  · exact fun _ _ _ _ _ _ us hl => match us, hl with | [_, _, _], _ => rfl
  · exact fun _ _ _ _ _ _ us hl => match us, hl with | [_], _ => rfl
end K55

set_option Elab.async false
set_option linter.all false
set_option maxRecDepth 100000
set_option maxHeartbeats 4000000
namespace K55
open PySem L2 Mn PyProof.Rows
/-! ### the class, its __init__, _law_long -/
def stLong : Stmt := top 26
def stInit : Stmt := match top 5 with
  | .ClassDef (body := b) .. => b.getD 0 (.Pass ⟨0, 0, 0, 0⟩)
  | s => s
def dLong : He.DefD := ⟨("_law_long", none), "_law_long", "_law_long", defArgs stLong, defBody stLong, defScope stLong, [], []⟩
def dInit : He.DefD := ⟨("TooLong", some "__init__"), "__init__", "TooLong.__init__", defArgs stInit, defBody stInit, defScope stInit, [], []⟩
def others : List Str := ["BadBits", "BadNest", "NoName", "BadCall"]
def exB (K : PySem.W.Frag) : Bool := oexB K (He.ga K "TooLong") && (excB K (He.ga K "TooLong") && (xfB K (He.ga K "TooLong") && (decide (PySem.W.typeIn K (.ref (He.ma K (He.ga K "TooLong") "__init__")) = some (.type "function")) &&
  (others.all (fun y => decide (PySem.W.kitOne K (.ref (He.ga K "TooLong")) (.ref (He.ga K y)) = some false)) && (decide (PySem.W.kitOne K (.ref (He.ga K "TooLong")) (.ref (He.ga K "TooLong")) = some true) && (decide (PySem.W.kitOne K (.ref (He.ga K "TooLong")) (.type "ValueError") = some true) &&
    decide (PySem.W.exmOne K (.ref (He.ga K "TooLong")) (.ref (He.ga K "GlassError")) = some true)))))))
def fax : List He.Fa := faOf rows ++ [.glo "TooLong", .glo "GlassError", .glo "BadBits", .glo "BadNest", .glo "NoName", .glo "BadCall", .glo "_law_long", .meth "TooLong" "__init__", .noat "TooLong" "function", .free "ValueError"]
def fnx : List He.DefD := rows.map rowD ++ [dLong, dInit]

section
variable {X : Cx} {Ca dd : Addr} {p : Addr × Obj} {b : Bool} {p0 p1 p2 q : Pos} {en B : Str}
theorem is_own (E : L2.ExcC X.K Ca) (x : XAt Ca dd p) (hp : p ∈ X.pn) (hgI : Gl X "isinstance") (hmI : X.mg "isinstance" = none) {Bc : Addr} (hgB : Gl X B) (hmB : X.mg B = some (.ref Bc)) (hdB : (B == ("__debug__" : Str)) = false) (hk : PySem.W.kitOne X.K (.ref Ca) (.ref Bc) = some b)
    (hv : PE X (.Name en p1) (tVar 0)) : PE X (.Call (.Name "isinstance" p0) [.Name en p1, .Name B p2] [] q) (fun σ H Q => ∃ fs, σ[0]? = some (some (.ref p.1)) ∧ H dd = some (.xd fs) ∧ Q (.bl b) H) :=
  PE.imp (pe_callB (call_isP E x hp) hgI hmI boot_isinstance (pa_cons hv (pa_cons (pe_glob (v := .ref Bc) hgB hmB rfl hdB) pa_nil (shp_star rfl)) (shp_star rfl)) (by decide) (by decide) (shp_star rfl) rfl) fun σ H Q ⟨fs, h1, h2, h3⟩ =>
    ⟨.ref p.1, h1, .ref Bc, .ref Bc, b, fs, rfl, fun u r => r, hk, h2, h3⟩
theorem is_blt (E : L2.ExcC X.K Ca) (x : XAt Ca dd p) (hp : p ∈ X.pn) (hgI : Gl X "isinstance") (hmI : X.mg "isinstance" = none) (hgB : Gl X "ValueError") (hmB : X.mg "ValueError" = none) (hk : PySem.W.kitOne X.K (.ref Ca) (.type "ValueError") = some b)
    (hv : PE X (.Name en p1) (tVar 0)) : PE X (.Call (.Name "isinstance" p0) [.Name en p1, .Name "ValueError" p2] [] q) (fun σ H Q => ∃ fs, σ[0]? = some (some (.ref p.1)) ∧ H dd = some (.xd fs) ∧ Q (.bl b) H) :=
  PE.imp (pe_callB (call_isP E x hp) hgI hmI boot_isinstance (pa_cons hv (pa_cons (pe_bltn (v := .ty "ValueError") hgB hmB (by decide +kernel) rfl) pa_nil (shp_star rfl)) (shp_star rfl)) (by decide) (by decide) (shp_star rfl) rfl) fun σ H Q ⟨fs, h1, h2, h3⟩ =>
    ⟨.ref p.1, h1, .ty "ValueError", .type "ValueError", b, fs, rfl, fun u r => r, hk, h2, h3⟩
end
theorem scLong : FnScope ["_law_e", "_law_others"] ["_law_e"] (defScope stLong) := fnScope_by (by decide +kernel)
theorem ok_long {P : Program} {w : World} {K : PySem.W.Frag} {mg : Str → Option Value} {base : Heap} {Ca fL : Addr} {fdL : FuncData} (F : FunD K "_law_long" "_law_long" (defArgs stLong) (defBody stLong) (defScope stLong) [] [] fL fdL)
    (E : L2.ExcC K Ca) (T : XfC K Ca) (hno : PySem.W.findIn K (.ref Ca) "function" = some none) (hmI : mg "isinstance" = none) (hmV : mg "ValueError" = none) (hkV : PySem.W.kitOne K (.ref Ca) (.type "ValueError") = some true) (hmT : mg "TooLong" = some (.ref Ca)) (hkT : PySem.W.kitOne K (.ref Ca) (.ref Ca) = some true)
    (ho : ∀ y ∈ others, ∃ a, mg y = some (.ref a) ∧ PySem.W.kitOne K (.ref Ca) (.ref a) = some false) : FnHp P w K mg base 1 fL fdL ["_law_e"] (spLong Ca "function") := by
  refine fnHp_of F scLong (fun p vs H Q E h => ?_) (fun cdv A outer s H vs Q E' p hot hr h => ?_)
  · obtain ⟨dd, x, _, rfl, _⟩ := h
    rfl
  · obtain ⟨dd, x, hx, rfl, hH, hQ⟩ := h
    obtain ⟨a1, m1, k1⟩ := ho "BadBits" (by decide)
    obtain ⟨a2, m2, k2⟩ := ho "BadNest" (by decide)
    obtain ⟨a3, m3, k3⟩ := ho "NoName" (by decide)
    obtain ⟨a4, m4, k4⟩ := ho "BadCall" (by decide)
    generalize hX : L2H.cxH (L2N.CX P w) P w K mg base ["_law_e", "_law_others"] "_law_long" (defScope stLong) fL cdv A outer s H E' p = X
    have hp : p ∈ X.pn := by rw [← hX]; exact List.mem_cons_self
    have hK : X.K = K := by rw [← hX]; rfl
    have hmg : X.mg = mg := by rw [← hX]; rfl
    have hsc : X.env.scope = defScope stLong := by rw [← hX]; rfl
    have hN : X.N = (["_law_e", "_law_others"] : List Str) := by rw [← hX]; rfl
    have hnd : X.N.Nodup := by rw [hN]; exact scLong.nd
    have hpos : X.prog = P ∧ X.w = w := by rw [← hX]; exact ⟨rfl, rfl⟩
    subst hK hmg
    have gl : ∀ y, (defScope stLong).names.lookup y = some .globalImplicit → Gl X y := fun y hy => by
      show X.env.scope.names.lookup y = _
      rw [hsc]; exact hy
    have vE : ∀ q, PE X (.Name "_law_e" q) (tVar 0) := fun q => pe_var (by rw [hN]; rfl) (.inl (by rw [hsc]; decide +kernel)) (by decide) (by decide)
    have vO : ∀ q, PE X (.Name "_law_others" q) (tVar 1) := fun q => pe_var (by rw [hN]; rfl) (.inl (by rw [hsc]; decide +kernel)) (by decide) (by decide)
    have gI := gl "isinstance" (by decide +kernel)
    have c1 : ∀ {p0 p1 p2 q : Pos}, _ := fun {p0 p1 p2 q} => is_own (p0 := p0) (p2 := p2) (q := q) E hx hp gI hmI (gl "BadBits" (by decide +kernel)) m1 (by decide) k1 (vE p1)
    have c2 : ∀ {p0 p1 p2 q : Pos}, _ := fun {p0 p1 p2 q} => is_own (p0 := p0) (p2 := p2) (q := q) E hx hp gI hmI (gl "BadNest" (by decide +kernel)) m2 (by decide) k2 (vE p1)
    have c3 : ∀ {p0 p1 p2 q : Pos}, _ := fun {p0 p1 p2 q} => is_own (p0 := p0) (p2 := p2) (q := q) E hx hp gI hmI (gl "NoName" (by decide +kernel)) m3 (by decide) k3 (vE p1)
    have c4 : ∀ {p0 p1 p2 q : Pos}, _ := fun {p0 p1 p2 q} => is_own (p0 := p0) (p2 := p2) (q := q) E hx hp gI hmI (gl "BadCall" (by decide +kernel)) m4 (by decide) k4 (vE p1)
    have c5 : ∀ {p0 p1 p2 q : Pos}, _ := fun {p0 p1 p2 q} => is_own (p0 := p0) (p2 := p2) (q := q) E hx hp gI hmI (gl "TooLong" (by decide +kernel)) hmT (by decide) hkT (vE p1)
    have c6 : ∀ {p0 p1 p2 q : Pos}, _ := fun {p0 p1 p2 q} => is_blt (p0 := p0) (p2 := p2) (q := q) E hx hp gI hmI (gl "ValueError" (by decide +kernel)) hmV hkV (vE p1)
    have lo : X.env.scope.names.lookup ("_law_others" : Str) = some .local := by rw [hsc]; decide +kernel
    refine ⟨_, pss_cons (ps_set (i := 1) hnd (by rw [hN]; rfl) (.inl lo) (pe_or c1 (pe_or c2 (pe_or c3 (pe_one c4)))) rfl (.inr lo))
      (pss_cons (ps_if (PW.pt (pw_or (pt_not (pt_val c5)) (pw_or (pt_val (vO _)) (pw_or1 (pt_not (pt_val c6)))))) pss_never pss_nil)
        (pss_one (ps_ret (pe_xfP T hno hx hp (vE _) rfl)))), ?_⟩
    refine ⟨_, rfl, hH, false, rfl, ?_⟩
    refine ⟨_, rfl, hH, false, rfl, ?_⟩
    refine ⟨_, rfl, hH, false, rfl, ?_⟩
    refine ⟨_, rfl, hH, ?_⟩
    refine ⟨_, rfl, hH, true, rfl, ?_⟩
    refine ⟨_, rfl, false, rfl, ?_⟩
    refine ⟨_, rfl, hH, true, rfl, ?_⟩
    exact ⟨_, rfl, rfl, _, _, hH, List.lookup_cons_self, hQ⟩
end K55

set_option Elab.async false
set_option linter.all false
set_option maxRecDepth 100000
set_option maxHeartbeats 0
namespace K55
open PySem PySem.Spec PyProof.Rows L2 Mn
abbrev R : PySem.W.OpenRow := PySem.W.OpenLaw.row PySem.Challenge.rw_stopglass_k55_too_long
abbrev hk : PySem.W.Hook := hookM 5 fax fnx con exB
def ob (s : PySem.W.SharedT) : He.AlD := obsM 5 fax fnx con exB (HandSHeadRun.getT s)
theorem ob_eq (s : PySem.W.SharedT) : ob s = hk.obs s.abs := obsM_eq (HandSHeadRun.getT_eq s)
def loose : List Str := ["GlassError", "BadNest", "BadCall", "NoName", "TooLong", "BadBits", "openers", "closers", "landing", "ways", "MOST_STATIONS", "MOST_FRAMES", "place_in", "row_at", "moved", "in_place", "behind_row", "led_to", "flows_of", "plan", "_law_cell_at", "_law_function", "_law_long", "_law_refused", "_law_is"]
theorem run_top (w : World) : HandSHeadRun.RunEq R (PySem.W.view R.prog [29]) hk ob 3000 loose w := by
  intro os
  kernel_rfl
end K55

set_option Elab.async false
set_option linter.all false
set_option maxRecDepth 100000
set_option maxHeartbeats 4000000
namespace K55
open PySem PySem.Spec PyProof.Rows L2 Mn
theorem exq {P : Program} {w : World} {K : PySem.W.Frag} {h : Heap} {mg : Str → Option Value} (X : K.In h) (G : h.Ns mainGlobals mg) (c : He.SaysD fax fnx K) (ce : exB K = true) : ∀ m, ExqAll P w K mg tb (evX "function" (He.ga K "TooLong")) m := by
  intro m
  unfold exB at ce
  simp only [Bool.and_eq_true, decide_eq_true_eq, List.all_eq_true] at ce
  obtain ⟨e1, e2, e3, e4, e5, e6, e7, e8⟩ := ce
  have fm := fun {f : He.Fa} (h : f ∈ fax) => fact_mem c h
  have hC : mg "TooLong" = some (.ref (He.ga K "TooLong")) := He.glo_ok X G (fm (by simp [fax]))
  have hG : mg "GlassError" = some (.ref (He.ga K "GlassError")) := He.glo_ok X G (fm (by simp [fax]))
  have hL : mg "_law_long" = some (.ref (He.ga K "_law_long")) := He.glo_ok X G (fm (by simp [fax]))
  have hno : PySem.W.findIn K (.ref (He.ga K "TooLong")) "function" = some none := He.noat_ok (x := "TooLong") (fm (by simp [fax]))
  have hM := He.meth_ok (x := "TooLong") (m := "__init__") (fm (by simp [fax]))
  obtain ⟨fdL, FL⟩ := c.def_ 17 (d := dLong) rfl
  obtain ⟨fdI, FI⟩ := c.def_ 18 (d := dInit) rfl
  have O := oexB_ok e1
  have T : L2.XfC K (He.ga K "TooLong") := xfB_ok e3
  have bL : Binds K fdL ["_law_e"] [] := FL.bindsN fun _ _ _ _ _ _ us hl => match us, hl with | [_], _ => rfl
  have bI : Binds K fdI ["self", "function"] [] := FI.bindsN fun _ _ _ _ _ _ us hl => match us, hl with | [_, _], _ => rfl
  have ef : ExF P w K mg "TooLong" "function" (He.ga K "TooLong") _ fdI := ⟨hC, O, hM.at_, e4, hno, bI, fun base => init_ok O hno FI rfl (by decide +kernel) (by decide +kernel) (by decide +kernel) (by decide +kernel)⟩
  refine exq_of ef rfl rfl (by decide) (by decide) hG e8 hL FL.kp bL (fun base => ok_long FL (excB_ok e2) T hno (He.free_ok X G (fm (by simp [fax, faOf, bltNames]))) (He.free_ok X G (fm (by simp [fax]))) e7 hC e6 fun y hy => ⟨_, ?_, e5 y hy⟩)
  simp only [others, List.mem_cons, List.not_mem_nil, or_false] at hy
  rcases hy with rfl | rfl | rfl | rfl <;> exact He.glo_ok X G (fm (by simp [fax]))
/-- the law by the plain law -/
theorem close (law : ∀ ns : List Int, ns.length ≤ 63 → ∃ m o mu, Mn.run tb.fns m 20 16 [.lst (ns.map .int)] [] = some (.ok (o, .bl true), mu)) : PySem.Challenge.rw_stopglass_k55_too_long.Holds := by
  open PySem.W PySem.Calls in
  w_on; o_law
  refine HandSHeadRun.head_any (r := OpenLaw.row PySem.Challenge.rw_stopglass_k55_too_long) (q := view (OpenLaw.row PySem.Challenge.rw_stopglass_k55_too_long).prog [29]) (H := hk) (ob := ob) (M := 3000) (loose := loose) (d := HandSHeadRun.topDef (OpenLaw.row PySem.Challenge.rw_stopglass_k55_too_long).prog 29) (kwd := []) ob_eq
    (by kernel_rfl) (fun s => by kernel_rfl) run_top (by kernel_rfl) (by kernel_rfl) (by kernel_rfl) (by rfl) (by first | assumption | decide +kernel) (by decide +kernel) ⟨rfl, rfl, rfl, rfl, rfl, by decide +kernel⟩ ?hw ?hc
  case hw => w_witness2
  case hc =>
    refine walk_mini (l := PySem.Challenge.rw_stopglass_k55_too_long) (n := 63) (N := 20) (i := 16) (x := "_law_script") (fns := tb.fns) rfl (by decide) (by kernel_rfl) ⟨rfl, by decide, by decide⟩ ?F law
    intro w mg fa h K X c cc ce G hmg0
    have hmg : mg (f_law.name : PySem.Str) = some (.ref fa) := by
      have e : (HandSHeadRun.topDef (OpenLaw.row PySem.Challenge.rw_stopglass_k55_too_long).prog 29).name = (f_law.name : PySem.Str) := by kernel_rfl
      rw [← e]
      exact hmg0
    have hr : rows[16]? = some ⟨f_law, top 29⟩ := rfl
    obtain ⟨fd, hb, hF⟩ := factsX (EV := evX "function" (He.ga K "TooLong")) (P := PySem.Challenge.rw_stopglass_k55_too_long.prog) (w := w) (T := tb) (rows := rows) (exq X G c ce) X G c cc (fun f hf => List.mem_append_left _ hf) (fun i r hr => (List.getElem?_append_left (by rw [List.length_map]; exact (List.getElem?_eq_some_iff.mp hr).1)).trans (by rw [List.getElem?_map, hr]; rfl)) rfl row_ok binds hr hmg
    exact ⟨fd, _, hb, hF⟩
end K55

set_option Elab.async false
set_option linter.all false
set_option maxRecDepth 100000
set_option maxHeartbeats 4000000
/-! ## plain data: rules for the evaluator -/
namespace Mn
open PySem L2
theorem eqD_of {a b : D} {x y : PyData} (ha : a.py = some x) (hb : b.py = some y) (sa : SeqAt.shaped x = true) (sb : SeqAt.shaped y = true) : eqD a b = some (PyData.eqv x y) := by
  unfold eqD
  rw [ha, hb]
  simp only [sa, sb, and_self, if_true]
theorem sh_int (i : Int) : SeqAt.shaped (.int i) = true := by
  unfold SeqAt.shaped
  simp [PyData.canLay0, PyData.depth]
theorem eqD_int (a b : Int) : eqD (.int a) (.int b) = some (a == b) := by
  rw [eqD_of (x := .int a) (y := .int b) (by simp only [D.py]) (by simp only [D.py]) (sh_int a) (sh_int b)]
  simp only [PyData.eqv]
theorem sh_str {x : Str} (h : PyData.strOk x = true) : SeqAt.shaped (.str x) = true := by
  unfold SeqAt.shaped
  simp [PyData.canLay0, PyData.depth, h]
theorem eqD_str {a b : Str} (ha : PyData.strOk a = true) (hb : PyData.strOk b = true) : eqD (.str a) (.str b) = some (a == b) := by
  rw [eqD_of (x := .str a) (y := .str b) (by simp only [D.py]) (by simp only [D.py]) (sh_str ha) (sh_str hb)]
  simp only [PyData.eqv]
theorem eqD_non_str {b : Str} (hb : PyData.strOk b = true) : eqD .non (.str b) = some false := by
  rw [eqD_of (x := .none) (y := .str b) (by simp only [D.py]) (by simp only [D.py]) (by decide +kernel) (sh_str hb)]
  simp only [PyData.eqv]
mutual
/-- plain data: how deep it is, none else -/
def D.dp : D → Option Nat
  | .non => some 0
  | .bl _ => some 0
  | .int _ => some 0
  | .str x => if PyData.strOk x = true then some 0 else none
  | .tup ds => match dps ds with
    | some n => some (n + 1)
    | none => none
  | .lst ds => match dps ds with
    | some n => some (n + 1)
    | none => none
  | .dic _ _ => none
  | .ptr _ => none
def dps : List D → Option Nat
  | [] => some 0
  | d :: r => match d.dp, dps r with
    | some a, some b => some (max a b)
    | _, _ => none
end
mutual
theorem dp_ok : ∀ (d : D) {n : Nat}, d.dp = some n → ∃ x, d.py = some x ∧ x.canLay0 = true ∧ x.depth = n ∧ PyData.eqv x x = true
  | .non, n, h => by simp only [D.dp] at h; cases h; exact ⟨.none, by simp only [D.py], by simp only [PyData.canLay0], by simp only [PyData.depth], by simp only [PyData.eqv]⟩
  | .bl b, n, h => by simp only [D.dp] at h; cases h; exact ⟨.bool b, by simp only [D.py], by simp only [PyData.canLay0], by simp only [PyData.depth], by simp [PyData.eqv]⟩
  | .int i, n, h => by simp only [D.dp] at h; cases h; exact ⟨.int i, by simp only [D.py], by simp only [PyData.canLay0], by simp only [PyData.depth], by simp [PyData.eqv]⟩
  | .str x, n, h => by
    simp only [D.dp] at h
    split at h
    · rename_i hx
      cases h
      exact ⟨.str x, by simp only [D.py], by simp only [PyData.canLay0, hx], by simp only [PyData.depth], by simp [PyData.eqv]⟩
    · cases h
  | .tup ds, n, h => by
    simp only [D.dp] at h
    split at h
    · rename_i k hk
      cases h
      obtain ⟨xs, h1, h2, h3, h4⟩ := dps_ok ds hk
      exact ⟨.tuple xs, by simp only [D.py, h1], by simp only [PyData.canLay0, h2], by simp only [PyData.depth, h3], by simp only [PyData.eqv, h4]⟩
    · cases h
  | .lst ds, n, h => by
    simp only [D.dp] at h
    split at h
    · rename_i k hk
      cases h
      obtain ⟨xs, h1, h2, h3, h4⟩ := dps_ok ds hk
      exact ⟨.list xs, by simp only [D.py, h1], by simp only [PyData.canLay0, h2], by simp only [PyData.depth, h3], by simp only [PyData.eqv, h4]⟩
    · cases h
  | .dic _ _, n, h => by simp only [D.dp] at h; cases h
  | .ptr _, n, h => by simp only [D.dp] at h; cases h
theorem dps_ok : ∀ (ds : List D) {n : Nat}, dps ds = some n → ∃ xs, pys ds = some xs ∧ PyData.canLayAll0 xs = true ∧ PyData.depthAll xs = n ∧ PyData.eqvAll xs xs = true
  | [], n, h => by simp only [dps] at h; cases h; exact ⟨[], by simp only [pys], by simp only [PyData.canLayAll0], by simp only [PyData.depthAll], by simp only [PyData.eqvAll]⟩
  | d :: r, n, h => by
    simp only [dps] at h
    split at h
    · rename_i a b ha hb
      cases h
      obtain ⟨x, h1, h2, h3, h4⟩ := dp_ok d ha
      obtain ⟨xs, g1, g2, g3, g4⟩ := dps_ok r hb
      exact ⟨x :: xs, by simp only [pys, h1, g1], by simp only [PyData.canLayAll0, h2, g2, Bool.and_self], by simp only [PyData.depthAll, h3, g3], by simp only [PyData.eqvAll, h4, g4, Bool.and_self]⟩
    · cases h
end
theorem eqD_self {d : D} {n : Nat} (h : d.dp = some n) (hn : n ≤ 64) : eqD d d = some true := by
  obtain ⟨x, h1, h2, h3, h4⟩ := dp_ok d h
  have s : SeqAt.shaped x = true := by
    unfold SeqAt.shaped
    rw [h2, h3]
    simp [hn]
  rw [eqD_of h1 h1 s s, h4]
theorem dps_of {ds : List D} {n : Nat} (h : ∀ d ∈ ds, ∃ k, d.dp = some k ∧ k ≤ n) : ∃ k, dps ds = some k ∧ k ≤ n := by
  induction ds with
  | nil => exact ⟨0, by simp only [dps], Nat.zero_le _⟩
  | cons d r ih =>
    obtain ⟨a, ha, ha2⟩ := h d List.mem_cons_self
    obtain ⟨b, hb, hb2⟩ := ih fun z hz => h z (List.mem_cons_of_mem _ hz)
    exact ⟨max a b, by simp only [dps, ha, hb], Nat.max_le.mpr ⟨ha2, hb2⟩⟩
/-! ### places -/
theorem atI_end {α : Type} (xs : List α) (x : α) : atI (xs ++ [x]) (-1) = some x := by
  unfold atI ixN
  rw [if_neg (by decide), if_pos (by rw [List.length_append]; simp only [List.length_cons, List.length_nil]; omega)]
  simp only [Option.bind_some, List.length_append, List.length_cons, List.length_nil]
  have e : ((-1 : Int) + ((xs.length + (0 + 1) : Nat) : Int)).toNat = xs.length := by omega
  rw [e]
  simp
theorem cut_last (xs : List D) (x : D) : cutD (xs ++ [x]) none (some (-1)) = xs := by
  unfold cutD
  have e1 : HT.sIx (xs ++ [x]).length 0 none = 0 := rfl
  have e2 : HT.sIx (xs ++ [x]).length (xs ++ [x]).length (some (-1)) = xs.length := by
    unfold HT.sIx
    simp only [List.length_append, List.length_cons, List.length_nil]
    rw [if_pos (by decide)]
    omega
  rw [e1, e2]
  simp
theorem run_ret {fns : List Fn} {m n f : Nat} {ds : List D} {mu mu' : List (Bool × D)} {fn : Fn} {r : Bool × D} (h : fns[f]? = some fn) (hl : ds.length = fn.np) (e : ∃ s, exSs (run fns m n) m fn.body ⟨startF fn.N.length ds, mu⟩ = some (.ret r, s) ∧ s.mu = mu') : run fns m (n + 1) f ds mu = some (.ok r, mu') := by
  obtain ⟨s, e, hm⟩ := e
  simp only [run, h, hl, if_true, e, hm]
theorem run_exc {fns : List Fn} {m n f : Nat} {ds : List D} {mu mu' : List (Bool × D)} {fn : Fn} {d : D} (h : fns[f]? = some fn) (hl : ds.length = fn.np) (e : ∃ s, exSs (run fns m n) m fn.body ⟨startF fn.N.length ds, mu⟩ = some (.exc d, s) ∧ s.mu = mu') : run fns m (n + 1) f ds mu = some (.exc d, mu') := by
  obtain ⟨s, e, hm⟩ := e
  simp only [run, h, hl, if_true, e, hm]
theorem refD_tup (a : List D) : refD (.tup a) = .val (.tup a) := rfl
theorem refD_lst (a : List D) : refD (.lst a) = .val (.lst a) := rfl
theorem refD_str (a : Str) : refD (.str a) = .val (.str a) := rfl
theorem refD_int (a : Int) : refD (.int a) = .val (.int a) := rfl
theorem refD_bl (a : Bool) : refD (.bl a) = .val (.bl a) := rfl
theorem refD_non : refD .non = .val .non := rfl
theorem refD_dic (k : Kd) (a : List (D × D)) : refD (.dic k a) = .val (.dic k a) := rfl
theorem forF_nil {t : Tg} {b : Fm → Option (Flow × Fm)} {s : Fm} : forF t b [] s = some (.next, s) := rfl
theorem forF_cons {t : Tg} {b : Fm → Option (Flow × Fm)} {d : D} {r : List D} {s s2 : Fm} {sl : List (Option (Bool × D))} (h : asgT t d s.sl = some sl) (hb : b ⟨sl, s.mu⟩ = some (.next, s2)) : forF t b (d :: r) s = forF t b r s2 := by
  simp only [forF, h, hb]
theorem forF_exc {t : Tg} {b : Fm → Option (Flow × Fm)} {d x : D} {r : List D} {s s2 : Fm} {sl : List (Option (Bool × D))} (h : asgT t d s.sl = some sl) (hb : b ⟨sl, s.mu⟩ = some (.exc x, s2)) : forF t b (d :: r) s = some (.exc x, s2) := by
  simp only [forF, h, hb]
theorem whilF_stop {c : Fm → Option (Bool × Fm)} {b : Fm → Option (Flow × Fm)} {n : Nat} {s s' : Fm} (h : c s = some (false, s')) : whilF c b (n + 1) s = some (.next, s') := by
  simp only [whilF, h]
theorem whilF_exc {c : Fm → Option (Bool × Fm)} {b : Fm → Option (Flow × Fm)} {n : Nat} {s s1 s2 : Fm} {x : D} (h : c s = some (true, s1)) (hb : b s1 = some (.exc x, s2)) : whilF c b (n + 1) s = some (.exc x, s2) := by
  simp only [whilF, h, hb]
theorem whilF_go {c : Fm → Option (Bool × Fm)} {b : Fm → Option (Flow × Fm)} {n : Nat} {s s1 s2 : Fm} (h : c s = some (true, s1)) (hb : b s1 = some (.next, s2)) : whilF c b (n + 1) s = whilF c b n s2 := by
  simp only [whilF, h, hb]
end Mn

set_option Elab.async false
set_option linter.all false
set_option maxRecDepth 100000
set_option maxHeartbeats 4000000
namespace K55
open PySem L2 Mn
/-- a function: folded, outs, calls, whom it calls -/
structure F4 where
  fo : Bool
  ex : Nat
  ca : Nat
  inner : Str
abbrev outR (k : Nat) : D := .tup [.str "out", .int k]
abbrev callR (c : Str) : D := .tup [.str "call", .str "x", .str c, .tup []]
abbrev backR : D := .tup [.str "back", .str "x"]
def rowsOf (f : F4) : List D := (List.range f.ex).map outR ++ (List.replicate f.ca (callR f.inner) ++ [backR])
abbrev fnD (nm : Str) (f : F4) : D := .tup [.str nm, .bl f.fo, .tup [], .tup (rowsOf f)]
structure Pg where
  l : F4
  m : F4
  t : F4
def fBeh : F4 := ⟨false, 0, 0, ""⟩
def Pg.ds (p : Pg) : List D := [fnD "low" p.l, fnD "mid" p.m, fnD "top" p.t, fnD "behind" fBeh]
abbrev Pg.d (p : Pg) : D := .lst p.ds
inductive Nm where | low | mid | top
  deriving DecidableEq
def Nm.s : Nm → Str
  | .low => "low" | .mid => "mid" | .top => "top"
def Nm.i : Nm → Nat
  | .low => 0 | .mid => 1 | .top => 2
def Pg.f (p : Pg) : Nm → F4
  | .low => p.l | .mid => p.m | .top => p.t
abbrev fns : List Fn := tb.fns
theorem place (p : Pg) (nm : Nm) (m n : Nat) (mu : List (Bool × D)) : run fns m (n + 1) 4 [p.d, .str nm.s] mu = some (.ok (false, .int nm.i), mu) := by
  cases nm <;> kernel_rfl
abbrev stD (nm : Nm) (i : Nat) : D := .tup [.str nm.s, .int i]
theorem ix_chain (cs : List D) (x : D) : ixD (.tup (cs ++ [x])) (.int (-1)) = some x := by
  simp only [ixD, atI_end]
theorem ix_pg (p : Pg) (nm : Nm) : ixD p.d (.int nm.i) = some (fnD nm.s (p.f nm)) := by
  cases nm <;> rfl
theorem ix_fn1 (nm : Str) (f : F4) : ixD (fnD nm f) (.int 1) = some (.bl f.fo) := rfl
theorem ix_fn3 (nm : Str) (f : F4) : ixD (fnD nm f) (.int 3) = some (.tup (rowsOf f)) := rfl
theorem ix_st0 (nm : Nm) (i : Nat) : ixD (stD nm i) (.int 0) = some (.str nm.s) := rfl
theorem ix_st1 (nm : Nm) (i : Nat) : ixD (stD nm i) (.int 1) = some (.int i) := rfl
theorem row_at (p : Pg) (cs : List D) (nm : Nm) (i : Nat) (r : D) (h : (rowsOf (p.f nm))[i]? = some r) (m n : Nat) (mu : List (Bool × D)) :
    run fns m (n + 2) 5 [p.d, .tup (cs ++ [stD nm i])] mu = some (.ok (false, r), mu) := by
  refine run_ret (fn := f_row_at) rfl rfl ?_
  have e : ixD (.tup (rowsOf (p.f nm))) (.int i) = some r := atI_nat h
  simp only [f_row_at, exSs, exS, evM, evT, ev, evs, evRs, evo, evAnd, evOr, asRef, valR, refD, truR, truD, Fm.rd, Fm.wr, rds, startF, bltD, List.length_cons, List.length_nil, List.map_cons, List.map_nil, List.replicate, List.cons_append, List.nil_append, List.getElem?_cons_zero, List.getElem?_cons_succ, List.set_cons_zero, List.set_cons_succ, Nat.sub_self, Bool.false_eq_true, if_false, if_true, Nat.reduceAdd, Nat.reduceLT, Nat.reduceLeDiff, reduceIte, Nat.zero_add, ix_chain, ix_st0, ix_st1, place, ix_pg, ix_fn3, e]
  exact ⟨_, rfl, rfl⟩
theorem moved (cs : List D) (nm : Nm) (i j : Nat) (hl : cs.length ≤ 8) (m n : Nat) (mu : List (Bool × D)) :
    run fns m (n + 1) 6 [.tup (cs ++ [stD nm i]), .int j] mu = some (.ok (false, .tup (cs ++ [stD nm j])), mu) := by
  refine run_ret (fn := f_moved) rfl rfl ?_
  have e : cs.length + 1 ≤ LIM := by unfold LIM; omega
  have e1 : 1 ≤ LIM := by decide
  have e2 : 2 ≤ LIM := by decide
  simp only [f_moved, exSs, exS, evM, evT, ev, evs, evRs, evo, evAnd, evOr, asRef, valR, refD, truR, truD, Fm.rd, Fm.wr, rds, startF, bltD, List.length_cons, List.length_nil, List.map_cons, List.map_nil, List.replicate, List.cons_append, List.nil_append, List.getElem?_cons_zero, List.getElem?_cons_succ, List.set_cons_zero, List.set_cons_succ, Nat.sub_self, Bool.false_eq_true, if_false, if_true, Nat.reduceAdd, Nat.reduceLT, Nat.reduceLeDiff, reduceIte, Nat.zero_add, ix_chain, ix_st0, ix_st1, Int.reduceNeg, slD, cut_last, bop, e, e1, e2]
  exact ⟨_, rfl, rfl⟩
theorem cmp_lt (a b : Int) : cmpD .Lt (.int a) (.int b) = some (decide (a < b)) := rfl
theorem cmp_gt (a b : Int) : cmpD .Gt (.int a) (.int b) = some (decide (b < a)) := rfl
theorem cmp_eq (a b : Int) : cmpD .Eq (.int a) (.int b) = some (a == b) := eqD_int a b
theorem r0_out (k : Nat) : ixD (outR k) (.int 0) = some (.str "out") := rfl
theorem r0_call (c : Str) : ixD (callR c) (.int 0) = some (.str "call") := rfl
theorem r2_call (c : Str) : ixD (callR c) (.int 2) = some (.str c) := rfl
theorem r0_back : ixD backR (.int 0) = some (.str "back") := rfl
theorem ne_out_call : cmpD .Eq (.str "out") (.str "call") = some false := by decide +kernel
theorem ne_out_back : cmpD .Eq (.str "out") (.str "back") = some false := by decide +kernel
theorem eq_call : cmpD .Eq (.str "call") (.str "call") = some true := by decide +kernel
theorem nn_call : cmpD .NotEq (.str "call") (.str "call") = some false := by decide +kernel
theorem eq_back : cmpD .Eq (.str "back") (.str "back") = some true := by decide +kernel
theorem ne_back_call : cmpD .Eq (.str "back") (.str "call") = some false := by decide +kernel
theorem ne_call_back : cmpD .Eq (.str "call") (.str "back") = some false := by decide +kernel
/-- in_place at a call -/
theorem in_place (p : Pg) (cs : List D) (nm y : Nm) (i : Nat) (h : (rowsOf (p.f nm))[i]? = some (callR y.s)) (m n : Nat) (mu : List (Bool × D)) :
    run fns m (n + 3) 7 [p.d, .tup (cs ++ [stD nm i])] mu = some (.ok (false, .bl (decide (cs.length < 2) && ((p.f y).fo && decide (y.i < nm.i)))), mu) := by
  refine run_ret (fn := f_in_place) rfl rfl ?_
  by_cases hc : cs.length < 2
  · have e1 : cmpD .GtE (.int ((cs.length + 1 : Nat) : Int)) (.int 3) = some false := by
      simp only [cmpD]
      congr 1
      exact decide_eq_false (by omega)
    cases hf : (p.f y).fo with
    | true =>
      have e2 : decide ((y.i : Int) < nm.i) = decide (y.i < nm.i) := by simp only [Int.ofNat_lt]
      cases hy : decide (y.i < nm.i) <;>
      · simp only [f_in_place, exSs, exS, evM, evT, ev, evs, evRs, evo, evAnd, evOr, asRef, valR, refD, truR, truD, Fm.rd, Fm.wr, rds, startF, bltD, List.length_cons, List.length_nil, List.map_cons, List.map_nil, List.replicate, List.cons_append, List.nil_append, List.getElem?_cons_zero, List.getElem?_cons_succ, List.set_cons_zero, List.set_cons_succ, Nat.sub_self, Bool.false_eq_true, if_false, if_true, Nat.reduceAdd, Nat.reduceLT, Nat.reduceLeDiff, reduceIte, Nat.zero_add, ix_chain, ix_st0, ix_st1, Int.reduceNeg, row_at _ _ _ _ _ h, r0_call, nn_call, List.length_append, e1, r2_call, place, ix_pg, ix_fn1, hf, cmp_lt, e2, hy, hc, decide_true, Bool.and_true, Bool.and_false]
        exact ⟨_, rfl, rfl⟩
    | false =>
      simp only [f_in_place, exSs, exS, evM, evT, ev, evs, evRs, evo, evAnd, evOr, asRef, valR, refD, truR, truD, Fm.rd, Fm.wr, rds, startF, bltD, List.length_cons, List.length_nil, List.map_cons, List.map_nil, List.replicate, List.cons_append, List.nil_append, List.getElem?_cons_zero, List.getElem?_cons_succ, List.set_cons_zero, List.set_cons_succ, Nat.sub_self, Bool.false_eq_true, if_false, if_true, Nat.reduceAdd, Nat.reduceLT, Nat.reduceLeDiff, reduceIte, Nat.zero_add, ix_chain, ix_st0, ix_st1, Int.reduceNeg, row_at _ _ _ _ _ h, r0_call, nn_call, List.length_append, e1, r2_call, place, ix_pg, ix_fn1, hf, Bool.false_and, Bool.and_false]
      exact ⟨_, rfl, rfl⟩
  · have e1 : cmpD .GtE (.int ((cs.length + 1 : Nat) : Int)) (.int 3) = some true := by
      simp only [cmpD]
      congr 1
      exact decide_eq_true (by omega)
    simp only [f_in_place, exSs, exS, evM, evT, ev, evs, evRs, evo, evAnd, evOr, asRef, valR, refD, truR, truD, Fm.rd, Fm.wr, rds, startF, bltD, List.length_cons, List.length_nil, List.map_cons, List.map_nil, List.replicate, List.cons_append, List.nil_append, List.getElem?_cons_zero, List.getElem?_cons_succ, List.set_cons_zero, List.set_cons_succ, Nat.sub_self, Bool.false_eq_true, if_false, if_true, Nat.reduceAdd, Nat.reduceLT, Nat.reduceLeDiff, reduceIte, Nat.zero_add, ix_chain, ix_st0, ix_st1, Int.reduceNeg, row_at _ _ _ _ _ h, r0_call, nn_call, List.length_append, e1, r2_call, place, ix_pg, ix_fn1, hc, decide_false, Bool.false_and]
    exact ⟨_, rfl, rfl⟩
/-! ### the ways of straight rows -/
def F4.n (f : F4) : Nat := f.ex + f.ca + 1
def wayL (f : F4) : List D := (List.range (f.ex + f.ca)).map (fun i => .tup [.int ((i + 1 : Nat) : Int)]) ++ [.tup []]
abbrev wayD (f : F4) : D := .lst (wayL f)
def flK (p : Pg) : List (D × D) := [(.str "low", wayD p.l), (.str "mid", wayD p.m), (.str "top", wayD p.t), (.str "behind", wayD fBeh)]
abbrev flD (p : Pg) : D := .dic .a (flK p)
theorem ix_fl (p : Pg) (nm : Nm) : ixD (flD p) (.str nm.s) = some (wayD (p.f nm)) := by
  cases nm <;> kernel_rfl
theorem ix_way (f : F4) (i : Nat) (h : i < f.ex + f.ca) : ixD (wayD f) (.int i) = some (.tup [.int ((i + 1 : Nat) : Int)]) := by
  refine atI_nat ?_
  unfold wayL
  rw [List.getElem?_append_left (by simpa using h), List.getElem?_map, List.getElem?_range h]
  rfl
theorem behind_row (p : Pg) (cs : List D) (nm : Nm) (i : Nat) (hl : cs.length ≤ 8) (h : i < (p.f nm).ex + (p.f nm).ca) (m n : Nat) (mu : List (Bool × D)) :
    run fns m (n + 2) 8 [flD p, .tup (cs ++ [stD nm i])] mu = some (.ok (true, .lst [.tup (cs ++ [stD nm (i + 1)])]), mu) := by
  refine run_ret (fn := f_behind_row) rfl rfl ?_
  have e1 : 0 < LIM := by decide
  simp only [f_behind_row, exSs, exS, evM, evT, ev, evs, evRs, evo, evAnd, evOr, asRef, valR, refD, truR, truD, Fm.rd, Fm.wr, rds, startF, bltD, List.length_cons, List.length_nil, List.map_cons, List.map_nil, List.replicate, List.cons_append, List.nil_append, List.getElem?_cons_zero, List.getElem?_cons_succ, List.set_cons_zero, List.set_cons_succ, Nat.sub_self, Bool.false_eq_true, if_false, if_true, Nat.reduceAdd, Nat.reduceLT, Nat.reduceLeDiff, reduceIte, Nat.zero_add, ix_chain, ix_st0, ix_st1, Int.reduceNeg, ix_fl, ix_way _ _ h, evI, lcF, wipeF, asgT, evTs, moved _ _ _ _ hl, bring, e1]
  exact ⟨_, rfl, rfl⟩
abbrev chD (cs : List D) (nm : Nm) (i : Nat) : D := .tup (cs ++ [stD nm i])
abbrev stn (c : D) (b : Bool) : D := .tup [c, .bl b]
theorem led_out (p : Pg) (cs : List D) (nm : Nm) (i k : Nat) (b : Bool) (hl : cs.length ≤ 8) (h : (rowsOf (p.f nm))[i]? = some (outR k)) (h2 : i < (p.f nm).ex + (p.f nm).ca) (m n : Nat) (mu : List (Bool × D)) :
    run fns m (n + 4) 9 [p.d, flD p, chD cs nm i, .bl b] mu = some (.ok (true, .lst [stn (chD cs nm (i + 1)) false]), mu) := by
  refine run_ret (fn := f_led_to) rfl rfl ?_
  have e1 : 0 < LIM := by decide
  have e2 : 2 ≤ LIM := by decide
  simp only [f_led_to, exSs, exS, evM, evT, ev, evs, evRs, evo, evAnd, evOr, asRef, valR, refD, truR, truD, Fm.rd, Fm.wr, rds, startF, bltD, List.length_cons, List.length_nil, List.map_cons, List.map_nil, List.replicate, List.cons_append, List.nil_append, List.getElem?_cons_zero, List.getElem?_cons_succ, List.set_cons_zero, List.set_cons_succ, Nat.sub_self, Bool.false_eq_true, if_false, if_true, Nat.reduceAdd, Nat.reduceLT, Nat.reduceLeDiff, reduceIte, Nat.zero_add, row_at _ _ _ _ _ h, r0_out, ne_out_call, ne_out_back, behind_row _ _ _ _ hl h2, evI, lcF, wipeF, asgT, evTs, bring, e1, e2]
  exact ⟨_, rfl, rfl⟩
theorem led_go (p : Pg) (cs : List D) (nm : Nm) (y : Str) (i : Nat) (hl : cs.length ≤ 8) (h : (rowsOf (p.f nm))[i]? = some (callR y)) (h2 : i < (p.f nm).ex + (p.f nm).ca) (m n : Nat) (mu : List (Bool × D)) :
    run fns m (n + 4) 9 [p.d, flD p, chD cs nm i, .bl true] mu = some (.ok (true, .lst [stn (chD cs nm (i + 1)) false]), mu) := by
  refine run_ret (fn := f_led_to) rfl rfl ?_
  have e1 : 0 < LIM := by decide
  have e2 : 2 ≤ LIM := by decide
  simp only [f_led_to, exSs, exS, evM, evT, ev, evs, evRs, evo, evAnd, evOr, asRef, valR, refD, truR, truD, Fm.rd, Fm.wr, rds, startF, bltD, List.length_cons, List.length_nil, List.map_cons, List.map_nil, List.replicate, List.cons_append, List.nil_append, List.getElem?_cons_zero, List.getElem?_cons_succ, List.set_cons_zero, List.set_cons_succ, Nat.sub_self, Bool.false_eq_true, if_false, if_true, Nat.reduceAdd, Nat.reduceLT, Nat.reduceLeDiff, reduceIte, Nat.zero_add, row_at _ _ _ _ _ h, r0_call, eq_call, ne_call_back, Bool.not_true, behind_row _ _ _ _ hl h2, evI, lcF, wipeF, asgT, evTs, bring, e1, e2]
  exact ⟨_, rfl, rfl⟩
theorem led_in (p : Pg) (cs : List D) (nm y : Nm) (i : Nat) (hl : cs.length ≤ 8) (h : (rowsOf (p.f nm))[i]? = some (callR y.s)) (h2 : (decide (cs.length < 2) && ((p.f y).fo && decide (y.i < nm.i))) = true) (m n : Nat) (mu : List (Bool × D)) :
    run fns m (n + 4) 9 [p.d, flD p, chD cs nm i, .bl false] mu = some (.ok (true, .lst [stn (.tup (cs ++ [stD nm i] ++ [stD y 0])) false]), mu) := by
  refine run_ret (fn := f_led_to) rfl rfl ?_
  have e1 : 1 ≤ LIM := by decide
  have e2 : 2 ≤ LIM := by decide
  have e3 : (cs ++ [stD nm i]).length + 1 ≤ LIM := by unfold LIM; simp only [List.length_append, List.length_cons, List.length_nil]; omega
  simp only [f_led_to, exSs, exS, evM, evT, ev, evs, evRs, evo, evAnd, evOr, asRef, valR, refD, truR, truD, Fm.rd, Fm.wr, rds, startF, bltD, List.length_cons, List.length_nil, List.map_cons, List.map_nil, List.replicate, List.cons_append, List.nil_append, List.getElem?_cons_zero, List.getElem?_cons_succ, List.set_cons_zero, List.set_cons_succ, Nat.sub_self, Bool.false_eq_true, if_false, if_true, Nat.reduceAdd, Nat.reduceLT, Nat.reduceLeDiff, reduceIte, Nat.zero_add, row_at _ _ _ _ _ h, r0_call, r2_call, eq_call, ne_call_back, Bool.not_false, in_place _ _ _ _ _ h, h2, bop, e1, e2, e3]
  exact ⟨_, rfl, rfl⟩
theorem led_wait (p : Pg) (cs : List D) (nm y : Nm) (i : Nat) (hl : cs.length ≤ 8) (h : (rowsOf (p.f nm))[i]? = some (callR y.s)) (h2 : (decide (cs.length < 2) && ((p.f y).fo && decide (y.i < nm.i))) = false) (m n : Nat) (mu : List (Bool × D)) :
    run fns m (n + 4) 9 [p.d, flD p, chD cs nm i, .bl false] mu = some (.ok (true, .lst [stn (chD cs nm i) true]), mu) := by
  refine run_ret (fn := f_led_to) rfl rfl ?_
  have e1 : 1 ≤ LIM := by decide
  have e2 : 2 ≤ LIM := by decide
  simp only [f_led_to, exSs, exS, evM, evT, ev, evs, evRs, evo, evAnd, evOr, asRef, valR, refD, truR, truD, Fm.rd, Fm.wr, rds, startF, bltD, List.length_cons, List.length_nil, List.map_cons, List.map_nil, List.replicate, List.cons_append, List.nil_append, List.getElem?_cons_zero, List.getElem?_cons_succ, List.set_cons_zero, List.set_cons_succ, Nat.sub_self, Bool.false_eq_true, if_false, if_true, Nat.reduceAdd, Nat.reduceLT, Nat.reduceLeDiff, reduceIte, Nat.zero_add, row_at _ _ _ _ _ h, r0_call, r2_call, eq_call, ne_call_back, Bool.not_false, in_place _ _ _ _ _ h, h2, bop, e1, e2]
  exact ⟨_, rfl, rfl⟩
theorem len_ne1 (n : Nat) : cmpD .Eq (.int ((n + 1 + 1 : Nat) : Int)) (.int 1) = some false := by
  rw [cmp_eq]
  congr 1
theorem led_end (p : Pg) (nm : Nm) (i : Nat) (b : Bool) (h : (rowsOf (p.f nm))[i]? = some backR) (m n : Nat) (mu : List (Bool × D)) :
    run fns m (n + 4) 9 [p.d, flD p, .tup [stD nm i], .bl b] mu = some (.ok (true, .lst []), mu) := by
  refine run_ret (fn := f_led_to) rfl rfl ?_
  have h' := row_at p [] nm i _ h
  simp only [List.nil_append] at h'
  have e1 : cmpD .Eq (.int ((1 : Nat) : Int)) (.int 1) = some true := by decide +kernel
  have e2 : 0 ≤ LIM := by decide
  simp only [f_led_to, exSs, exS, evM, evT, ev, evs, evRs, evo, evAnd, evOr, asRef, valR, refD, truR, truD, Fm.rd, Fm.wr, rds, startF, bltD, List.length_cons, List.length_nil, List.map_cons, List.map_nil, List.replicate, List.cons_append, List.nil_append, List.getElem?_cons_zero, List.getElem?_cons_succ, List.set_cons_zero, List.set_cons_succ, Nat.sub_self, Bool.false_eq_true, if_false, if_true, Nat.reduceAdd, Nat.reduceLT, Nat.reduceLeDiff, reduceIte, Nat.zero_add, h', r0_back, ne_back_call, eq_back, e1, e2]
  exact ⟨_, rfl, rfl⟩
theorem led_up (p : Pg) (cs : List D) (nm y : Nm) (i j : Nat) (b : Bool) (hl : cs.length ≤ 7) (h : (rowsOf (p.f y))[j]? = some backR) (h2 : i < (p.f nm).ex + (p.f nm).ca) (m n : Nat) (mu : List (Bool × D)) :
    run fns m (n + 4) 9 [p.d, flD p, .tup (cs ++ [stD nm i] ++ [stD y j]), .bl b] mu = some (.ok (true, .lst [stn (chD cs nm (i + 1)) false]), mu) := by
  refine run_ret (fn := f_led_to) rfl rfl ?_
  have e1 : 0 < LIM := by decide
  have e2 : 2 ≤ LIM := by decide
  have e3 : (cs ++ [stD nm i] ++ [stD y j]).length = cs.length + 1 + 1 := by simp only [List.length_append, List.length_cons, List.length_nil]
  simp only [f_led_to, exSs, exS, evM, evT, ev, evs, evRs, evo, evAnd, evOr, asRef, valR, refD, truR, truD, Fm.rd, Fm.wr, rds, startF, bltD, List.length_cons, List.length_nil, List.map_cons, List.map_nil, List.replicate, List.cons_append, List.nil_append, List.getElem?_cons_zero, List.getElem?_cons_succ, List.set_cons_zero, List.set_cons_succ, Nat.sub_self, Bool.false_eq_true, if_false, if_true, Nat.reduceAdd, Nat.reduceLT, Nat.reduceLeDiff, reduceIte, Nat.zero_add, row_at _ _ _ _ _ h, r0_back, ne_back_call, eq_back, e3, len_ne1, Int.reduceNeg, slD, cut_last, behind_row _ _ _ _ (show cs.length ≤ 8 by omega) h2, evI, lcF, wipeF, asgT, evTs, bring, e1, e2]
  exact ⟨_, rfl, rfl⟩
end K55

set_option Elab.async false
set_option linter.all false
set_option maxRecDepth 100000
set_option maxHeartbeats 4000000
namespace K55
open PySem L2 Mn
/-! ### openers, closers, landing, ways of straight rows -/
/-- a row that opens and closes nothing -/
structure Pl (r : D) : Prop where
  ex : ∃ s, ixD r (.int 0) = some (.str s) ∧ cmpD .Eq (.str s) (.str "if") = some false ∧ cmpD .Eq (.str s) (.str "while") = some false ∧ cmpD .Eq (.str s) (.str "else") = some false ∧ cmpD .Eq (.str s) (.str "end") = some false
  np : ∀ j, r ≠ .ptr j
theorem pl_out (k : Nat) : Pl (outR k) := ⟨⟨"out", rfl, by decide +kernel, by decide +kernel, by decide +kernel, by decide +kernel⟩, fun _ h => by cases h⟩
theorem pl_call (y : Str) : Pl (callR y) := ⟨⟨"call", rfl, by decide +kernel, by decide +kernel, by decide +kernel, by decide +kernel⟩, fun _ h => by cases h⟩
theorem pl_back : Pl backR := ⟨⟨"back", rfl, by decide +kernel, by decide +kernel, by decide +kernel, by decide +kernel⟩, fun _ h => by cases h⟩
theorem pl_rows (f : F4) : ∀ r ∈ rowsOf f, Pl r := by
  intro r hr
  unfold rowsOf at hr
  simp only [List.mem_append, List.mem_map, List.mem_replicate, List.mem_cons, List.not_mem_nil, or_false] at hr
  rcases hr with ⟨k, _, rfl⟩ | ⟨_, rfl⟩ | rfl
  · exact pl_out k
  · exact pl_call _
  · exact pl_back
theorem refD_pl {r : D} (h : ∀ j, r ≠ .ptr j) : refD r = .val r := by
  cases r <;> first | rfl | exact absurd rfl (h _)
def enumD (k : Nat) (l : List D) : List D := l.mapIdx fun i x => .tup [.int ((i + k : Nat) : Int), x]
theorem enumD_nil (k : Nat) : enumD k [] = [] := rfl
theorem enumD_cons (k : Nat) (x : D) (l : List D) : enumD k (x :: l) = .tup [.int (k : Int), x] :: enumD (k + 1) l := by
  unfold enumD
  rw [List.mapIdx_cons]
  simp only [Nat.zero_add]
  congr 2
  funext i y
  congr 4
  omega
theorem enumD_eq (l : List D) : (l.mapIdx fun i x => D.tup [.int (i : Nat), x]) = enumD 0 l := rfl
def opB : List S := match f_openers.body with
  | [_, _, .forr _ _ b, _] => b
  | _ => []
theorem op_loop (C : Nat → List D → List (Bool × D) → Option (Out × List (Bool × D))) (m : Nat) (R : D) (mu : List (Bool × D)) : ∀ (l : List D) (k : Nat), (∀ r ∈ l, Pl r) → ∀ x3 x4, ∃ y3 y4, forF (.tup (.cons (.name 3) (.cons (.name 4) .nil))) (exSs C m opB) (enumD k l) ⟨[some (false, R), some (true, .lst []), some (true, .dic .a []), x3, x4], mu⟩ = some (.next, ⟨[some (false, R), some (true, .lst []), some (true, .dic .a []), y3, y4], mu⟩) := by
  intro l
  induction l with
  | nil => intro k _ x3 x4; exact ⟨x3, x4, rfl⟩
  | cons r l ih =>
    intro k h x3 x4
    obtain ⟨⟨s, h0, h1, h2, h3, h4⟩, hp⟩ := h r List.mem_cons_self
    obtain ⟨y3, y4, e⟩ := ih (k + 1) (fun z hz => h z (List.mem_cons_of_mem _ hz)) (some (false, .int k)) (some (false, r))
    refine ⟨y3, y4, ?_⟩
    rw [enumD_cons, ← e]
    refine forF_cons (sl := [some (false, R), some (true, .lst []), some (true, .dic .a []), some (false, .int k), some (false, r)]) rfl ?_
    simp only [opB, f_openers, exSs, exS, evM, evT, ev, evs, evRs, evo, evAnd, evOr, asRef, valR, refD_tup, refD_str, refD_int, refD_lst, refD_dic, refD_bl, refD_non, truR, truD, Fm.rd, Fm.wr, rds, startF, bltD, List.length_cons, List.length_nil, List.map_cons, List.map_nil, List.replicate, List.cons_append, List.nil_append, List.getElem?_cons_zero, List.getElem?_cons_succ, List.set_cons_zero, List.set_cons_succ, Nat.sub_self, Bool.false_eq_true, if_false, if_true, Nat.reduceAdd, Nat.reduceLT, Nat.reduceLeDiff, reduceIte, Nat.zero_add, refD_pl hp, h0, h1, h2, h3, h4]
theorem openers (l : List D) (h : ∀ r ∈ l, Pl r) (m n : Nat) (mu : List (Bool × D)) : run fns m (n + 1) 0 [.tup l] mu = some (.ok (true, .dic .a []), mu) := by
  refine run_ret (fn := f_openers) rfl rfl ?_
  have e1 : 0 ≤ LIM := by decide
  obtain ⟨y3, y4, e⟩ := op_loop (run fns m n) m (.tup l) mu l 0 h none none
  have eb : f_openers.body = [.set 1 (.lst .nil), .set 2 (.dic0 .a), .forr (.tup (.cons (.name 3) (.cons (.name 4) .nil))) (.enum (.var 0)) opB, .ret (.var 2)] := rfl
  have en : f_openers.N.length = 5 := rfl
  simp only [eb, en, exSs, exS, evM, evT, ev, evs, evRs, evo, evAnd, evOr, asRef, valR, refD, truR, truD, Fm.rd, Fm.wr, rds, startF, bltD, List.length_cons, List.length_nil, List.map_cons, List.map_nil, List.replicate, List.cons_append, List.nil_append, List.getElem?_cons_zero, List.getElem?_cons_succ, List.set_cons_zero, List.set_cons_succ, Nat.sub_self, Bool.false_eq_true, if_false, if_true, Nat.reduceAdd, Nat.reduceLT, Nat.reduceLeDiff, reduceIte, Nat.zero_add, evI, enumD_eq, e1, e]
  exact ⟨_, rfl, rfl⟩
theorem closers (R : D) (hR : ∀ j, R ≠ .ptr j) (m n : Nat) (mu : List (Bool × D)) : run fns m (n + 1) 1 [R, .dic .a []] mu = some (.ok (false, .tup [.dic .a [], .dic .a []]), mu) := by
  refine run_ret (fn := f_closers) rfl rfl ?_
  have e1 : 2 ≤ LIM := by decide
  simp only [f_closers, exSs, exS, evM, evT, ev, evs, evRs, evo, evAnd, evOr, asRef, valR, refD, truR, truD, Fm.rd, Fm.wr, rds, startF, bltD, List.length_cons, List.length_nil, List.map_cons, List.map_nil, List.replicate, List.cons_append, List.nil_append, List.getElem?_cons_zero, List.getElem?_cons_succ, List.set_cons_zero, List.set_cons_succ, Nat.sub_self, Bool.false_eq_true, if_false, if_true, Nat.reduceAdd, Nat.reduceLT, Nat.reduceLeDiff, reduceIte, Nat.zero_add, evI, forF_nil, e1]
  exact ⟨_, rfl, rfl⟩
def laC : E := .or (.cons (.cmp .Eq (.ix (.ix (.var 0) (.var 1)) (.cst (.int 0))) (.cst (.str "else"))) (.cons (.cmp .Eq (.ix (.ix (.var 0) (.var 1)) (.cst (.int 0))) (.cst (.str "end"))) .nil))
def laB : List S := match f_landing.body with
  | [.whil _ b, _] => b
  | _ => []
theorem landing (l : List D) (i : Nat) (r : D) (h : l[i]? = some r) (hp : Pl r) (m n : Nat) (mu : List (Bool × D)) : run fns (m + 1) (n + 1) 2 [.tup l, .int i, .dic .a [], .dic .a []] mu = some (.ok (false, .int i), mu) := by
  refine run_ret (fn := f_landing) rfl rfl ?_
  obtain ⟨⟨s, h0, h1, h2, h3, h4⟩, hnp⟩ := hp
  have e : ixD (.tup l) (.int i) = some r := atI_nat h
  have eb : f_landing.body = [.whil laC laB, .ret (.var 1)] := rfl
  have en : f_landing.N.length = 5 := rfl
  have w := whilF_stop (n := m) (b := exSs (run fns (m + 1) n) (m + 1) laB) (c := evT (run fns (m + 1) n) laC) (s := ⟨[some (false, .tup l), some (false, .int i), some (false, .dic .a []), some (false, .dic .a []), none], mu⟩) (s' := ⟨[some (false, .tup l), some (false, .int i), some (false, .dic .a []), some (false, .dic .a []), none], mu⟩)
    (by simp only [laC, exSs, exS, evM, evT, ev, evs, evRs, evo, evAnd, evOr, asRef, valR, refD_tup, refD_str, refD_int, refD_lst, refD_dic, refD_bl, refD_non, truR, truD, Fm.rd, Fm.wr, rds, startF, bltD, List.length_cons, List.length_nil, List.map_cons, List.map_nil, List.replicate, List.cons_append, List.nil_append, List.getElem?_cons_zero, List.getElem?_cons_succ, List.set_cons_zero, List.set_cons_succ, Nat.sub_self, Bool.false_eq_true, if_false, if_true, Nat.reduceAdd, Nat.reduceLT, Nat.reduceLeDiff, reduceIte, Nat.zero_add, e, refD_pl hnp, h0, h3, h4])
  rw [eb, en]
  simp only [exSs, exS, startF, List.length_cons, List.length_nil, List.map_cons, List.map_nil, List.replicate, List.cons_append, List.nil_append, Nat.reduceAdd, Nat.reduceSub, Nat.sub_self, w]
  simp only [exSs, exS, evM, evT, ev, evs, evRs, evo, evAnd, evOr, asRef, valR, refD, truR, truD, Fm.rd, Fm.wr, rds, startF, bltD, List.length_cons, List.length_nil, List.map_cons, List.map_nil, List.replicate, List.cons_append, List.nil_append, List.getElem?_cons_zero, List.getElem?_cons_succ, List.set_cons_zero, List.set_cons_succ, Nat.sub_self, Bool.false_eq_true, if_false, if_true, Nat.reduceAdd, Nat.reduceLT, Nat.reduceLeDiff, reduceIte, Nat.zero_add]
  exact ⟨_, rfl, rfl⟩
/-! ### ways -/
theorem in_nil (k : Int) : cmpD .In (.int k) (.dic .a []) = some false := rfl
def wyB : List S := match f_ways.body with
  | [_, _, _, .forr _ _ b, _] => b
  | _ => []
theorem rows_len (f : F4) : (rowsOf f).length = f.ex + f.ca + 1 := by
  unfold rowsOf
  simp only [List.length_append, List.length_map, List.length_range, List.length_replicate, List.length_cons, List.length_nil]
  omega
theorem row_back (f : F4) : (rowsOf f)[f.ex + f.ca]? = some backR := by
  unfold rowsOf
  rw [List.getElem?_append_right (by simp), List.getElem?_append_right (by simp)]
  simp
theorem row_out (f : F4) (i : Nat) (h : i < f.ex) : (rowsOf f)[i]? = some (outR i) := by
  unfold rowsOf
  rw [List.getElem?_append_left (by simpa using h), List.getElem?_map, List.getElem?_range h]
  rfl
theorem row_call (f : F4) (i : Nat) (h1 : f.ex ≤ i) (h2 : i < f.ex + f.ca) : (rowsOf f)[i]? = some (callR f.inner) := by
  unfold rowsOf
  rw [List.getElem?_append_right (by simpa using h1), List.getElem?_append_left (by simp; omega)]
  simp only [List.length_map, List.length_range]
  rw [List.getElem?_replicate, if_pos (by omega)]
/-- what stands at a place, if it is no back -/
theorem row_any (f : F4) (i : Nat) (h : i < f.ex + f.ca) : ∃ r, (rowsOf f)[i]? = some r ∧ Pl r ∧ ∃ s, ixD r (.int 0) = some (.str s) ∧ cmpD .Eq (.str s) (.str "back") = some false := by
  by_cases h1 : i < f.ex
  · exact ⟨_, row_out f i h1, pl_out i, "out", rfl, by decide +kernel⟩
  · exact ⟨_, row_call f i (by omega) h, pl_call _, "call", rfl, by decide +kernel⟩
theorem pl_at {f : F4} {i : Nat} {r : D} (h : (rowsOf f)[i]? = some r) : Pl r := pl_rows f r (List.mem_of_getElem? h)
abbrev wyS (f : F4) (acc : List D) (x5 x6 x7 x8 : Option (Bool × D)) (mu : List (Bool × D)) : Fm := ⟨[some (false, .tup (rowsOf f)), some (false, .dic .a []), some (true, .lst acc), some (false, .dic .a []), some (false, .dic .a []), x5, x6, x7, x8], mu⟩
abbrev wyT : Tg := .tup (.cons (.name 5) (.cons (.name 6) .nil))
theorem wy_step (f : F4) (i : Nat) (h : i < f.ex + f.ca) (acc : List D) (ha : acc.length ≤ 1000) (m n : Nat) (x7 x8 : Option (Bool × D)) (mu : List (Bool × D)) (r : D) (hr : (rowsOf f)[i]? = some r) :
    exSs (run fns (m + 1) (n + 1)) (m + 1) wyB (wyS f acc (some (false, .int i)) (some (false, r)) x7 x8 mu) = some (.next, wyS f (acc ++ [.tup [.int ((i + 1 : Nat) : Int)]]) (some (false, .int i)) (some (false, r)) x7 x8 mu) := by
  obtain ⟨r', h0, hp, s, h1, h2⟩ := row_any f i h
  rw [hr] at h0
  cases h0
  obtain ⟨r2, hr2⟩ : ∃ r2, (rowsOf f)[i + 1]? = some r2 := ⟨_, List.getElem?_eq_getElem (by rw [rows_len]; omega)⟩
  have L := landing (rowsOf f) (i + 1) r2 hr2 (pl_at hr2)
  have e0 : (i : Int) + 1 = ((i + 1 : Nat) : Int) := by omega
  have e1 : 1 ≤ LIM := by decide
  have e2 : acc.length < LIM := by unfold LIM; omega
  simp only [wyB, f_ways, exSs, exS, evM, evT, ev, evs, evRs, evo, evAnd, evOr, asRef, valR, refD_tup, refD_str, refD_int, refD_lst, refD_dic, refD_bl, refD_non, truR, truD, Fm.rd, Fm.wr, rds, startF, bltD, List.length_cons, List.length_nil, List.map_cons, List.map_nil, List.replicate, List.cons_append, List.nil_append, List.getElem?_cons_zero, List.getElem?_cons_succ, List.set_cons_zero, List.set_cons_succ, Nat.sub_self, Bool.false_eq_true, if_false, if_true, Nat.reduceAdd, Nat.reduceLT, Nat.reduceLeDiff, reduceIte, Nat.zero_add, in_nil, refD_pl hp.np, h1, h2, bop, e0, L, e1, mthK, tyD, mthT, mthD, e2, BEq.rfl]
theorem wy_last (f : F4) (i : Nat) (acc : List D) (ha : acc.length ≤ 1000) (m n : Nat) (x7 x8 : Option (Bool × D)) (mu : List (Bool × D)) :
    exSs (run fns (m + 1) (n + 1)) (m + 1) wyB (wyS f acc (some (false, .int i)) (some (false, backR)) x7 x8 mu) = some (.next, wyS f (acc ++ [.tup []]) (some (false, .int i)) (some (false, backR)) x7 x8 mu) := by
  have e1 : 0 ≤ LIM := by decide
  have e2 : acc.length < LIM := by unfold LIM; omega
  simp only [wyB, f_ways, exSs, exS, evM, evT, ev, evs, evRs, evo, evAnd, evOr, asRef, valR, refD, truR, truD, Fm.rd, Fm.wr, rds, startF, bltD, List.length_cons, List.length_nil, List.map_cons, List.map_nil, List.replicate, List.cons_append, List.nil_append, List.getElem?_cons_zero, List.getElem?_cons_succ, List.set_cons_zero, List.set_cons_succ, Nat.sub_self, Bool.false_eq_true, if_false, if_true, Nat.reduceAdd, Nat.reduceLT, Nat.reduceLeDiff, reduceIte, Nat.zero_add, in_nil, r0_back, eq_back, bop, e1, mthK, tyD, mthT, mthD, e2, BEq.rfl]
theorem wy_loop (f : F4) (hf : f.ex + f.ca ≤ 900) (m n : Nat) (mu : List (Bool × D)) : ∀ (l : List D) (k : Nat), rowsOf f = (rowsOf f).take k ++ l → k ≤ f.ex + f.ca + 1 → ∀ x5 x6 x7 x8, ∃ y5 y6, forF wyT (exSs (run fns (m + 1) (n + 1)) (m + 1) wyB) (enumD k l) (wyS f ((wayL f).take k) x5 x6 x7 x8 mu) = some (.next, wyS f (wayL f) y5 y6 x7 x8 mu) := by
  have hwl : (wayL f).length = f.ex + f.ca + 1 := by unfold wayL; simp
  intro l
  induction l with
  | nil =>
    intro k hk hk2 x5 x6 x7 x8
    have hl := congrArg List.length hk
    rw [List.append_nil, List.length_take, rows_len] at hl
    refine ⟨x5, x6, ?_⟩
    rw [enumD_nil, forF_nil, List.take_of_length_le (by omega)]
  | cons r l ih =>
    intro k hk hk2 x5 x6 x7 x8
    have hlen := congrArg List.length hk
    rw [List.length_append, List.length_take, rows_len, List.length_cons] at hlen
    have hkl : k < f.ex + f.ca + 1 := by omega
    have hr : (rowsOf f)[k]? = some r := by
      rw [hk, List.getElem?_append_right (by rw [List.length_take, rows_len]; omega), List.length_take, rows_len]
      have : k - min k (f.ex + f.ca + 1) = 0 := by omega
      rw [this]; rfl
    have hk3 : rowsOf f = (rowsOf f).take (k + 1) ++ l := by
      rw [List.take_add_one, hr]
      simpa using hk
    rw [enumD_cons]
    have hal : ((wayL f).take k).length ≤ 1000 := by rw [List.length_take]; omega
    by_cases hlast : k < f.ex + f.ca
    · obtain ⟨y5, y6, e⟩ := ih (k + 1) hk3 (by omega) (some (false, .int k)) (some (false, r)) x7 x8
      refine ⟨y5, y6, ?_⟩
      have hw : (wayL f)[k]? = some (.tup [.int ((k + 1 : Nat) : Int)]) := by
        unfold wayL
        rw [List.getElem?_append_left (by simpa using hlast), List.getElem?_map, List.getElem?_range hlast]; rfl
      rw [← e, List.take_add_one, hw]
      exact forF_cons (sl := [some (false, .tup (rowsOf f)), some (false, .dic .a []), some (true, .lst ((wayL f).take k)), some (false, .dic .a []), some (false, .dic .a []), some (false, .int k), some (false, r), x7, x8]) rfl (wy_step f k hlast _ hal m n x7 x8 mu r hr)
    · have hkk : k = f.ex + f.ca := by omega
      subst hkk
      have hb : r = backR := by
        have := row_back f
        rw [hr] at this
        exact Option.some.inj this
      subst hb
      obtain ⟨y5, y6, e⟩ := ih (f.ex + f.ca + 1) hk3 (by omega) (some (false, .int (f.ex + f.ca : Nat))) (some (false, backR)) x7 x8
      refine ⟨y5, y6, ?_⟩
      have hw : (wayL f)[f.ex + f.ca]? = some (.tup []) := by
        unfold wayL
        rw [List.getElem?_append_right (by simp)]; simp
      rw [← e, List.take_add_one, hw]
      exact forF_cons (sl := [some (false, .tup (rowsOf f)), some (false, .dic .a []), some (true, .lst ((wayL f).take (f.ex + f.ca))), some (false, .dic .a []), some (false, .dic .a []), some (false, .int (f.ex + f.ca : Nat)), some (false, backR), x7, x8]) rfl (wy_last f _ _ hal m n x7 x8 mu)
theorem ways (f : F4) (hf : f.ex + f.ca ≤ 900) (m n : Nat) (mu : List (Bool × D)) : run fns (m + 1) (n + 2) 3 [.tup (rowsOf f)] mu = some (.ok (true, wayD f), mu) := by
  refine run_ret (fn := f_ways) rfl rfl ?_
  have eb : f_ways.body = [.set 1 (.call 0 (.cons (.var 0) .nil)), .asg (.tup (.cons (.name 3) (.cons (.name 4) .nil))) (.call 1 (.cons (.var 0) (.cons (.var 1) .nil))), .set 2 (.lst .nil), .forr wyT (.enum (.var 0)) wyB, .ret (.var 2)] := rfl
  have en : f_ways.N.length = 9 := rfl
  have e1 : 0 ≤ LIM := by decide
  obtain ⟨y5, y6, e⟩ := wy_loop f hf m n mu (rowsOf f) 0 (by simp) (by omega) none none none none
  simp only [List.take_zero, wyS] at e
  rw [eb, en]
  simp only [exSs, exS, evM, evT, ev, evs, evRs, evo, evAnd, evOr, asRef, valR, refD, truR, truD, Fm.rd, Fm.wr, rds, startF, bltD, List.length_cons, List.length_nil, List.map_cons, List.map_nil, List.replicate, List.cons_append, List.nil_append, List.getElem?_cons_zero, List.getElem?_cons_succ, List.set_cons_zero, List.set_cons_succ, Nat.sub_self, Bool.false_eq_true, if_false, if_true, Nat.reduceAdd, Nat.reduceLT, Nat.reduceLeDiff, reduceIte, Nat.zero_add, openers _ (pl_rows f), closers (.tup (rowsOf f)) (fun _ h => by cases h), evI, enumD_eq, e1, asgT, asgTs, e]
  exact ⟨_, rfl, rfl⟩
end K55

set_option Elab.async false
set_option linter.all false
set_option maxRecDepth 100000
set_option maxHeartbeats 4000000
namespace K55
open PySem L2 Mn
/-! ### flows_of -/
def fvB : List S := match f_flows_of.body with
  | [_, .forr _ _ b, _] => b
  | _ => []
def Pg.ok (p : Pg) : Prop := p.l.ex + p.l.ca ≤ 900 ∧ p.m.ex + p.m.ca ≤ 900 ∧ p.t.ex + p.t.ca ≤ 900
theorem fv_step (p : Pg) (nm : Str) (f : F4) (hf : f.ex + f.ca ≤ 900) (kvs : List (D × D)) (kvs' : List (D × D)) (hk : dput .a kvs (.str nm) (wayD f) = some kvs') (m n : Nat) (mu : List (Bool × D)) : exSs (run fns (m + 1) (n + 2)) (m + 1) fvB ⟨[some (false, p.d), some (true, .dic .a kvs), some (false, fnD nm f)], mu⟩ = some (.next, ⟨[some (false, p.d), some (true, .dic .a kvs'), some (false, fnD nm f)], mu⟩) := by
  have h0 : ixD (fnD nm f) (.int 0) = some (.str nm) := rfl
  simp only [fvB, f_flows_of, exSs, exS, evM, evT, ev, evs, evRs, evo, evAnd, evOr, asRef, valR, refD, truR, truD, Fm.rd, Fm.wr, rds, startF, bltD, List.length_cons, List.length_nil, List.map_cons, List.map_nil, List.replicate, List.cons_append, List.nil_append, List.getElem?_cons_zero, List.getElem?_cons_succ, List.set_cons_zero, List.set_cons_succ, Nat.sub_self, Bool.false_eq_true, if_false, if_true, Nat.reduceAdd, Nat.reduceLT, Nat.reduceLeDiff, reduceIte, Nat.zero_add, ix_fn3, ways f hf, h0, setD, hk]
theorem flows_of (p : Pg) (hp : p.ok) (m n : Nat) (mu : List (Bool × D)) : run fns (m + 1) (n + 3) 10 [p.d] mu = some (.ok (true, flD p), mu) := by
  refine run_ret (fn := f_flows_of) rfl rfl ?_
  have eb : f_flows_of.body = [.set 1 (.dic0 .a), .forr (.name 2) (.val (.var 0)) fvB, .ret (.var 1)] := rfl
  have en : f_flows_of.N.length = 3 := rfl
  have e : ∃ y, forF (.name 2) (exSs (run fns (m + 1) (n + 2)) (m + 1) fvB) p.ds ⟨[some (false, p.d), some (true, .dic .a []), none], mu⟩ = some (.next, ⟨[some (false, p.d), some (true, .dic .a (flK p)), y], mu⟩) := by
    refine ⟨some (false, fnD "behind" fBeh), ?_⟩
    unfold Pg.ds
    rw [forF_cons (sl := [some (false, p.d), some (true, .dic .a []), some (false, fnD "low" p.l)]) rfl (fv_step p "low" p.l hp.1 [] [(.str "low", wayD p.l)] rfl m n mu)]
    rw [forF_cons (sl := [some (false, p.d), some (true, .dic .a [(.str "low", wayD p.l)]), some (false, fnD "mid" p.m)]) rfl (fv_step p "mid" p.m hp.2.1 _ [(.str "low", wayD p.l), (.str "mid", wayD p.m)] (by kernel_rfl) m n mu)]
    rw [forF_cons (sl := [some (false, p.d), some (true, .dic .a [(.str "low", wayD p.l), (.str "mid", wayD p.m)]), some (false, fnD "top" p.t)]) rfl (fv_step p "top" p.t hp.2.2 _ [(.str "low", wayD p.l), (.str "mid", wayD p.m), (.str "top", wayD p.t)] (by kernel_rfl) m n mu)]
    rw [forF_cons (sl := [some (false, p.d), some (true, .dic .a [(.str "low", wayD p.l), (.str "mid", wayD p.m), (.str "top", wayD p.t)]), some (false, fnD "behind" fBeh)]) rfl (fv_step p "behind" fBeh (by decide) _ (flK p) (by kernel_rfl) m n mu)]
    exact forF_nil
  obtain ⟨y, e⟩ := e
  rw [eb, en]
  simp only [exSs, exS, evM, evT, ev, evs, evRs, evo, evAnd, evOr, asRef, valR, refD, truR, truD, Fm.rd, Fm.wr, rds, startF, bltD, List.length_cons, List.length_nil, List.map_cons, List.map_nil, List.replicate, List.cons_append, List.nil_append, List.getElem?_cons_zero, List.getElem?_cons_succ, List.set_cons_zero, List.set_cons_succ, Nat.sub_self, Bool.false_eq_true, if_false, if_true, Nat.reduceAdd, Nat.reduceLT, Nat.reduceLeDiff, reduceIte, Nat.zero_add, evI, e]
  exact ⟨_, rfl, rfl⟩
/-! ### states -/
abbrev State := List (Nm × Nat) × Bool
def chL (l : List (Nm × Nat)) : List D := l.map fun q => stD q.1 q.2
abbrev stS (s : State) : D := stn (.tup (chL s.1)) s.2
def qK (q : Nm × Nat) : NestedKey := .tup [.text q.1.s, .num q.2]
def stK (s : State) : NestedKey := .tup [.tup (s.1.map qK), .num (if s.2 then 1 else 0)]
theorem nks_ch (l : List (Nm × Nat)) : nks (chL l) = some (l.map qK) := by
  induction l with
  | nil => simp only [chL, List.map_nil, nks]
  | cons q l ih =>
    have e : chL (q :: l) = stD q.1 q.2 :: chL l := rfl
    rw [e]
    simp only [nks, D.nk, ih, List.map_cons, qK]
theorem dp_ch (l : List (Nm × Nat)) : NestedKey.depthAll (l.map qK) ≤ 1 := by
  induction l with
  | nil => simp [NestedKey.depthAll]
  | cons q l ih =>
    have e : NestedKey.depth (qK q) = 1 := by simp [qK, NestedKey.depth, NestedKey.depthAll]
    rw [List.map_cons, NestedKey.depthAll, e]
    omega
theorem dp_st (s : State) : (stK s).depth ≤ 8 := by
  have h := dp_ch s.1
  simp only [stK, NestedKey.depth, NestedKey.depthAll]
  omega
theorem ck_st (s : State) : (stS s).ck .n = some (.n (stK s)) := by
  have e : nks [.tup (chL s.1), .bl s.2] = some [.tup (s.1.map qK), .num (if s.2 then 1 else 0)] := by
    simp only [nks, D.nk, nks_ch]
  simp only [D.ck, e]
  rw [if_pos (show (NestedKey.tup [.tup (s.1.map qK), .num (if s.2 then 1 else 0)]).depth ≤ 8 from dp_st s)]
  rfl
theorem nm_inj {a b : Nm} (h : a.s = b.s) : a = b := by
  revert h
  cases a <;> cases b <;> decide +kernel
theorem qK_inj {a b : Nm × Nat} (h : qK a = qK b) : a = b := by
  unfold qK at h
  simp only [NestedKey.tup.injEq, List.cons.injEq, NestedKey.text.injEq, NestedKey.num.injEq, and_true] at h
  obtain ⟨h1, h2⟩ := h
  obtain ⟨a1, a2⟩ := a
  obtain ⟨b1, b2⟩ := b
  have := nm_inj h1
  simp only at this h2
  subst this
  congr 1
  omega
theorem stK_inj {a b : State} (h : stK a = stK b) : a = b := by
  unfold stK at h
  simp only [NestedKey.tup.injEq, List.cons.injEq, NestedKey.num.injEq, and_true] at h
  obtain ⟨h1, h2⟩ := h
  obtain ⟨a1, a2⟩ := a
  obtain ⟨b1, b2⟩ := b
  have e1 : a1 = b1 := by
    clear h2
    simp only at h1
    induction a1 generalizing b1 with
    | nil => cases b1 with
      | nil => rfl
      | cons _ _ => simp at h1
    | cons x xs ih => cases b1 with
      | nil => simp at h1
      | cons y ys =>
        simp only [List.map_cons, List.cons.injEq] at h1
        rw [qK_inj h1.1, ih ys h1.2]
  have e2 : a2 = b2 := by
    cases a2 <;> cases b2 <;> first | rfl | (simp at h2)
  rw [e1, e2]
/-! ### the walk of a plan -/
/-- what a state leads to -/
def Led (p : Pg) (s : State) (r : List State) : Prop := ∀ (m n : Nat) (mu : List (Bool × D)), run fns m (n + 4) 9 [p.d, flD p, .tup (chL s.1), .bl s.2] mu = some (.ok (true, .lst (r.map stS)), mu)
theorem stS_inj {a b : State} (h : stS a = stS b) : a = b := by
  have e := ck_st a
  rw [h, ck_st b] at e
  exact stK_inj (CK.n.inj (Option.some.inj e)).symm
theorem map_inj : ∀ r r' : List State, r.map stS = r'.map stS → r = r'
  | [], [], _ => rfl
  | [], _ :: _, h => by simp at h
  | _ :: _, [], h => by simp at h
  | x :: xs, y :: ys, h => by
    rw [List.map_cons, List.map_cons, List.cons.injEq] at h
    rw [stS_inj h.1, map_inj xs ys h.2]
theorem led_one {p : Pg} {s : State} {r r' : List State} (h : Led p s r) (h' : Led p s r') : r = r' := by
  have e := h 0 0 []
  rw [h' 0 0 []] at e
  simp only [Option.some.injEq, Prod.mk.injEq, Out.ok.injEq, D.lst.injEq, true_and, and_true] at e
  exact (map_inj _ _ e).symm
/-- so many states to the end -/
inductive Len (p : Pg) : State → Nat → Prop
  | done {s : State} : Led p s [] → Len p s 1
  | step {s t : State} {k : Nat} : Led p s [t] → Len p t k → Len p s (k + 1)
theorem Len.one {p : Pg} {s : State} {a b : Nat} (h : Len p s a) (h' : Len p s b) : a = b := by
  induction h generalizing b with
  | done l => cases h' with
    | done => rfl
    | step l2 => cases led_one l l2
  | step l _ ih => cases h' with
    | done l2 => cases led_one l l2
    | step l2 h2 =>
      have e := led_one l l2
      simp only [List.cons.injEq, and_true] at e
      subst e
      rw [ih h2]
theorem Len.pos {p : Pg} {s : State} {a : Nat} (h : Len p s a) : 0 < a := by
  cases h <;> omega
/-! ### plan's loop -/
def plC : E := match f_plan.body with
  | [_, _, _, _, .whil c _, _] => c
  | _ => .cst .non
def plB : List S := match f_plan.body with
  | [_, _, _, _, .whil _ b, _] => b
  | _ => []
def plI : List S := match plB with
  | [_, _, .forr _ _ b, _] => b
  | _ => []
theorem plB_eq : plB = [.asg (.tup (.cons (.name 8) (.cons (.name 9) .nil))) (.ix (.var 3) (.blt .len (.cons (.var 5) .nil))), .set 6 (.lst .nil), .forr (.name 7) (.val (.call 9 (.cons (.var 0) (.cons (.var 2) (.cons (.var 8) (.cons (.var 9) .nil)))))) plI, .ex (.mth .append (.var 5) (.cons (.tup (.cons (.var 8) (.cons (.var 9) (.cons (.blt .tuple (.cons (.var 6) .nil)) .nil)))) .nil))] := rfl
def nums (fo : List State) : List (D × D) := fo.mapIdx fun i s => (stS s, .int (i : Nat))
abbrev plS (p : Pg) (nm : Str) (o2 : Bool) (fo : List State) (sts : List D) (x6 x7 x8 x9 : Option (Bool × D)) (mu : List (Bool × D)) : Fm :=
  ⟨[some (false, p.d), some (false, .str nm), some (o2, flD p), some (true, .lst (fo.map stS)), some (true, .dic .n (nums fo)), some (true, .lst sts), x6, x7, x8, x9], mu⟩
theorem dfind_none : ∀ (fo : List State) (t : State) (f : Nat → State → D), t ∉ fo → dfind .n (.n (stK t)) (fo.mapIdx fun i s => (stS s, f i s)) = none := by
  intro fo
  induction fo with
  | nil => intro t f _; rfl
  | cons s fo ih =>
    intro t f h
    rw [List.mapIdx_cons]
    simp only [dfind, ck_st]
    rw [if_neg, ih t (fun i => f (i + 1)) (fun z => h (List.mem_cons_of_mem _ z))]
    intro z
    exact h (by rw [stK_inj (CK.n.inj (Option.some.inj z))]; exact List.mem_cons_self)
theorem dfind_end : ∀ (fo : List State) (t : State) (v : D) (f : Nat → State → D), t ∉ fo → dfind .n (.n (stK t)) ((fo.mapIdx fun i s => (stS s, f i s)) ++ [(stS t, v)]) = some v := by
  intro fo
  induction fo with
  | nil => intro t v f _; simp only [List.mapIdx_nil, List.nil_append, dfind, ck_st, if_true]
  | cons s fo ih =>
    intro t v f h
    rw [List.mapIdx_cons, List.cons_append]
    simp only [dfind, ck_st]
    rw [if_neg, ih t v (fun i => f (i + 1)) (fun z => h (List.mem_cons_of_mem _ z))]
    intro z
    exact h (by rw [stK_inj (CK.n.inj (Option.some.inj z))]; exact List.mem_cons_self)
theorem nums_end (fo : List State) (t : State) : nums (fo ++ [t]) = nums fo ++ [(stS t, .int (fo.length : Nat))] := by
  unfold nums
  rw [List.mapIdx_append]
  simp
theorem pl_cond (p : Pg) (nm : Str) (o2 : Bool) (fo : List State) (sts : List D) (x6 x7 x8 x9 : Option (Bool × D)) (mu : List (Bool × D)) (C : Nat → List D → List (Bool × D) → Option (Out × List (Bool × D))) : evT C plC (plS p nm o2 fo sts x6 x7 x8 x9 mu) = some (decide (sts.length < fo.length), plS p nm o2 fo sts x6 x7 x8 x9 mu) := by
  have e : decide (((sts.length : Nat) : Int) < ((fo.length : Nat) : Int)) = decide (sts.length < fo.length) := by simp only [Int.ofNat_lt]
  simp only [plC, f_plan, exSs, exS, evM, evT, ev, evs, evRs, evo, evAnd, evOr, asRef, valR, refD, truR, truD, Fm.rd, Fm.wr, rds, startF, bltD, List.length_cons, List.length_nil, List.map_cons, List.map_nil, List.replicate, List.cons_append, List.nil_append, List.getElem?_cons_zero, List.getElem?_cons_succ, List.set_cons_zero, List.set_cons_succ, Nat.sub_self, Bool.false_eq_true, if_false, if_true, Nat.reduceAdd, Nat.reduceLT, Nat.reduceLeDiff, reduceIte, Nat.zero_add, List.length_map, cmp_lt, e]
end K55

set_option Elab.async false
set_option linter.all false
set_option maxRecDepth 100000
set_option maxHeartbeats 4000000
namespace K55
open PySem L2 Mn
theorem py_ch : ∀ l : List (Nm × Nat), ∃ xs, pys (chL l) = some xs := by
  intro l
  induction l with
  | nil => exact ⟨[], rfl⟩
  | cons q l ih =>
    obtain ⟨xs, e⟩ := ih
    have e0 : chL (q :: l) = stD q.1 q.2 :: chL l := rfl
    refine ⟨.tuple [.str q.1.s, .int q.2] :: xs, ?_⟩
    rw [e0]
    simp only [pys, D.py, e]
theorem mm_no (fo : List State) (t : State) (h : t ∉ fo) : cmpD .NotIn (stS t) (.dic .n (nums fo)) = some true := by
  simp only [cmpD, dget, ck_st]
  unfold nums
  rw [dfind_none fo t _ h]
  rfl
theorem len_ne (a : Nat) (h : a ≠ 200) : cmpD .Eq (.int (a : Nat)) (.int 200) = some false := by
  rw [cmp_eq]
  congr 1
  exact beq_eq_false_iff_ne.mpr (by omega)
theorem put_end (fo : List State) (t : State) (v : D) (h : t ∉ fo) (hl : fo.length ≤ 1000) : setD (.dic .n (nums fo)) (stS t) v = some (.dic .n (nums fo ++ [(stS t, v)])) := by
  have e : (nums fo).length < LIM := by unfold nums LIM; rw [List.length_mapIdx]; omega
  have e2 : dfind .n (.n (stK t)) (nums fo) = none := dfind_none fo t _ h
  simp only [setD, dput, ck_st, e, dput1, e2, if_true, Option.isSome_none, Bool.false_eq_true, if_false]
theorem get_end (fo : List State) (t : State) (v : D) (h : t ∉ fo) : ixD (.dic .n (nums fo ++ [(stS t, v)])) (stS t) = some v := by
  have e2 : dfind .n (.n (stK t)) (nums fo ++ [(stS t, v)]) = some v := dfind_end fo t v _ h
  simp only [ixD, dget, ck_st, e2]
/-- a new state -/
theorem pl_new (p : Pg) (nm : Str) (fo : List State) (sts : List D) (t : State) (h : t ∉ fo) (hl : fo.length < 200) (x8 x9 : Option (Bool × D)) (mu : List (Bool × D)) (C : Nat → List D → List (Bool × D) → Option (Out × List (Bool × D))) (m : Nat) :
    exSs C m plI (plS p nm false fo sts (some (true, .lst [])) (some (false, stS t)) x8 x9 mu) = some (.next, plS p nm false (fo ++ [t]) sts (some (true, .lst [.int (fo.length : Nat)])) (some (false, stS t)) x8 x9 mu) := by
  have e1 : cmpD .NotIn (stS t) (.dic .n (nums fo)) = some true := mm_no fo t h
  have e2 := len_ne fo.length (by omega)
  have e3 := put_end fo t (.int (fo.length : Nat)) h (by omega)
  have e4 := get_end fo t (.int (fo.length : Nat)) h
  have e5 : fo.length < LIM := by unfold LIM; omega
  have e6 : 0 < LIM := by decide
  simp only [stS, stn] at e1 e3 e4
  simp only [plI, plB, f_plan, plS, stS, stn, exSs, exS, evM, evT, ev, evs, evRs, evo, evAnd, evOr, asRef, valR, refD, truR, truD, Fm.rd, Fm.wr, rds, startF, bltD, List.length_cons, List.length_nil, List.map_cons, List.map_nil, List.replicate, List.cons_append, List.nil_append, List.getElem?_cons_zero, List.getElem?_cons_succ, List.set_cons_zero, List.set_cons_succ, Nat.sub_self, Bool.false_eq_true, if_false, if_true, Nat.reduceAdd, Nat.reduceLT, Nat.reduceLeDiff, reduceIte, Nat.zero_add, e1, List.length_map, e2, e3, e4, mthK, tyD, mthT, mthD, e5, e6, BEq.rfl, List.map_append, nums_end]
theorem pl_full (p : Pg) (nm : Str) (fo : List State) (sts : List D) (t : State) (h : t ∉ fo) (hl : fo.length = 200) (x8 x9 : Option (Bool × D)) (mu : List (Bool × D)) (C : Nat → List D → List (Bool × D) → Option (Out × List (Bool × D))) (m : Nat) :
    exSs C m plI (plS p nm false fo sts (some (true, .lst [])) (some (false, stS t)) x8 x9 mu) = some (.exc (.str nm), plS p nm false fo sts (some (true, .lst [])) (some (false, stS t)) x8 x9 mu) := by
  have e1 : cmpD .NotIn (stS t) (.dic .n (nums fo)) = some true := mm_no fo t h
  have e2 : cmpD .Eq (.int (fo.length : Nat)) (.int 200) = some true := by rw [hl]; decide +kernel
  simp only [stS, stn] at e1
  simp only [plI, plB, f_plan, plS, stS, stn, exSs, exS, evM, evT, ev, evs, evRs, evo, evAnd, evOr, asRef, valR, refD, truR, truD, Fm.rd, Fm.wr, rds, startF, bltD, List.length_cons, List.length_nil, List.map_cons, List.map_nil, List.replicate, List.cons_append, List.nil_append, List.getElem?_cons_zero, List.getElem?_cons_succ, List.set_cons_zero, List.set_cons_succ, Nat.sub_self, Bool.false_eq_true, if_false, if_true, Nat.reduceAdd, Nat.reduceLT, Nat.reduceLeDiff, reduceIte, Nat.zero_add, e1, List.length_map, e2]
abbrev plT : Tg := .name 7
theorem at_state (fo : List State) (j : Nat) (s : State) (h : fo[j]? = some s) : ixD (.lst (fo.map stS)) (.int (j : Nat)) = some (stS s) := by
  refine atI_nat ?_
  rw [List.getElem?_map, h]
  rfl
/-- one round, the walk's end -/
theorem pl_done (p : Pg) (nm : Str) (o2 : Bool) (fo : List State) (sts : List D) (s : State) (hs : fo[sts.length]? = some s) (hl : sts.length < 200) (L : Led p s []) (x6 x7 x8 x9 : Option (Bool × D)) (mu : List (Bool × D)) (n m : Nat) :
    ∃ x, exSs (run fns m (n + 4)) m plB (plS p nm o2 fo sts x6 x7 x8 x9 mu) = some (.next, plS p nm false fo (sts ++ [x]) (some (true, .lst [])) x7 (some (false, .tup (chL s.1))) (some (false, .bl s.2)) mu) := by
  have e0 := at_state fo _ s hs
  have e1 := L m n mu
  have e2 : 0 ≤ LIM := by decide
  have e3 : 3 ≤ LIM := by decide
  have e4 : sts.length < LIM := by unfold LIM; omega
  refine ⟨.tup [.tup (chL s.1), .bl s.2, .tup []], ?_⟩
  rw [plB_eq]
  cases o2 <;>
  simp only [plS, exSs, exS, evM, evT, ev, evs, evRs, evo, evAnd, evOr, asRef, valR, refD, truR, truD, Fm.rd, Fm.wr, rds, startF, bltD, List.length_cons, List.length_nil, List.map_cons, List.map_nil, List.replicate, List.cons_append, List.nil_append, List.getElem?_cons_zero, List.getElem?_cons_succ, List.set_cons_zero, List.set_cons_succ, Nat.sub_self, Bool.false_eq_true, if_false, if_true, Nat.reduceAdd, Nat.reduceLT, Nat.reduceLeDiff, reduceIte, Nat.zero_add, e0, asgT, asgTs, evI, e1, forF_nil, e2, e3, e4, mthK, tyD, mthT, mthD, BEq.rfl]
theorem pl_go (p : Pg) (nm : Str) (o2 : Bool) (fo : List State) (sts : List D) (s t : State) (hs : fo[sts.length]? = some s) (hl : fo.length < 200) (hsl : sts.length < 200) (ht : t ∉ fo) (L : Led p s [t]) (x6 x7 x8 x9 : Option (Bool × D)) (mu : List (Bool × D)) (n m : Nat) :
    ∃ x, exSs (run fns m (n + 4)) m plB (plS p nm o2 fo sts x6 x7 x8 x9 mu) = some (.next, plS p nm false (fo ++ [t]) (sts ++ [x]) (some (true, .lst [.int (fo.length : Nat)])) (some (false, stS t)) (some (false, .tup (chL s.1))) (some (false, .bl s.2)) mu) := by
  have e0 := at_state fo _ s hs
  have e1 := L m n mu
  have e2 : 0 ≤ LIM := by decide
  have e3 : 3 ≤ LIM := by decide
  have e4 : sts.length < LIM := by unfold LIM; omega
  have e5 : forF plT (exSs (run fns m (n + 4)) m plI) [stS t] (plS p nm false fo sts (some (true, .lst [])) x7 (some (false, .tup (chL s.1))) (some (false, .bl s.2)) mu) = some (.next, plS p nm false (fo ++ [t]) sts (some (true, .lst [.int (fo.length : Nat)])) (some (false, stS t)) (some (false, .tup (chL s.1))) (some (false, .bl s.2)) mu) :=
    forF_cons (sl := (plS p nm false fo sts (some (true, .lst [])) (some (false, stS t)) (some (false, .tup (chL s.1))) (some (false, .bl s.2)) mu).sl) rfl (pl_new p nm fo sts t ht hl _ _ mu _ m)
  simp only [plS, stS, stn] at e5
  refine ⟨.tup [.tup (chL s.1), .bl s.2, .tup [.int (fo.length : Nat)]], ?_⟩
  rw [plB_eq]
  cases o2 <;>
  simp only [plS, stS, stn, exSs, exS, evM, evT, ev, evs, evRs, evo, evAnd, evOr, asRef, valR, refD, truR, truD, Fm.rd, Fm.wr, rds, startF, bltD, List.length_cons, List.length_nil, List.map_cons, List.map_nil, List.replicate, List.cons_append, List.nil_append, List.getElem?_cons_zero, List.getElem?_cons_succ, List.set_cons_zero, List.set_cons_succ, Nat.sub_self, Bool.false_eq_true, if_false, if_true, Nat.reduceAdd, Nat.reduceLT, Nat.reduceLeDiff, reduceIte, Nat.zero_add, e0, asgT, asgTs, evI, e1, e5, e2, e3, e4, mthK, tyD, mthT, mthD, BEq.rfl]
theorem pl_over (p : Pg) (nm : Str) (o2 : Bool) (fo : List State) (sts : List D) (s t : State) (hs : fo[sts.length]? = some s) (hl : fo.length = 200) (ht : t ∉ fo) (L : Led p s [t]) (x6 x7 x8 x9 : Option (Bool × D)) (mu : List (Bool × D)) (n m : Nat) :
    ∃ s', exSs (run fns m (n + 4)) m plB (plS p nm o2 fo sts x6 x7 x8 x9 mu) = some (.exc (.str nm), s') ∧ s'.mu = mu := by
  have e0 := at_state fo _ s hs
  have e1 := L m n mu
  have e2 : 0 ≤ LIM := by decide
  have e5 : forF plT (exSs (run fns m (n + 4)) m plI) [stS t] (plS p nm false fo sts (some (true, .lst [])) x7 (some (false, .tup (chL s.1))) (some (false, .bl s.2)) mu) = some (.exc (.str nm), plS p nm false fo sts (some (true, .lst [])) (some (false, stS t)) (some (false, .tup (chL s.1))) (some (false, .bl s.2)) mu) :=
    forF_exc (sl := (plS p nm false fo sts (some (true, .lst [])) (some (false, stS t)) (some (false, .tup (chL s.1))) (some (false, .bl s.2)) mu).sl) rfl (pl_full p nm fo sts t ht hl _ _ mu _ m)
  simp only [plS, stS, stn] at e5
  rw [plB_eq]
  cases o2 <;>
  · simp only [plS, stS, stn, exSs, exS, evM, evT, ev, evs, evRs, evo, evAnd, evOr, asRef, valR, refD, truR, truD, Fm.rd, Fm.wr, rds, startF, bltD, List.length_cons, List.length_nil, List.map_cons, List.map_nil, List.replicate, List.cons_append, List.nil_append, List.getElem?_cons_zero, List.getElem?_cons_succ, List.set_cons_zero, List.set_cons_succ, Nat.sub_self, Bool.false_eq_true, if_false, if_true, Nat.reduceAdd, Nat.reduceLT, Nat.reduceLeDiff, reduceIte, Nat.zero_add, e0, asgT, asgTs, evI, e1, e5, e2]
    exact ⟨_, rfl, rfl⟩
/-- the loop -/
theorem pl_loop (p : Pg) (nm : Str) (mu : List (Bool × D)) (n m : Nat) : ∀ (k : Nat) (q : Nat) (o2 : Bool) (fo : List State) (sts : List D) (s : State) (x6 x7 x8 x9 : Option (Bool × D)), Len p s k → fo[sts.length]? = some s → fo.length = sts.length + 1 → fo.length ≤ 200 → (∀ z ∈ fo, ∃ a, Len p z a ∧ k ≤ a) → 202 ≤ q + fo.length →
    (sts.length + k ≤ 200 ∧ ∃ s' sts', whilF (evT (run fns m (n + 4)) plC) (exSs (run fns m (n + 4)) m plB) q (plS p nm o2 fo sts x6 x7 x8 x9 mu) = some (.next, s') ∧ s'.mu = mu ∧ s'.sl[5]? = some (some (true, .lst sts')) ∧ sts'.length = sts.length + k) ∨
    (200 < sts.length + k ∧ ∃ s', whilF (evT (run fns m (n + 4)) plC) (exSs (run fns m (n + 4)) m plB) q (plS p nm o2 fo sts x6 x7 x8 x9 mu) = some (.exc (.str nm), s') ∧ s'.mu = mu) := by
  intro k
  induction k with
  | zero => intro q o2 fo sts s x6 x7 x8 x9 L; exact absurd L.pos (Nat.lt_irrefl 0)
  | succ k ih =>
    intro q o2 fo sts s x6 x7 x8 x9 L hs hl h200 hfo hq
    obtain ⟨q, rfl⟩ : ∃ q', q = q' + 2 := ⟨q - 2, by omega⟩
    have c : evT (run fns m (n + 4)) plC (plS p nm o2 fo sts x6 x7 x8 x9 mu) = some (true, plS p nm o2 fo sts x6 x7 x8 x9 mu) := by
      rw [pl_cond]
      congr 2
      exact decide_eq_true (by omega)
    cases L with
    | done l =>
      obtain ⟨x, e⟩ := pl_done p nm o2 fo sts s hs (by omega) l x6 x7 x8 x9 mu n m
      refine .inl ⟨by omega, plS p nm false fo (sts ++ [x]) (some (true, .lst [])) x7 (some (false, .tup (chL s.1))) (some (false, .bl s.2)) mu, sts ++ [x], ?_, rfl, rfl, by rw [List.length_append]; rfl⟩
      rw [whilF_go c e]
      refine whilF_stop ?_
      rw [pl_cond]
      congr 2
      refine decide_eq_false ?_
      rw [List.length_append]
      simp only [List.length_cons, List.length_nil]
      omega
    | @step _ t _ l L' =>
      have ht : t ∉ fo := fun z => by
        obtain ⟨a, h1, h2⟩ := hfo t z
        have := h1.one L'
        omega
      by_cases hf : fo.length < 200
      · obtain ⟨x, e⟩ := pl_go p nm o2 fo sts s t hs hf (by omega) ht l x6 x7 x8 x9 mu n m
        rw [whilF_go c e]
        have hx : (sts ++ [x]).length = sts.length + 1 := by rw [List.length_append]; rfl
        have hy : (fo ++ [t]).length = fo.length + 1 := by rw [List.length_append]; rfl
        have := ih (q + 1) false (fo ++ [t]) (sts ++ [x]) t (some (true, .lst [.int (fo.length : Nat)])) (some (false, stS t)) (some (false, .tup (chL s.1))) (some (false, .bl s.2)) L' (by rw [hx, ← hl]; simp) (by omega) (by omega) (fun z hz => by
          rcases List.mem_append.mp hz with hz | hz
          · obtain ⟨a, h1, h2⟩ := hfo z hz
            exact ⟨a, h1, by omega⟩
          · rw [List.mem_singleton.mp hz]; exact ⟨k, L', Nat.le_refl _⟩) (by omega)
        rw [hx] at this
        rcases this with ⟨h1, s', sts', h2, h3, h4, h5⟩ | ⟨h1, h2⟩
        · exact .inl ⟨by omega, s', sts', h2, h3, h4, by omega⟩
        · exact .inr ⟨by omega, h2⟩
      · obtain ⟨s', e, hm⟩ := pl_over p nm o2 fo sts s t hs (by omega) ht l x6 x7 x8 x9 mu n m
        have := L'.pos
        exact .inr ⟨by omega, s', whilF_exc c e, hm⟩
end K55

set_option Elab.async false
set_option linter.all false
set_option maxRecDepth 100000
set_option maxHeartbeats 4000000
namespace K55
open PySem L2 Mn
theorem plan (p : Pg) (hp : p.ok) (nm : Nm) (k : Nat) (L : Len p ([(nm, 0)], false) k) (m n : Nat) (hm : 202 ≤ m) (mu : List (Bool × D)) :
    (k ≤ 200 ∧ ∃ sts : List D, run fns (m + 1) (n + 5) 11 [p.d, .str nm.s] mu = some (.ok (true, .lst sts), mu) ∧ sts.length = k) ∨
    (200 < k ∧ run fns (m + 1) (n + 5) 11 [p.d, .str nm.s] mu = some (.exc (.str nm.s), mu)) := by
  have eb : f_plan.body = [.set 2 (.call 10 (.cons (.var 0) .nil)), .set 3 (.lst (.cons (.tup (.cons (.tup (.cons (.tup (.cons (.var 1) (.cons (.cst (.int 0)) .nil))) .nil)) (.cons (.cst (.bl false)) .nil))) .nil)), .set 4 (.dic1 .n (.ix (.var 3) (.cst (.int 0))) (.cst (.int 0))), .set 5 (.lst .nil), .whil plC plB, .ret (.var 5)] := rfl
  have en : f_plan.N.length = 10 := rfl
  have e0 : 0 ≤ LIM := by decide
  have e1 : 1 ≤ LIM := by decide
  have e2 : 2 ≤ LIM := by decide
  have e3 : ixD (.lst [.tup [.tup [.tup [.str nm.s, .int 0]], .bl false]]) (.int 0) = some (.tup [.tup [.tup [.str nm.s, .int 0]], .bl false]) := rfl
  have e4 : D.ck .n (.tup [.tup [.tup [.str nm.s, .int 0]], .bl false]) = some (.n (stK ([(nm, 0)], false))) := ck_st ([(nm, 0)], false)
  have hL := pl_loop p nm.s mu n (m + 1) k (m + 1) true [([(nm, 0)], false)] [] ([(nm, 0)], false) none none none none L rfl rfl (Nat.le_of_ble_eq_true rfl) (fun z hz => by rw [List.mem_singleton.mp hz]; exact ⟨k, L, Nat.le_refl _⟩) (by simp only [List.length_cons, List.length_nil]; omega)
  have es : plS p nm.s true [([(nm, 0)], false)] [] none none none none mu = ⟨[some (false, p.d), some (false, .str nm.s), some (true, flD p), some (true, .lst [.tup [.tup [.tup [.str nm.s, .int 0]], .bl false]]), some (true, .dic .n [(.tup [.tup [.tup [.str nm.s, .int 0]], .bl false], .int 0)]), some (true, .lst []), none, none, none, none], mu⟩ := rfl
  rw [es, List.length_nil, Nat.zero_add] at hL
  rcases hL with ⟨h1, s', sts', h2, h3, h4, h5⟩ | ⟨h1, s', h2, h3⟩
  · refine .inl ⟨h1, sts', run_ret (fn := f_plan) rfl rfl ?_, h5⟩
    rw [eb, en]
    simp only [exSs, exS, evM, evT, ev, evs, evRs, evo, evAnd, evOr, asRef, valR, refD, truR, truD, Fm.rd, Fm.wr, rds, startF, bltD, List.length_cons, List.length_nil, List.map_cons, List.map_nil, List.replicate, List.cons_append, List.nil_append, List.getElem?_cons_zero, List.getElem?_cons_succ, List.set_cons_zero, List.set_cons_succ, Nat.sub_self, Bool.false_eq_true, if_false, if_true, Nat.reduceAdd, Nat.reduceLT, Nat.reduceLeDiff, reduceIte, Nat.zero_add, flows_of p hp, e0, e1, e2, e3, e4, h2, h4]
    exact ⟨_, rfl, h3⟩
  · refine .inr ⟨h1, run_exc (fn := f_plan) rfl rfl ?_⟩
    rw [eb, en]
    simp only [exSs, exS, evM, evT, ev, evs, evRs, evo, evAnd, evOr, asRef, valR, refD, truR, truD, Fm.rd, Fm.wr, rds, startF, bltD, List.length_cons, List.length_nil, List.map_cons, List.map_nil, List.replicate, List.cons_append, List.nil_append, List.getElem?_cons_zero, List.getElem?_cons_succ, List.set_cons_zero, List.set_cons_succ, Nat.sub_self, Bool.false_eq_true, if_false, if_true, Nat.reduceAdd, Nat.reduceLT, Nat.reduceLeDiff, reduceIte, Nat.zero_add, flows_of p hp, e0, e1, e2, e3, e4, h2]
    exact ⟨_, rfl, h3⟩
theorem self_nm (nm : Nm) : cmpD .Eq (.str nm.s) (.str nm.s) = some true := by
  cases nm <;> decide +kernel
/-- law's check of a plan -/
theorem law_is (p : Pg) (hp : p.ok) (nm : Nm) (k : Nat) (L : Len p ([(nm, 0)], false) k) (m n : Nat) (hm : 202 ≤ m) (mu : List (Bool × D)) :
    run fns (m + 1) (n + 7) 15 [p.d, .str nm.s, .int (k : Nat)] mu = some (.ok (false, .bl true), mu) := by
  refine run_ret (fn := f__law_is) rfl rfl ?_
  rcases plan p hp nm k L m (n + 1) hm mu with ⟨h1, sts, e, hl⟩ | ⟨h1, e⟩
  · have c : decide ((200 : Int) < (k : Nat)) = false := decide_eq_false (by omega)
    have c2 : cmpD .Eq (.int (sts.length : Nat)) (.int (k : Nat)) = some true := by rw [cmp_eq, hl]; congr 1; exact beq_self_eq_true _
    simp only [f__law_is, exSs, exS, evM, evT, ev, evs, evRs, evo, evAnd, evOr, asRef, valR, refD, truR, truD, Fm.rd, Fm.wr, rds, startF, bltD, List.length_cons, List.length_nil, List.map_cons, List.map_nil, List.replicate, List.cons_append, List.nil_append, List.getElem?_cons_zero, List.getElem?_cons_succ, List.set_cons_zero, List.set_cons_succ, Nat.sub_self, Bool.false_eq_true, if_false, if_true, Nat.reduceAdd, Nat.reduceLT, Nat.reduceLeDiff, reduceIte, Nat.zero_add, cmp_gt, c, e, c2]
    exact ⟨_, rfl, rfl⟩
  · have c : decide ((200 : Int) < (k : Nat)) = true := decide_eq_true (by omega)
    have e : run fns (m + 1) (n + 5) 11 [p.d, .str nm.s] mu = some (.exc (.str nm.s), mu) := by
      rcases plan p hp nm k L m n hm mu with ⟨h2, _⟩ | ⟨_, e⟩
      · omega
      · exact e
    have r : run fns (m + 1) (n + 6) 14 [p.d, .str nm.s] mu = some (.ok (false, .bl true), mu) := by
      refine run_ret (fn := f__law_refused) rfl rfl ?_
      simp only [f__law_refused, exSs, exS, evM, evT, ev, evs, evRs, evo, evAnd, evOr, asRef, valR, refD, truR, truD, Fm.rd, Fm.wr, rds, startF, bltD, List.length_cons, List.length_nil, List.map_cons, List.map_nil, List.replicate, List.cons_append, List.nil_append, List.getElem?_cons_zero, List.getElem?_cons_succ, List.set_cons_zero, List.set_cons_succ, Nat.sub_self, Bool.false_eq_true, if_false, if_true, Nat.reduceAdd, Nat.reduceLT, Nat.reduceLeDiff, reduceIte, Nat.zero_add, e, self_nm, and_self]
      exact ⟨_, rfl, rfl⟩
    simp only [f__law_is, exSs, exS, evM, evT, ev, evs, evRs, evo, evAnd, evOr, asRef, valR, refD, truR, truD, Fm.rd, Fm.wr, rds, startF, bltD, List.length_cons, List.length_nil, List.map_cons, List.map_nil, List.replicate, List.cons_append, List.nil_append, List.getElem?_cons_zero, List.getElem?_cons_succ, List.set_cons_zero, List.set_cons_succ, Nat.sub_self, Bool.false_eq_true, if_false, if_true, Nat.reduceAdd, Nat.reduceLT, Nat.reduceLeDiff, reduceIte, Nat.zero_add, cmp_gt, c, r]
    exact ⟨_, rfl, rfl⟩
end K55

set_option Elab.async false
set_option linter.all false
set_option maxRecDepth 100000
set_option maxHeartbeats 4000000
namespace K55
open PySem L2 Mn
/-! ### how far it is -/
theorem ch_app (cs : List (Nm × Nat)) (nm : Nm) (i : Nat) : chL (cs ++ [(nm, i)]) = chL cs ++ [stD nm i] := by
  unfold chL
  rw [List.map_append]
  rfl
theorem ch_len (cs : List (Nm × Nat)) : (chL cs).length = cs.length := by
  unfold chL
  rw [List.length_map]
section
variable {p : Pg} {cs : List (Nm × Nat)} {nm y : Nm} {i j : Nat} {b : Bool}
theorem l_out (hc : cs.length ≤ 4) (h : i < (p.f nm).ex) : Led p (cs ++ [(nm, i)], b) [(cs ++ [(nm, i + 1)], false)] := fun m n mu => by
  rw [List.map_cons, List.map_nil]
  simp only [stS, ch_app]
  exact led_out p (chL cs) nm i i b (by rw [ch_len]; omega) (row_out _ _ h) (by omega) m n mu
theorem l_go (hc : cs.length ≤ 4) (h1 : (p.f nm).ex ≤ i) (h2 : i < (p.f nm).ex + (p.f nm).ca) : Led p (cs ++ [(nm, i)], true) [(cs ++ [(nm, i + 1)], false)] := fun m n mu => by
  rw [List.map_cons, List.map_nil]
  simp only [stS, ch_app]
  exact led_go p (chL cs) nm _ i (by rw [ch_len]; omega) (row_call _ _ h1 h2) h2 m n mu
theorem l_in (hy : (p.f nm).inner = y.s) (h1 : (p.f nm).ex ≤ i) (h2 : i < (p.f nm).ex + (p.f nm).ca) (hc : cs.length < 2) (hf : (p.f y).fo = true) (hi : y.i < nm.i) : Led p (cs ++ [(nm, i)], false) [(cs ++ [(nm, i)] ++ [(y, 0)], false)] := fun m n mu => by
  rw [List.map_cons, List.map_nil]
  simp only [stS, ch_app]
  exact led_in p (chL cs) nm y i (by rw [ch_len]; omega) (by rw [← hy]; exact row_call _ _ h1 h2) (by rw [ch_len, decide_eq_true hc, hf, decide_eq_true hi]; rfl) m n mu
theorem l_wait (hy : (p.f nm).inner = y.s) (h1 : (p.f nm).ex ≤ i) (h2 : i < (p.f nm).ex + (p.f nm).ca) (hc : cs.length ≤ 4) (hf : (p.f y).fo = false) : Led p (cs ++ [(nm, i)], false) [(cs ++ [(nm, i)], true)] := fun m n mu => by
  rw [List.map_cons, List.map_nil]
  simp only [stS, ch_app]
  exact led_wait p (chL cs) nm y i (by rw [ch_len]; omega) (by rw [← hy]; exact row_call _ _ h1 h2) (by rw [hf, Bool.false_and, Bool.and_false]) m n mu
theorem l_end : Led p ([(nm, (p.f nm).ex + (p.f nm).ca)], b) [] := fun m n mu => led_end p nm _ b (row_back _) m n mu
theorem l_up (hc : cs.length ≤ 4) (h2 : i < (p.f nm).ex + (p.f nm).ca) : Led p (cs ++ [(nm, i)] ++ [(y, (p.f y).ex + (p.f y).ca)], b) [(cs ++ [(nm, i + 1)], false)] := fun m n mu => by
  rw [List.map_cons, List.map_nil]
  simp only [stS, ch_app]
  exact led_up p (chL cs) nm y i _ b (by rw [ch_len]; omega) (row_back _) h2 m n mu
/-- n steps from s to t -/
def Go (p : Pg) (s t : State) (n : Nat) : Prop := ∀ k, Len p t k → Len p s (n + k)
theorem Go.refl (s : State) : Go p s s 0 := fun k h => by rw [Nat.zero_add]; exact h
theorem Go.one {s t : State} (h : Led p s [t]) : Go p s t 1 := fun k l => by rw [Nat.add_comm]; exact .step h l
theorem Go.trans {s t u : State} {a b : Nat} (h : Go p s t a) (h' : Go p t u b) : Go p s u (a + b) := fun k l => by rw [Nat.add_assoc]; exact h _ (h' k l)
theorem Go.cast {s t : State} {a b : Nat} (h : Go p s t a) (e : a = b) : Go p s t b := e ▸ h
theorem g_outs (hc : cs.length ≤ 4) : ∀ d, d ≤ (p.f nm).ex → Go p (cs ++ [(nm, 0)], false) (cs ++ [(nm, d)], false) d
  | 0, _ => Go.refl _
  | d + 1, h => (g_outs hc d (by omega)).trans (.one (l_out hc (by omega)))
/-- a called body, its calls at q steps each -/
theorem g_body (hc : cs.length ≤ 4) {q : Nat} (hq : ∀ i, (p.f nm).ex ≤ i → i < (p.f nm).ex + (p.f nm).ca → Go p (cs ++ [(nm, i)], false) (cs ++ [(nm, i + 1)], false) q) : Go p (cs ++ [(nm, 0)], false) (cs ++ [(nm, (p.f nm).ex + (p.f nm).ca)], false) ((p.f nm).ex + (p.f nm).ca * q) := by
  have key : ∀ d, d ≤ (p.f nm).ca → Go p (cs ++ [(nm, (p.f nm).ex)], false) (cs ++ [(nm, (p.f nm).ex + d)], false) (d * q) := by
    intro d
    induction d with
    | zero => intro _; exact (Go.refl _).cast (by omega)
    | succ d ih => intro h; exact ((ih (by omega)).trans (hq _ (by omega) (by omega))).cast (by rw [Nat.succ_mul])
  exact (g_outs hc _ (Nat.le_refl _)).trans (key _ (Nat.le_refl _))
/-- .. to its end -/
theorem len_body {q : Nat} (hq : ∀ i, (p.f nm).ex ≤ i → i < (p.f nm).ex + (p.f nm).ca → Go p ([(nm, i)], false) ([(nm, i + 1)], false) q) : Len p ([(nm, 0)], false) ((p.f nm).ex + (p.f nm).ca * q + 1) := by
  have h := g_body (p := p) (nm := nm) (cs := []) (by decide) (q := q) hq
  exact h 1 (.done l_end)
/-- .. in place -/
theorem g_in (hc : cs.length < 2) {q : Nat} (hy : (p.f nm).inner = y.s) (h1 : (p.f nm).ex ≤ i) (h2 : i < (p.f nm).ex + (p.f nm).ca) (hf : (p.f y).fo = true) (hi : y.i < nm.i)
    (hq : ∀ k, (p.f y).ex ≤ k → k < (p.f y).ex + (p.f y).ca → Go p (cs ++ [(nm, i)] ++ [(y, k)], false) (cs ++ [(nm, i)] ++ [(y, k + 1)], false) q) : Go p (cs ++ [(nm, i)], false) (cs ++ [(nm, i + 1)], false) ((p.f y).ex + (p.f y).ca * q + 2) := by
  have hl : (cs ++ [(nm, i)]).length ≤ 4 := by rw [List.length_append]; simp only [List.length_cons, List.length_nil]; omega
  exact (((Go.one (l_in hy h1 h2 hc hf hi)).trans (g_body hl hq)).trans (.one (l_up (by omega) h2))).cast (by omega)
end
/-- the law's program -/
def pg (s c x : Nat) (fo : Bool) (mo tn : Nat) : Pg := ⟨⟨true, s, 0, ""⟩, ⟨fo, x, c, "low"⟩, ⟨false, mo, tn, "mid"⟩⟩
section
variable {s c x mo tn : Nat} {fo : Bool}
theorem len_low : Len (pg s c x fo mo tn) ([(.low, 0)], false) (s + 1) := by
  have h := len_body (p := pg s c x fo mo tn) (nm := .low) (q := 0) (fun i h1 h2 => absurd h2 (Nat.not_lt.mpr h1))
  exact h
theorem low_in {cs : List (Nm × Nat)} (hc : cs.length < 2) (i : Nat) (h1 : x ≤ i) (h2 : i < x + c) : Go (pg s c x fo mo tn) (cs ++ [(.mid, i)], false) (cs ++ [(.mid, i + 1)], false) (s + 2) := by
  have h := g_in (p := pg s c x fo mo tn) (nm := .mid) (y := .low) (q := 0) (i := i) hc rfl h1 h2 rfl (by decide) (fun i h1 h2 => absurd h2 (Nat.not_lt.mpr h1))
  exact h
theorem len_mid : Len (pg s c x fo mo tn) ([(.mid, 0)], false) (x + c * (s + 2) + 1) :=
  len_body (p := pg s c x fo mo tn) (nm := .mid) (q := s + 2) fun i h1 h2 => low_in (cs := []) (by decide) i h1 h2
theorem len_top : Len (pg s c x fo mo tn) ([(.top, 0)], false) (mo + tn * (if fo = true then x + c * (s + 2) + 2 else 2) + 1) :=
  len_body (p := pg s c x fo mo tn) (nm := .top) (q := if fo = true then x + c * (s + 2) + 2 else 2) fun i h1 h2 => by
    cases fo with
    | true => exact g_in (p := pg s c x true mo tn) (nm := .top) (y := .mid) (cs := []) (q := s + 2) (i := i) (by decide) rfl h1 h2 rfl (by decide) fun k h3 h4 => low_in (cs := [(.top, i)]) (Nat.lt_of_lt_of_le (Nat.lt_succ_self 1) (Nat.le_refl 2)) k h3 h4
    | false =>
      have a := l_wait (p := pg s c x false mo tn) (nm := .top) (y := .mid) (cs := []) (i := i) rfl h1 h2 (by decide) rfl
      have b := l_go (p := pg s c x false mo tn) (nm := .top) (cs := []) (i := i) (by decide) h1 h2
      exact (Go.one a).trans (.one b)
end
end K55

set_option Elab.async false
set_option linter.all false
set_option maxRecDepth 100000
set_option maxHeartbeats 4000000
namespace K55
open PySem L2 Mn
theorem lcF_map {f : D → Fm → Option (Option D × Fm)} {g : D → D} {s : Fm} : ∀ (ds : List D) (acc : List D), (∀ d ∈ ds, f d s = some (some (g d), s)) → acc.length + ds.length ≤ LIM → lcF f ds s acc = some (acc ++ ds.map g, s)
  | [], acc, _, _ => by simp only [lcF, List.map_nil, List.append_nil]
  | d :: r, acc, h, hl => by
    rw [List.length_cons] at hl
    have e := lcF_map r (acc ++ [g d]) (fun z hz => h z (List.mem_cons_of_mem _ hz)) (by rw [List.length_append]; simp only [List.length_cons, List.length_nil]; omega)
    have hlt : acc.length < LIM := by omega
    simp only [lcF, h d List.mem_cons_self, hlt, if_true, e]
    simp
theorem cell_at (ns : List Int) (k : Nat) (m n : Nat) (mu : List (Bool × D)) : run fns m (n + 1) 12 [.lst (ns.map .int), .int (k : Nat)] mu = some (.ok (false, .int (ns[k]?.getD 0)), mu) := by
  refine run_ret (fn := f__law_cell_at) rfl rfl ?_
  by_cases h : k < ns.length
  · have c : decide ((k : Int) < (ns.length : Nat)) = true := decide_eq_true (by omega)
    have e : ixD (.lst (ns.map .int)) (.int (k : Nat)) = some (.int (ns[k]?.getD 0)) := by
      refine atI_nat ?_
      rw [List.getElem?_map, List.getElem?_eq_getElem h]
      rfl
    simp only [f__law_cell_at, exSs, exS, evM, evT, ev, evs, evRs, evo, evAnd, evOr, asRef, valR, refD, truR, truD, Fm.rd, Fm.wr, rds, startF, bltD, List.length_cons, List.length_nil, List.map_cons, List.map_nil, List.replicate, List.cons_append, List.nil_append, List.getElem?_cons_zero, List.getElem?_cons_succ, List.set_cons_zero, List.set_cons_succ, Nat.sub_self, Bool.false_eq_true, if_false, if_true, Nat.reduceAdd, Nat.reduceLT, Nat.reduceLeDiff, reduceIte, Nat.zero_add, List.length_map, cmp_lt, c, e]
    exact ⟨_, rfl, rfl⟩
  · have c : decide ((k : Int) < (ns.length : Nat)) = false := decide_eq_false (by omega)
    have e : ns[k]?.getD 0 = 0 := by rw [List.getElem?_eq_none (by omega)]; rfl
    simp only [f__law_cell_at, exSs, exS, evM, evT, ev, evs, evRs, evo, evAnd, evOr, asRef, valR, refD, truR, truD, Fm.rd, Fm.wr, rds, startF, bltD, List.length_cons, List.length_nil, List.map_cons, List.map_nil, List.replicate, List.cons_append, List.nil_append, List.getElem?_cons_zero, List.getElem?_cons_succ, List.set_cons_zero, List.set_cons_succ, Nat.sub_self, Bool.false_eq_true, if_false, if_true, Nat.reduceAdd, Nat.reduceLT, Nat.reduceLeDiff, reduceIte, Nat.zero_add, List.length_map, cmp_lt, c, e]
    exact ⟨_, rfl, rfl⟩
/-! ### _law_function -/
def lfB : List S := match f__law_function.body with
  | [_, .forr _ _ b, _, _] => b
  | _ => []
theorem lf_loop (C : Nat → List D → List (Bool × D) → Option (Out × List (Bool × D))) (m : Nat) (x0 x1 x2 x3 : Option (Bool × D)) (inner : Str) (mu : List (Bool × D)) : ∀ (is : List Nat) (acc : List D) (x6 : Option (Bool × D)), acc.length + is.length ≤ 5000 → ∃ y6, forF (.name 6) (exSs C m lfB) (is.map fun i => .int ((0 : Int) + (i : Nat))) ⟨[x0, x1, x2, x3, some (false, .str inner), some (true, .lst acc), x6], mu⟩ = some (.next, ⟨[x0, x1, x2, x3, some (false, .str inner), some (true, .lst (acc ++ List.replicate is.length (callR inner))), y6], mu⟩)
  | [], acc, x6, _ => ⟨x6, by simp [forF_nil]⟩
  | i :: is, acc, x6, h => by
    rw [List.length_cons] at h
    obtain ⟨y6, e⟩ := lf_loop C m x0 x1 x2 x3 inner mu is (acc ++ [callR inner]) (some (false, .int (0 + (i : Nat)))) (by rw [List.length_append]; simp only [List.length_cons, List.length_nil]; omega)
    refine ⟨y6, ?_⟩
    have e0 : 0 ≤ LIM := by decide
    have e4 : 4 ≤ LIM := by decide
    have hl : acc.length < LIM := by unfold LIM; omega
    rw [List.map_cons, forF_cons (s2 := ⟨[x0, x1, x2, x3, some (false, .str inner), some (true, .lst (acc ++ [callR inner])), some (false, .int (0 + (i : Nat)))], mu⟩) (sl := [x0, x1, x2, x3, some (false, .str inner), some (true, .lst acc), some (false, .int (0 + (i : Nat)))]) rfl (by
      simp only [lfB, f__law_function, exSs, exS, evM, evT, ev, evs, evRs, evo, evAnd, evOr, asRef, valR, refD, truR, truD, Fm.rd, Fm.wr, rds, startF, bltD, List.length_cons, List.length_nil, List.map_cons, List.map_nil, List.replicate, List.cons_append, List.nil_append, List.getElem?_cons_zero, List.getElem?_cons_succ, List.set_cons_zero, List.set_cons_succ, Nat.sub_self, Bool.false_eq_true, if_false, if_true, Nat.reduceAdd, Nat.reduceLT, Nat.reduceLeDiff, reduceIte, Nat.zero_add, e0, e4, hl, mthK, tyD, mthT, mthD, BEq.rfl]), e]
    rw [List.append_assoc]
    rfl
theorem range_ok (k : Nat) (h : k ≤ 1000) : ((k : Int) ≤ 2 ^ 40 ∧ -(2 ^ 40) ≤ (k : Int)) := by
  constructor
  · have : (2 : Int) ^ 40 = 1099511627776 := by decide
    omega
  · have : (2 : Int) ^ 40 = 1099511627776 := by decide
    omega
theorem law_fn (nm : Str) (fo : Bool) (ex ca : Nat) (inner : Str) (h1 : ex ≤ 1000) (h2 : ca ≤ 1000) (m n : Nat) (mu : List (Bool × D)) : run fns m (n + 1) 13 [.str nm, .bl fo, .int (ex : Nat), .int (ca : Nat), .str inner] mu = some (.ok (false, fnD nm ⟨fo, ex, ca, inner⟩), mu) := by
  refine run_ret (fn := f__law_function) rfl rfl ?_
  have eb : f__law_function.body = [.set 5 (.lc [6] (.name 6) (.range (.cons (.var 2) .nil)) .nil (.tup (.cons (.cst (.str "out")) (.cons (.var 6) .nil)))), .forr (.name 6) (.range (.cons (.var 3) .nil)) lfB, .ex (.mth .append (.var 5) (.cons (.tup (.cons (.cst (.str "back")) (.cons (.cst (.str "x")) .nil))) .nil)), .ret (.tup (.cons (.var 0) (.cons (.var 1) (.cons (.tup .nil) (.cons (.blt .tuple (.cons (.var 5) .nil)) .nil)))))] := rfl
  have en : f__law_function.N.length = 7 := rfl
  have e0 : 0 ≤ LIM := by decide
  have e2 : 2 ≤ LIM := by decide
  have e4 : 4 ≤ LIM := by decide
  have hr : rangeD 0 ex = (List.range ex).map fun i => .int ((0 : Int) + (i : Nat)) := rfl
  have hr2 : rangeD 0 ca = (List.range ca).map fun i => .int ((0 : Int) + (i : Nat)) := rfl
  obtain ⟨y6, el⟩ := lf_loop (run fns m n) m (some (false, .str nm)) (some (false, .bl fo)) (some (false, .int (ex : Nat))) (some (false, .int (ca : Nat))) inner mu (List.range ca) ((List.range ex).map outR) none (by simp; omega)
  rw [← hr2, List.length_range] at el
  have hlc : ∀ f : D → Fm → Option (Option D × Fm), (∀ d ∈ rangeD 0 ex, f d ⟨[some (false, .str nm), some (false, .bl fo), some (false, .int (ex : Nat)), some (false, .int (ca : Nat)), some (false, .str inner), none, none], mu⟩ = some (some (.tup [.str "out", d]), ⟨[some (false, .str nm), some (false, .bl fo), some (false, .int (ex : Nat)), some (false, .int (ca : Nat)), some (false, .str inner), none, none], mu⟩)) →
      lcF f (rangeD 0 ex) ⟨[some (false, .str nm), some (false, .bl fo), some (false, .int (ex : Nat)), some (false, .int (ca : Nat)), some (false, .str inner), none, none], mu⟩ [] = some ((List.range ex).map outR, ⟨[some (false, .str nm), some (false, .bl fo), some (false, .int (ex : Nat)), some (false, .int (ca : Nat)), some (false, .str inner), none, none], mu⟩) := fun f hf => by
    rw [lcF_map (g := fun d => .tup [.str "out", d]) (rangeD 0 ex) [] hf (by rw [hr]; simp [LIM]; omega), hr]
    simp [outR]
  have hle : ((List.range ex).map outR ++ List.replicate ca (callR inner)).length < LIM := by unfold LIM; simp; omega
  rw [eb, en]
  simp only [exSs, exS, evM, evT, ev, evs, evRs, evo, evAnd, evOr, asRef, valR, refD, truR, truD, Fm.rd, Fm.wr, rds, startF, bltD, List.length_cons, List.length_nil, List.map_cons, List.map_nil, List.replicate, List.cons_append, List.nil_append, List.getElem?_cons_zero, List.getElem?_cons_succ, List.set_cons_zero, List.set_cons_succ, Nat.sub_self, Bool.false_eq_true, if_false, if_true, Nat.reduceAdd, Nat.reduceLT, Nat.reduceLeDiff, reduceIte, Nat.zero_add, evI, range_ok _ h1, range_ok _ h2, and_self, Int.toNat_natCast, wipeF, evTs, asgT, bring]
  rw [hlc]
  rotate_left
  · intro d hd
    obtain ⟨z, rfl⟩ : ∃ z : Int, d = .int z := by
      rw [hr] at hd
      obtain ⟨i, _, rfl⟩ := List.mem_map.mp hd
      exact ⟨_, rfl⟩
    simp only [exSs, exS, evM, evT, ev, evs, evRs, evo, evAnd, evOr, asRef, valR, refD, truR, truD, Fm.rd, Fm.wr, rds, startF, bltD, List.length_cons, List.length_nil, List.map_cons, List.map_nil, List.replicate, List.cons_append, List.nil_append, List.getElem?_cons_zero, List.getElem?_cons_succ, List.set_cons_zero, List.set_cons_succ, Nat.sub_self, Bool.false_eq_true, if_false, if_true, Nat.reduceAdd, Nat.reduceLT, Nat.reduceLeDiff, reduceIte, Nat.zero_add, e2]
  simp only [exSs, exS, evM, evT, ev, evs, evRs, evo, evAnd, evOr, asRef, valR, refD, truR, truD, Fm.rd, Fm.wr, rds, startF, bltD, List.length_cons, List.length_nil, List.map_cons, List.map_nil, List.replicate, List.cons_append, List.nil_append, List.getElem?_cons_zero, List.getElem?_cons_succ, List.set_cons_zero, List.set_cons_succ, Nat.sub_self, Bool.false_eq_true, if_false, if_true, Nat.reduceAdd, Nat.reduceLT, Nat.reduceLeDiff, reduceIte, Nat.zero_add, evI, range_ok _ h2, and_self, Int.toNat_natCast, List.mapIdx_cons, List.mapIdx_nil, List.contains_cons, List.contains_nil, ite_self, el, e0, e2, e4, hle, mthK, tyD, mthT, mthD, BEq.rfl]
  have er : rowsOf ⟨fo, ex, ca, inner⟩ = (List.range ex).map outR ++ List.replicate ca (callR inner) ++ [backR] := (List.append_assoc _ _ _).symm
  simp only [fnD, er]
  exact ⟨_, rfl, rfl⟩
end K55

set_option Elab.async false
set_option linter.all false
set_option maxRecDepth 100000
set_option maxHeartbeats 4000000
namespace K55
open PySem L2 Mn
theorem exSs_app {C : Nat → List D → List (Bool × D) → Option (Out × List (Bool × D))} {m : Nat} : ∀ {a b : List S} {s s1 : Fm}, exSs C m a s = some (.next, s1) → exSs C m (a ++ b) s = exSs C m b s1
  | [], b, s, s1, h => by
    simp only [exSs] at h
    cases h
    rfl
  | x :: a, b, s, s1, h => by
    simp only [exSs, List.cons_append] at h ⊢
    split at h
    · rename_i s2 e
      rw [exSs_app h]
    · rename_i f s2 hn e
      cases h
      exact absurd rfl hn
    · cases h
def cel (ns : List Int) (k : Nat) : Int := ns[k]?.getD 0
theorem cmp_ne (a b : Int) : cmpD .NotEq (.int a) (.int b) = some (!(a == b)) := by
  simp only [cmpD, eqD_int]
abbrev lw0 (L : D) : List (Option (Bool × D)) := [some (false, L), none, none, none, none, none, none, none, none, none, none, none, none]
theorem law_pre (ns : List Int) (s c x : Nat) (fo : Bool) (mid I : Int) (m n : Nat) (hs : (1 : Int) + cel ns 0 % 20 = ((s + 1 : Nat) : Int)) (hc : (1 : Int) + cel ns 1 % 9 = ((c : Nat) : Int)) (hx : cel ns 2 % 10 = ((x : Nat) : Int)) (hf : (!(cel ns 3 % 8 == 1)) = fo)
    (hmid : ((x : Nat) : Int) + 1 + ((c : Nat) : Int) * (1 + ((s + 1 : Nat) : Int)) = mid) (hI : (if fo = true then mid + 1 else 2) = I) (hb : ((c : Nat) : Int).natAbs < 2 ^ 64) :
    exSs (run fns m (n + 1)) m (f_law.body.take 7) ⟨lw0 (.lst (ns.map .int)), []⟩ = some (.next, ⟨[some (false, .lst (ns.map .int)), some (false, .int ((s + 1 : Nat) : Int)), some (false, .int (c : Nat)), some (false, .int (x : Nat)), some (false, .bl fo), some (false, .int mid), some (false, .int I), none, none, none, none, none, none], []⟩) := by
  have c0 : run fns m (n + 1) 12 [.lst (ns.map .int), .int 0] [] = some (.ok (false, .int (cel ns 0)), []) := cell_at ns 0 m n []
  have c1 : run fns m (n + 1) 12 [.lst (ns.map .int), .int 1] [] = some (.ok (false, .int (cel ns 1)), []) := cell_at ns 1 m n []
  have c2 : run fns m (n + 1) 12 [.lst (ns.map .int), .int 2] [] = some (.ok (false, .int (cel ns 2)), []) := cell_at ns 2 m n []
  have c3 : run fns m (n + 1) 12 [.lst (ns.map .int), .int 3] [] = some (.ok (false, .int (cel ns 3)), []) := cell_at ns 3 m n []
  have p20 : (0 : Int) < 20 := by decide
  have p9 : (0 : Int) < 9 := by decide
  have p10 : (0 : Int) < 10 := by decide
  have p8 : (0 : Int) < 8 := by decide
  cases fo <;>
  · simp only [f_law, List.take_succ_cons, List.take_zero, lw0, exSs, exS, evM, evT, ev, evs, evRs, evo, evAnd, evOr, asRef, valR, refD, truR, truD, Fm.rd, Fm.wr, rds, startF, bltD, List.length_cons, List.length_nil, List.map_cons, List.map_nil, List.replicate, List.cons_append, List.nil_append, List.getElem?_cons_zero, List.getElem?_cons_succ, List.set_cons_zero, List.set_cons_succ, Nat.sub_self, Bool.false_eq_true, if_false, if_true, Nat.reduceAdd, Nat.reduceLT, Nat.reduceLeDiff, reduceIte, Nat.zero_add, c0, c1, c2, c3, bop, p20, p9, p10, p8, hs, hc, hx, cmp_ne, hf, hb, hmid, true_or, or_true, Bool.not_true, Bool.not_false] at hI ⊢
    try rw [hI]
abbrev lw1 (L : D) (s c x : Nat) (fo : Bool) (md inn : Nat) : List (Option (Bool × D)) := [some (false, L), some (false, .int ((s + 1 : Nat) : Int)), some (false, .int (c : Nat)), some (false, .int (x : Nat)), some (false, .bl fo), some (false, .int (md : Nat)), some (false, .int (inn : Nat)), none, none, none, none, none, none]
theorem dp_row : ∀ f : F4, PyData.strOk f.inner = true → ∀ r ∈ rowsOf f, ∃ k, r.dp = some k ∧ k ≤ 2 := by
  intro f hf r hr
  unfold rowsOf at hr
  simp only [List.mem_append, List.mem_map, List.mem_replicate, List.mem_cons, List.not_mem_nil, or_false] at hr
  have h1 : PyData.strOk ("out" : Str) = true := by decide +kernel
  have h2 : PyData.strOk ("call" : Str) = true := by decide +kernel
  have h3 : PyData.strOk ("x" : Str) = true := by decide +kernel
  have h4 : PyData.strOk ("back" : Str) = true := by decide +kernel
  rcases hr with ⟨k, _, rfl⟩ | ⟨_, rfl⟩ | rfl
  · exact ⟨1, by simp only [D.dp, dps, h1, if_true]; rfl, by decide⟩
  · exact ⟨2, by simp only [D.dp, dps, h2, h3, hf, if_true]; rfl, by decide⟩
  · exact ⟨1, by simp only [D.dp, dps, h4, h3, if_true]; rfl, by decide⟩
theorem dp_fn (nm : Str) (f : F4) (hn : PyData.strOk nm = true) (hf : PyData.strOk f.inner = true) : ∃ k, (fnD nm f).dp = some k ∧ k ≤ 5 := by
  obtain ⟨k, e, hk⟩ := dps_of (n := 2) (dp_row f hf)
  have e0 : D.dp (.tup []) = some 1 := by simp only [D.dp, dps]
  refine ⟨max 0 (max 0 (max 1 (max (k + 1) 0))) + 1, ?_, by omega⟩
  unfold fnD
  simp only [D.dp, dps, hn, if_true, e]
theorem eq_self (p : Pg) (h1 : PyData.strOk p.l.inner = true) (h2 : PyData.strOk p.m.inner = true) (h3 : PyData.strOk p.t.inner = true) : cmpD .Eq p.d p.d = some true := by
  obtain ⟨k, e, hk⟩ := dps_of (n := 5) (ds := p.ds) (by
    intro d hd
    unfold Pg.ds at hd
    simp only [List.mem_cons, List.not_mem_nil, or_false] at hd
    rcases hd with rfl | rfl | rfl | rfl
    · exact dp_fn _ _ (by decide +kernel) h1
    · exact dp_fn _ _ (by decide +kernel) h2
    · exact dp_fn _ _ (by decide +kernel) h3
    · exact dp_fn _ _ (by decide +kernel) (by decide +kernel))
  simp only [cmpD]
  refine eqD_self (n := k + 1) ?_ (by omega)
  simp only [D.dp, e]
theorem law_post (ns : List Int) (s c x : Nat) (fo : Bool) (md inn tn mo la : Nat) (v8 : Int) (m n : Nat) (hm : 202 ≤ m) (hs : s ≤ 100) (hcl : c ≤ 100) (hxl : x ≤ 100) (htl : tn ≤ 100) (hml : mo ≤ 100)
    (hin : (0 : Int) < ((inn : Nat) : Int) ∧ ((inn : Nat) : Int) < 2 ^ 64) (ht : (if (199 : Int) / ((inn : Nat) : Int) < 12 then (199 : Int) / ((inn : Nat) : Int) else 12) = ((tn : Nat) : Int))
    (h8 : (199 : Int) - ((tn : Nat) : Int) * ((inn : Nat) : Int) - 1 + cel ns 4 % 4 = v8) (hmo : v8 % 40 = ((mo : Nat) : Int)) (hla : ((tn : Nat) : Int) * ((inn : Nat) : Int) + ((mo : Nat) : Int) + 1 = ((la : Nat) : Int))
    (hb : ((tn : Nat) : Int).natAbs < 2 ^ 64) (hmd : md = x + c * (s + 2) + 1) (hlast : la = mo + tn * (if fo = true then x + c * (s + 2) + 2 else 2) + 1) :
    ∃ s', exSs (run fns (m + 1) (n + 7)) (m + 1) (f_law.body.drop 7) ⟨lw1 (.lst (ns.map .int)) s c x fo md inn, []⟩ = some (.ret (false, .bl true), s') ∧ s'.mu = [] := by
  have ok : (pg s c x fo mo tn).ok := ⟨by show s + 0 ≤ 900; omega, by show x + c ≤ 900; omega, by show mo + tn ≤ 900; omega⟩
  have c4 : run fns (m + 1) (n + 7) 12 [.lst (ns.map .int), .int 4] [] = some (.ok (false, .int (cel ns 4)), []) := cell_at ns 4 (m + 1) (n + 6) []
  have f1 : run fns (m + 1) (n + 7) 13 [.str "low", .bl true, .int (s : Nat), .int 0, .str ""] [] = some (.ok (false, fnD "low" ⟨true, s, 0, ""⟩), []) := law_fn "low" true s 0 "" (by omega) (by omega) (m + 1) (n + 6) []
  have f2 : run fns (m + 1) (n + 7) 13 [.str "mid", .bl fo, .int (x : Nat), .int (c : Nat), .str "low"] [] = some (.ok (false, fnD "mid" ⟨fo, x, c, "low"⟩), []) := law_fn "mid" fo x c "low" (by omega) (by omega) (m + 1) (n + 6) []
  have f3 : run fns (m + 1) (n + 7) 13 [.str "top", .bl false, .int (mo : Nat), .int (tn : Nat), .str "mid"] [] = some (.ok (false, fnD "top" ⟨false, mo, tn, "mid"⟩), []) := law_fn "top" false mo tn "mid" (by omega) (by omega) (m + 1) (n + 6) []
  have f4 : run fns (m + 1) (n + 7) 13 [.str "behind", .bl false, .int 0, .int 0, .str ""] [] = some (.ok (false, fnD "behind" ⟨false, 0, 0, ""⟩), []) := law_fn "behind" false 0 0 "" (by omega) (by omega) (m + 1) (n + 6) []
  have i1 : run fns (m + 1) (n + 7) 15 [.lst [fnD "low" ⟨true, s, 0, ""⟩, fnD "mid" ⟨fo, x, c, "low"⟩, fnD "top" ⟨false, mo, tn, "mid"⟩, fnD "behind" ⟨false, 0, 0, ""⟩], .str "top", .int (la : Nat)] [] = some (.ok (false, .bl true), []) := law_is (pg s c x fo mo tn) ok .top la (by rw [hlast]; exact len_top) m n hm []
  have i2 : run fns (m + 1) (n + 7) 15 [.lst [fnD "low" ⟨true, s, 0, ""⟩, fnD "mid" ⟨fo, x, c, "low"⟩, fnD "top" ⟨false, mo, tn, "mid"⟩, fnD "behind" ⟨false, 0, 0, ""⟩], .str "mid", .int (md : Nat)] [] = some (.ok (false, .bl true), []) := law_is (pg s c x fo mo tn) ok .mid md (by rw [hmd]; exact len_mid) m n hm []
  have i3 : run fns (m + 1) (n + 7) 15 [.lst [fnD "low" ⟨true, s, 0, ""⟩, fnD "mid" ⟨fo, x, c, "low"⟩, fnD "top" ⟨false, mo, tn, "mid"⟩, fnD "behind" ⟨false, 0, 0, ""⟩], .str "low", .int ((s + 1 : Nat) : Int)] [] = some (.ok (false, .bl true), []) := law_is (pg s c x fo mo tn) ok .low (s + 1) len_low m n hm []
  have eq : cmpD .Eq (.lst [fnD "low" ⟨true, s, 0, ""⟩, fnD "mid" ⟨fo, x, c, "low"⟩, fnD "top" ⟨false, mo, tn, "mid"⟩, fnD "behind" ⟨false, 0, 0, ""⟩]) (.lst [fnD "low" ⟨true, s, 0, ""⟩, fnD "mid" ⟨fo, x, c, "low"⟩, fnD "top" ⟨false, mo, tn, "mid"⟩, fnD "behind" ⟨false, 0, 0, ""⟩]) = some true := eq_self (pg s c x fo mo tn) (by show PyData.strOk "" = true; decide +kernel) (by show PyData.strOk "low" = true; decide +kernel) (by show PyData.strOk "mid" = true; decide +kernel)
  have n0 : ixD (.tup [.str "low", .str "mid", .str "top"]) (.int 0) = some (.str "low") := rfl
  have n1 : ixD (.tup [.str "low", .str "mid", .str "top"]) (.int 1) = some (.str "mid") := rfl
  have n2 : ixD (.tup [.str "low", .str "mid", .str "top"]) (.int 2) = some (.str "top") := rfl
  have hsub : ((s + 1 : Nat) : Int) - 1 = (s : Nat) := by omega
  have p4 : (0 : Int) < 4 := by decide
  have p40 : (0 : Int) < 40 := by decide
  have l2 : 2 ≤ LIM := by decide
  have l3 : 3 ≤ LIM := by decide
  have l2' : 2 < LIM := by decide
  have l3' : 3 < LIM := by decide
  simp only [f_law, List.drop_succ_cons, List.drop_zero, lw1, exSs, exS, evM, evT, ev, evs, evRs, evo, evAnd, evOr, asRef, valR, refD, truR, truD, Fm.rd, Fm.wr, rds, startF, bltD, List.length_cons, List.length_nil, List.map_cons, List.map_nil, List.replicate, List.cons_append, List.nil_append, List.getElem?_cons_zero, List.getElem?_cons_succ, List.set_cons_zero, List.set_cons_succ, Nat.sub_self, Bool.false_eq_true, if_false, if_true, Nat.reduceAdd, Nat.reduceLT, Nat.reduceLeDiff, reduceIte, Nat.zero_add, c4, f1, f2, f3, f4, i1, i2, i3, eq, n0, n1, n2, hsub, bop, p4, p40, l2, l3, l2', l3', hin, ht, h8, hmo, hla, hb, and_self, true_or, or_true, mthK, tyD, mthT, mthD, BEq.rfl, Bool.not_true]
  exact ⟨_, rfl, rfl⟩
theorem nat_of {z : Int} (h : 0 ≤ z) : z = ((z.toNat : Nat) : Int) := (Int.toNat_of_nonneg h).symm
theorem plain (ns : List Int) : ∃ m o mu, run tb.fns m 20 16 [.lst (ns.map .int)] [] = some (.ok (o, .bl true), mu) := by
  obtain ⟨s, hs⟩ : ∃ s : Nat, cel ns 0 % 20 = (s : Nat) := ⟨_, nat_of (by omega)⟩
  obtain ⟨c, hc⟩ : ∃ c : Nat, (1 : Int) + cel ns 1 % 9 = (c : Nat) := ⟨_, nat_of (by omega)⟩
  obtain ⟨x, hx⟩ : ∃ x : Nat, cel ns 2 % 10 = (x : Nat) := ⟨_, nat_of (by omega)⟩
  obtain ⟨fo, hf⟩ : ∃ fo : Bool, (!(cel ns 3 % 8 == 1)) = fo := ⟨_, rfl⟩
  obtain ⟨md, hmd⟩ : ∃ md : Nat, md = x + c * (s + 2) + 1 := ⟨_, rfl⟩
  obtain ⟨inn, hinn⟩ : ∃ inn : Nat, inn = if fo = true then md + 1 else 2 := ⟨_, rfl⟩
  have hi0 : 0 < inn := by rw [hinn]; split <;> omega
  have hc9 : c ≤ 9 := by omega
  have hs20 : s < 20 := by omega
  have hmdl : md ≤ 400 := by
    rw [hmd]
    have : c * (s + 2) ≤ 9 * 21 := Nat.mul_le_mul hc9 (by omega)
    omega
  have hil : inn ≤ 500 := by rw [hinn]; split <;> omega
  have p64 : (500 : Int) < 2 ^ 64 := by decide
  obtain ⟨q, hq⟩ : ∃ q : Int, q = (199 : Int) / ((inn : Nat) : Int) := ⟨_, rfl⟩
  have hq0 : 0 ≤ q := by rw [hq]; exact Int.ediv_nonneg (by decide) (by omega)
  obtain ⟨tn, ht⟩ : ∃ tn : Nat, (if (199 : Int) / ((inn : Nat) : Int) < 12 then (199 : Int) / ((inn : Nat) : Int) else 12) = (tn : Nat) := ⟨_, nat_of (by rw [← hq]; split <;> omega)⟩
  have htl : tn ≤ 12 := by rw [← hq] at ht; split at ht <;> omega
  obtain ⟨v8, h8⟩ : ∃ v8 : Int, (199 : Int) - ((tn : Nat) : Int) * ((inn : Nat) : Int) - 1 + cel ns 4 % 4 = v8 := ⟨_, rfl⟩
  obtain ⟨mo, hmo⟩ : ∃ mo : Nat, v8 % 40 = (mo : Nat) := ⟨_, nat_of (by omega)⟩
  obtain ⟨la, hla⟩ : ∃ la : Nat, la = tn * inn + mo + 1 := ⟨_, rfl⟩
  have small : ∀ k : Nat, k ≤ 1000 → ((k : Nat) : Int).natAbs < 2 ^ 64 := fun k hk => by
    rw [Int.natAbs_natCast]
    have : (1000 : Nat) < 2 ^ 64 := by decide
    omega
  obtain ⟨s', post, hmu⟩ := law_post ns s c x fo md inn tn mo la v8 1202 12 (by decide) (by omega) (by omega) (by omega) (by omega) (by omega) ⟨by omega, by omega⟩ ht h8 hmo (by rw [← Int.natCast_mul, hla]; omega) (small tn (by omega)) hmd (by
    have e : (if fo = true then x + c * (s + 2) + 2 else 2) = inn := by rw [hinn, hmd]
    rw [hla, e]
    omega)
  refine ⟨1203, false, [], run_ret (fn := f_law) rfl rfl ⟨s', ?_, hmu⟩⟩
  have e : f_law.body = f_law.body.take 7 ++ f_law.body.drop 7 := (List.take_append_drop _ _).symm
  have pre' : exSs (run tb.fns 1203 19) 1203 (f_law.body.take 7) ⟨startF f_law.N.length [.lst (ns.map .int)], []⟩ = _ := law_pre ns s c x fo (md : Nat) (inn : Nat) 1203 18 (by omega) hc hx hf (by
    have e : (1 : Int) + ((s + 1 : Nat) : Int) = ((s + 2 : Nat) : Int) := by omega
    rw [e, ← Int.natCast_mul, hmd]
    omega) (by rw [hinn]; cases fo <;> simp) (small c (by omega))
  rw [e, exSs_app pre']
  exact post
end K55

set_option maxRecDepth 100000 in
set_option maxHeartbeats 0 in
theorem PySem.Challenge.cw_stopglass_k55_too_long_holds : PySem.Challenge.rw_stopglass_k55_too_long.Holds := by
  exact K55.close fun ns _ => K55.plain ns
