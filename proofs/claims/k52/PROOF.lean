import PyProof.Rows.All
import Wide.All
import OpenK.AllK
import Wide.FinOn
import HandS.ForMost
import HandS.Deep
import HandS.Wide
import HandS.Exc
import HandS.ExcOwn
import HandS.ExcInit
import HandS.ExcValue
import KE.KDictKeyed
import HandS.WideBits
import HandS.NoneIn
import HandS.Flow
import HandS.AnyAll
import HandS.IsInst
import HandS.More
import KE.KDictDisplayH
import HandS.TupSets
import HandS.SetBool
import HandS.SortOrd
import HandS.Strs
import KE.KSortTupAny
import HandS.Iter
import HandS.Style
import HandS.Conv
import KE.KDictCopyH
import HandS.DictEq
import HandS.Codes
import KE.SortData
import HandS.DeepEq
import HandS.Finally
import KE.KEqNest
import HandS.WordsExc
import HandS.ExcField
import KE.KExcIs
import PySem.Challenge.RW_sightbook_k52_forty_sights
import HandS.EndBits
set_option Elab.async false
set_option linter.all false
set_option maxRecDepth 100000
namespace SB
open PySem L2
/-- data: immutable, or the n-th cell of what may still change, or the script -/
inductive D where
  | non | bl (b : Bool) | int (i : Int) | str (s : Str)
  | tup (xs : List D) | lst (xs : List D) | dic (es : List (D × D))
  | ins (c : Nat) (fs : List D) | ref (n : Nat) | scr (ns : List Int) | exc (c : Nat) (fs : List D)
  deriving Inhabited
/-- what may change; fz: no more -/
inductive Cell where
  | lst (xs : List D) | dic (es : List (D × D)) | ins (c : Nat) (fs : List D) | fz (d : D)
abbrev Mu := List Cell
abbrev Ev := List (Option D)
inductive Res (α : Type) where
  | ok (a : α) (μ : Mu) | bad
namespace Res
def bind {α β : Type} (r : Res α) (f : α → Mu → Res β) : Res β := match r with
  | .ok a μ => f a μ
  | .bad => .bad
@[simp] theorem bind_ok {α β : Type} (a : α) (μ : Mu) (f : α → Mu → Res β) : (Res.ok a μ).bind f = f a μ := rfl
@[simp] theorem bind_bad {α β : Type} (f : α → Mu → Res β) : (Res.bad : Res α).bind f = .bad := rfl
def of {α : Type} (o : Option α) (μ : Mu) : Res α := match o with
  | some a => .ok a μ
  | none => .bad
@[simp] theorem of_some {α : Type} (a : α) (μ : Mu) : Res.of (some a) μ = .ok a μ := rfl
@[simp] theorem of_none {α : Type} (μ : Mu) : Res.of (none : Option α) μ = .bad := rfl
end Res
/-- what is to be seen at d -/
def vw (μ : Mu) : D → D
  | .ref n => match μ[n]? with
    | some (.lst xs) => .lst xs
    | some (.dic es) => .dic es
    | some (.ins c fs) => .ins c fs
    | some (.fz d) => d
    | none => .non
  | d => d
/-- the items of what may be walked, sliced, counted as a list -/
def seqL : D → Option (List D)
  | .lst xs => some xs
  | .scr ns => some (ns.map .int)
  | _ => none
mutual
def keq : D → D → Bool
  | .non, .non => true
  | .bl a, .bl b => a == b
  | .int a, .int b => a == b
  | .bl a, .int b => (if a then 1 else 0) == b
  | .int a, .bl b => a == (if b then 1 else 0)
  | .str a, .str b => decide (a = b)
  | .tup xs, .tup ys => keqs xs ys
  | _, _ => false
def keqs : List D → List D → Bool
  | [], [] => true
  | x :: xs, y :: ys => keq x y && keqs xs ys
  | _, _ => false
end
mutual
def kdep : D → Option Nat
  | .non | .bl _ | .int _ | .str _ => some 0
  | .tup xs => (kdeps xs).map (· + 1)
  | _ => none
def kdeps : List D → Option Nat
  | [] => some 0
  | x :: xs => match kdep x, kdeps xs with
    | some a, some b => some (max a b)
    | _, _ => none
end
/-- false: an int or a text; true: a tuple of such, of no great depth -/
def kkind : D → Option Bool
  | .int _ | .str _ => some false
  | .tup xs => match kdeps xs with
    | some n => if n ≤ 6 then some true else none
    | none => none
  | _ => none
def dkind : List (D × D) → Option Bool
  | [] => none
  | (k, _) :: _ => kkind k
/-- may the key be asked of the dict -/
def kfits (es : List (D × D)) (k : D) : Bool := (kkind k).isSome && (es.isEmpty || dkind es == kkind k)
def dget (es : List (D × D)) (k : D) : Option D := (es.find? fun p => keq p.1 k).map (·.2)
def dput (es : List (D × D)) (k v : D) : List (D × D) :=
  if es.any fun p => keq p.1 k then es.map fun p => if keq p.1 k then (p.1, v) else p else es ++ [(k, v)]
def toPy : Nat → Mu → D → Option PyData
  | 0, _, _ => none
  | n + 1, μ, d => match vw μ d with
    | .non => some .none
    | .bl b => some (.bool b)
    | .int i => some (.int i)
    | .str s => some (.str s)
    | .tup xs => (xs.mapM (toPy n μ)).map .tuple
    | .lst xs => (xs.mapM (toPy n μ)).map .list
    | .scr ns => some (.list (ns.map .int))
    | _ => none
def toPyS (μ : Mu) (d : D) : Option PyData := match toPy 9 μ d with
  | some p => if SeqAt.shaped p then some p else none
  | none => none
def eqD (μ : Mu) (a b : D) : Option Bool := match toPyS μ a, toPyS μ b with
  | some p, some q => some (PyData.eqv p q)
  | _, _ => none
def inD (μ : Mu) (a : D) (b : D) : Option Bool := match toPyS μ a, toPyS μ b with
  | some p, some (.list qs) => some (qs.any fun z => PyData.eqv z p)
  | _, _ => none
/-- what is compared of a thing in a list that is sorted -/
abbrev SK := List (Int ⊕ List Nat)
inductive Shp where
  | i | s | b | ti (bs : List Bool) | li | ls
  deriving DecidableEq
def flat1 : D → Option (Int ⊕ List Nat)
  | .int i => some (.inl i)
  | .str s => some (.inr s.cps.toList)
  | _ => none
end SB
set_option Elab.async false
set_option linter.all false
set_option maxRecDepth 100000
namespace SB
open PySem L2
mutual
def nkey : D → Option NestedKey
  | .non => some .none
  | .bl b => some (.num (if b then 1 else 0))
  | .int i => some (.num i)
  | .str s => some (.text s)
  | .tup xs => (nkeys xs).map .tup
  | _ => none
def nkeys : List D → Option (List NestedKey)
  | [] => some []
  | x :: xs => match nkey x, nkeys xs with
    | some a, some b => some (a :: b)
    | _, _ => none
end
def dKey : Key → D
  | .inl i => .int i
  | .inr s => .str s
/-- the world a def runs in: program, world, the written part; the classes by number: address and attributes in order -/
structure Zx where
  P : Program
  w : World
  K : PySem.W.Frag
  ct : Nat → Addr × List Str
/-- a dict whose keys are tuples (of tuples ..) of ints, texts, bools, None -/
def dNok (P : Program) (w : World) (a : Addr) (nks : List (NestedKey × Addr × V)) (h : Heap) : Prop :=
  (nks.length ≤ sizeLine ∧ nks ≠ []) ∧ (a == sysModules) = false ∧ ∃ xs : List (NestedKey × Addr × Value), Paired (fun (p : NestedKey × Addr × V) (q : NestedKey × Addr × Value) => p.1 = q.1 ∧ p.2.1 = q.2.1 ∧ RelV p.2.2 q.2.2) nks xs ∧
    ∃ o es ep, h.get? a = some o ∧ o.ExactDict ∧ o.data = .dict es ep ∧ es.toList = xs.map (entryOfKey (nestedKind P w)) ∧ (xs.map (·.1)).Nodup
def dN (P : Program) (w : World) (a : Addr) (nks : List (NestedKey × Addr × V)) : HO := .ext (dNok P w a nks)
/-- an exception object that stands as a value -/
def ExK (cls : Value) (d : Option Addr) (a : Addr) : HO := .ext fun h => ∃ (oe : Obj) (vs : Array Value), h.get? a = some oe ∧ Zc cls d oe ∧ oe.data = .fields vs
/-- its attributes -/
def XdK (F : Hp) (d : Option Addr) (ns : List Str) (vs : List V) : Prop := match d with
  | some dx => F dx = some (.xd (ns.zip vs))
  | none => vs = []
mutual
/-- v is d, by the frozen part F and the cells' places m -/
def Rl (Z : Zx) (F : Hp) (m : List Addr) : D → V → Prop
  | .non, v => v = .non
  | .bl b, v => v = .bl b
  | .int i, v => v = .int i
  | .str s, v => v = .str s
  | .tup xs, v => ∃ a vs, v = .ref a ∧ F a = some (.tup vs) ∧ Rls Z F m xs vs
  | .lst xs, v => ∃ a vs, v = .ref a ∧ F a = some (.lst vs) ∧ Rls Z F m xs vs
  | .dic es, v => ∃ a o u, v = .ref a ∧ F a = some (.frz o u) ∧ ((∃ ks, u = .dK ks ∧ Rlk Z F m es ks) ∨ ∃ ns, u = dN Z.P Z.w a ns ∧ Rln Z F m es ns)
  | .ins c fs, v => ∃ a dx vs, v = .ref a ∧ F a = some (.ins (Z.ct c).1 dx ((Z.ct c).2.zip vs)) ∧ Rls Z F m fs vs ∧ vs.length ≤ (Z.ct c).2.length
  | .ref n, v => ∃ a, v = .ref a ∧ m[n]? = some a
  | .scr ns, v => ∃ a, v = .ref a ∧ SqL Z.K F a (ns.map .int)
  | .exc c fs, v => ∃ a dx vs, v = .ref a ∧ F a = some (ExK (.ref (Z.ct c).1) dx a) ∧ XdK F dx (Z.ct c).2 vs ∧ Rls Z F m fs vs ∧ vs.length ≤ (Z.ct c).2.length
def Rls (Z : Zx) (F : Hp) (m : List Addr) : List D → List V → Prop
  | [], vs => vs = []
  | d :: ds, vs => ∃ v r, vs = v :: r ∧ Rl Z F m d v ∧ Rls Z F m ds r
def Rlk (Z : Zx) (F : Hp) (m : List Addr) : List (D × D) → List (Key × V) → Prop
  | [], ks => ks = []
  | (k, d) :: es, ks => ∃ q v r, ks = (q, v) :: r ∧ k = dKey q ∧ Rl Z F m d v ∧ Rlk Z F m es r
def Rln (Z : Zx) (F : Hp) (m : List Addr) : List (D × D) → List (NestedKey × Addr × V) → Prop
  | [], ks => ks = []
  | (k, d) :: es, ks => ∃ q b v r, ks = (q, b, v) :: r ∧ (nkey k = some q ∧ kkind k = some true) ∧ Rl Z F m k (.ref b) ∧ Rl Z F m d v ∧ Rln Z F m es r
end
/-- u is the dict es at a -/
def Rlu (Z : Zx) (F : Hp) (m : List Addr) (a : Addr) (es : List (D × D)) (u : HO) : Prop :=
  (∃ ks, u = .dK ks ∧ Rlk Z F m es ks) ∨ ∃ ns, u = dN Z.P Z.w a ns ∧ Rln Z F m es ns
structure Gr (F : Hp) (m : List Addr) (F' : Hp) (m' : List Addr) : Prop where
  ff : ∀ a o, F a = some o → F' a = some o
  mm : ∀ (n : Nat) (a : Addr), m[n]? = some a → m'[n]? = some a
theorem Gr.refl (F : Hp) (m : List Addr) : Gr F m F m := ⟨fun _ _ e => e, fun _ _ e => e⟩
theorem Gr.trans {F F' F'' : Hp} {m m' m'' : List Addr} (a : Gr F m F' m') (b : Gr F' m' F'' m'') : Gr F m F'' m'' := ⟨fun c o e => b.ff c o (a.ff c o e), fun n c e => b.mm n c (a.mm n c e)⟩
theorem sql_gr {K : PySem.W.Frag} {F F' : Hp} {m m' : List Addr} (g : Gr F m F' m') {a : Addr} {xs : List V} (h : SqL K F a xs) : SqL K F' a xs := by
  rcases h with (h | ⟨o, h⟩) | h
  · exact .inl (.inl (g.ff _ _ h))
  · exact .inl (.inr ⟨o, g.ff _ _ h⟩)
  · exact .inr h
theorem XdK.gr {F F' : Hp} {m m' : List Addr} (g : Gr F m F' m') {dx : Option Addr} {ns : List Str} {vs : List V} (h : XdK F dx ns vs) : XdK F' dx ns vs := by
  cases dx with
  | none => exact h
  | some d => exact g.ff _ _ h
section
variable {Z : Zx} {F F' : Hp} {m m' : List Addr}
mutual
theorem Rl.gr (g : Gr F m F' m') : ∀ (d : D) (v : V), Rl Z F m d v → Rl Z F' m' d v
  | .non, v, h => by simp only [Rl] at h ⊢; exact h
  | .bl b, v, h => by simp only [Rl] at h ⊢; exact h
  | .int b, v, h => by simp only [Rl] at h ⊢; exact h
  | .str b, v, h => by simp only [Rl] at h ⊢; exact h
  | .tup xs, v, h => by
    simp only [Rl] at h ⊢
    obtain ⟨a, vs, e, f, r⟩ := h
    exact ⟨a, vs, e, g.ff _ _ f, Rls.gr g xs vs r⟩
  | .lst xs, v, h => by
    simp only [Rl] at h ⊢
    obtain ⟨a, vs, e, f, r⟩ := h
    exact ⟨a, vs, e, g.ff _ _ f, Rls.gr g xs vs r⟩
  | .dic es, v, h => by
    simp only [Rl] at h ⊢
    obtain ⟨a, o, u, e, f, r⟩ := h
    refine ⟨a, o, u, e, g.ff _ _ f, ?_⟩
    rcases r with ⟨ks, e, r⟩ | ⟨ks, e, r⟩
    · exact .inl ⟨ks, e, Rlk.gr g es ks r⟩
    · exact .inr ⟨ks, e, Rln.gr g es ks r⟩
  | .ins c fs, v, h => by
    simp only [Rl] at h ⊢
    obtain ⟨a, dx, vs, e, f, r, l⟩ := h
    exact ⟨a, dx, vs, e, g.ff _ _ f, Rls.gr g fs vs r, l⟩
  | .ref n, v, h => by
    simp only [Rl] at h ⊢
    obtain ⟨a, e, f⟩ := h
    exact ⟨a, e, g.mm _ _ f⟩
  | .scr ns, v, h => by
    simp only [Rl] at h ⊢
    obtain ⟨a, e, f⟩ := h
    exact ⟨a, e, sql_gr g f⟩
  | .exc c fs, v, h => by
    simp only [Rl] at h ⊢
    obtain ⟨a, dx, vs, e, f, x, r, l⟩ := h
    exact ⟨a, dx, vs, e, g.ff _ _ f, x.gr g, Rls.gr g fs vs r, l⟩
theorem Rls.gr (g : Gr F m F' m') : ∀ (ds : List D) (vs : List V), Rls Z F m ds vs → Rls Z F' m' ds vs
  | [], vs, h => by simp only [Rls] at h ⊢; exact h
  | d :: ds, vs, h => by
    simp only [Rls] at h ⊢
    obtain ⟨v, r, e, h1, h2⟩ := h
    exact ⟨v, r, e, Rl.gr g d v h1, Rls.gr g ds r h2⟩
theorem Rlk.gr (g : Gr F m F' m') : ∀ (es : List (D × D)) (ks : List (Key × V)), Rlk Z F m es ks → Rlk Z F' m' es ks
  | [], ks, h => by simp only [Rlk] at h ⊢; exact h
  | (k, d) :: es, ks, h => by
    simp only [Rlk] at h ⊢
    obtain ⟨q, v, r, e, e2, h1, h2⟩ := h
    exact ⟨q, v, r, e, e2, Rl.gr g d v h1, Rlk.gr g es r h2⟩
theorem Rln.gr (g : Gr F m F' m') : ∀ (es : List (D × D)) (ks : List (NestedKey × Addr × V)), Rln Z F m es ks → Rln Z F' m' es ks
  | [], ks, h => by simp only [Rln] at h ⊢; exact h
  | (k, d) :: es, ks, h => by
    simp only [Rln] at h ⊢
    obtain ⟨q, b, v, r, e, e2, h0, h1, h2⟩ := h
    exact ⟨q, b, v, r, e, e2, Rl.gr g k _ h0, Rl.gr g d v h1, Rln.gr g es r h2⟩
end
theorem Rlu.gr (g : Gr F m F' m') {a : Addr} {es : List (D × D)} {u : HO} (h : Rlu Z F m a es u) : Rlu Z F' m' a es u := by
  rcases h with ⟨ks, e, r⟩ | ⟨ks, e, r⟩
  · exact .inl ⟨ks, e, Rlk.gr g es ks r⟩
  · exact .inr ⟨ks, e, Rln.gr g es ks r⟩
theorem Rls.length : ∀ {ds : List D} {vs : List V}, Rls Z F m ds vs → vs.length = ds.length
  | [], vs, h => by simp only [Rls] at h; simp [h]
  | d :: ds, vs, h => by
    simp only [Rls] at h
    obtain ⟨v, r, e, _, h2⟩ := h
    have := Rls.length h2
    simp [e, this]
theorem Rls.get : ∀ {ds : List D} {vs : List V} {i : Nat} {d : D}, Rls Z F m ds vs → ds[i]? = some d → ∃ v, vs[i]? = some v ∧ Rl Z F m d v
  | [], vs, i, d, h, e => by simp at e
  | d :: ds, vs, 0, d', h, e => by
    simp only [Rls] at h
    obtain ⟨v, r, e1, h1, _⟩ := h
    simp at e
    subst e1 e
    exact ⟨v, rfl, h1⟩
  | d :: ds, vs, i + 1, d', h, e => by
    simp only [Rls] at h
    obtain ⟨v, r, e1, _, h2⟩ := h
    subst e1
    obtain ⟨v', q, z⟩ := Rls.get (i := i) h2 (by simpa using e)
    exact ⟨v', by simpa using q, z⟩
theorem Rls.append : ∀ {ds es : List D} {vs us : List V}, Rls Z F m ds vs → Rls Z F m es us → Rls Z F m (ds ++ es) (vs ++ us)
  | [], es, vs, us, h, k => by simp only [Rls] at h; subst h; simpa using k
  | d :: ds, es, vs, us, h, k => by
    simp only [Rls] at h
    obtain ⟨v, r, e, h1, h2⟩ := h
    subst e
    show Rls Z F m (d :: (ds ++ es)) (v :: (r ++ us))
    simp only [Rls]
    exact ⟨v, _, rfl, h1, Rls.append h2 k⟩
theorem Rls.one {d : D} {v : V} (h : Rl Z F m d v) : Rls Z F m [d] [v] := by simp only [Rls]; exact ⟨v, [], rfl, h, rfl⟩
theorem Rls.cons {d : D} {v : V} {ds : List D} {vs : List V} (h : Rl Z F m d v) (t : Rls Z F m ds vs) : Rls Z F m (d :: ds) (v :: vs) := by simp only [Rls]; exact ⟨v, vs, rfl, h, t⟩
theorem Rls.nil : Rls Z F m [] [] := by simp only [Rls]
theorem Rls.set : ∀ {ds : List D} {vs : List V} (i : Nat) {d : D} {v : V}, Rls Z F m ds vs → Rl Z F m d v → Rls Z F m (ds.set i d) (vs.set i v)
  | [], vs, i, d, v, h, k => by simp only [Rls] at h; subst h; simp only [List.set_nil, Rls]
  | d :: ds, vs, 0, d', v', h, k => by
    simp only [Rls] at h
    obtain ⟨v, r, e, h1, h2⟩ := h
    subst e
    exact .cons k h2
  | d :: ds, vs, i + 1, d', v', h, k => by
    simp only [Rls] at h
    obtain ⟨v, r, e, h1, h2⟩ := h
    subst e
    exact .cons h1 (Rls.set i h2 k)
theorem Rls.drop : ∀ {ds : List D} {vs : List V} (n : Nat), Rls Z F m ds vs → Rls Z F m (ds.drop n) (vs.drop n)
  | ds, vs, 0, h => h
  | [], vs, n + 1, h => by simp only [Rls] at h; subst h; simp only [List.drop_nil, Rls]
  | d :: ds, vs, n + 1, h => by
    simp only [Rls] at h
    obtain ⟨v, r, e, h1, h2⟩ := h
    subst e
    exact Rls.drop n h2
theorem Rls.take : ∀ {ds : List D} {vs : List V} (n : Nat), Rls Z F m ds vs → Rls Z F m (ds.take n) (vs.take n)
  | ds, vs, 0, h => by simp only [List.take_zero, Rls]
  | [], vs, n + 1, h => by simp only [Rls] at h; subst h; simp only [List.take_nil, Rls]
  | d :: ds, vs, n + 1, h => by
    simp only [Rls] at h
    obtain ⟨v, r, e, h1, h2⟩ := h
    subst e
    exact .cons h1 (Rls.take n h2)
theorem Rls.dropLast {ds : List D} {vs : List V} (h : Rls Z F m ds vs) : Rls Z F m ds.dropLast vs.dropLast := by
  rw [List.dropLast_eq_take, List.dropLast_eq_take, h.length]
  exact h.take _
theorem Rls.reverse : ∀ {ds : List D} {vs : List V}, Rls Z F m ds vs → Rls Z F m ds.reverse vs.reverse
  | [], vs, h => by simp only [Rls] at h; subst h; simp only [List.reverse_nil, Rls]
  | d :: ds, vs, h => by
    simp only [Rls] at h
    obtain ⟨v, r, e, h1, h2⟩ := h
    subst e
    rw [List.reverse_cons, List.reverse_cons]
    exact Rls.append (Rls.reverse h2) (.one h1)
theorem Rls.ints : ∀ (ns : List Int), Rls Z F m (ns.map .int) (ns.map .int)
  | [] => .nil
  | n :: ns => .cons (by simp only [Rl]) (Rls.ints ns)
end
def fzok : D → Bool
  | .lst _ | .dic _ | .ins _ _ => true
  | _ => false
def CellOk (Z : Zx) (F : Hp) (m : List Addr) (H : Hp) (a : Addr) : Cell → Prop
  | .lst xs => F a = none ∧ ∃ vs, H a = some (.lst vs) ∧ Rls Z F m xs vs
  | .dic es => F a = none ∧ ∃ u, H a = some u ∧ Rlu Z F m a es u
  | .ins c fs => F a = none ∧ ∃ dx vs, H a = some (.ins (Z.ct c).1 dx ((Z.ct c).2.zip vs)) ∧ Rls Z F m fs vs ∧ vs.length ≤ (Z.ct c).2.length
  | .fz d => fzok d = true ∧ Rl Z F m d (.ref a)
structure Wd (Z : Zx) (F : Hp) (m : List Addr) (μ : Mu) (H : Hp) : Prop where
  le : ∀ a o, F a = some o → H a = some o
  len : m.length = μ.length
  nd : m.Nodup
  cell : ∀ (n : Nat) (a : Addr) (c : Cell), m[n]? = some a → μ[n]? = some c → CellOk Z F m H a c
/-- what a run may have changed -/
structure Xt (F : Hp) (m : List Addr) (H : Hp) (F' : Hp) (m' : List Addr) (H' : Hp) : Prop where
  ff : ∀ a o, F a = some o → F' a = some o
  mm : ∃ t, m' = m ++ t ∧ ∀ a ∈ t, H a = none
  fr : ∀ a o, H a = some o → a ∉ m → H' a = some o
  fn : ∀ a o, F' a = some o → F a = some o ∨ H a = none ∨ a ∈ m
theorem Xt.gr {F F' H H' : Hp} {m m' : List Addr} (x : Xt F m H F' m' H') : Gr F m F' m' := by
  refine ⟨x.ff, fun n a e => ?_⟩
  obtain ⟨t, rfl, _⟩ := x.mm
  have hn : n < m.length := (List.getElem?_eq_some_iff.mp e).1
  rw [List.getElem?_append_left hn]
  exact e
theorem Xt.refl (F : Hp) (m : List Addr) (H : Hp) : Xt F m H F m H := ⟨fun _ _ e => e, ⟨[], by simp, by simp⟩, fun _ _ e _ => e, fun _ _ e => .inl e⟩
theorem Xt.trans {F F' F'' H H' H'' : Hp} {m m' m'' : List Addr} (a : Xt F m H F' m' H') (b : Xt F' m' H' F'' m'' H'') (mt : ∀ c, c ∈ m' → H' c ≠ none) : Xt F m H F'' m'' H'' := by
  obtain ⟨t, e1, h1⟩ := a.mm
  obtain ⟨t', e2, h2⟩ := b.mm
  have back : ∀ c, H' c = none → H c = none ∨ c ∈ m := fun c n => by
    cases q : H c with
    | none => exact .inl rfl
    | some o =>
      by_cases hc : c ∈ m
      · exact .inr hc
      · rw [a.fr c o q hc] at n; cases n
  refine ⟨fun c o e => b.ff c o (a.ff c o e), ⟨t ++ t', by rw [e2, e1, List.append_assoc], fun c hc => ?_⟩, fun c o e hc => ?_, fun c o e => ?_⟩
  · rcases List.mem_append.mp hc with z | z
    · exact h1 c z
    · rcases back c (h2 c z) with y | y
      · exact y
      · exact absurd (h2 c z) (mt c (by rw [e1]; exact List.mem_append_left _ y))
  · refine b.fr c o (a.fr c o e hc) fun z => ?_
    rw [e1] at z
    rcases List.mem_append.mp z with y | y
    · exact hc y
    · rw [h1 c y] at e; cases e
  · rcases b.fn c o e with z | z | z
    · exact a.fn c o z
    · rcases back c z with y | y
      · exact .inr (.inl y)
      · exact .inr (.inr y)
    · rw [e1] at z
      rcases List.mem_append.mp z with y | y
      · exact .inr (.inr y)
      · exact .inr (.inl (h1 c y))
theorem Wd.there {Z : Zx} {F H : Hp} {m : List Addr} {μ : Mu} (W : Wd Z F m μ H) : ∀ c, c ∈ m → H c ≠ none := fun c hc => by
  obtain ⟨n, hn, e⟩ := List.getElem_of_mem hc
  have e1 : m[n]? = some c := by rw [List.getElem?_eq_getElem hn, e]
  have e2 : μ[n]? = some (μ[n]'(by have := W.len; omega)) := List.getElem?_eq_getElem _
  have k := W.cell n c _ e1 e2
  generalize μ[n]'(by have := W.len; omega) = cl at k
  cases cl with
  | lst xs => obtain ⟨_, vs, e, _⟩ := k; rw [e]; simp
  | dic es => obtain ⟨_, u, e, _⟩ := k; rw [e]; simp
  | ins c fs => obtain ⟨_, dx, vs, e, _⟩ := k; rw [e]; simp
  | fz d =>
    obtain ⟨z, k⟩ := k
    cases d <;> simp only [fzok] at z <;> first | (exfalso; exact Bool.noConfusion z) | skip
    · simp only [Rl] at k
      obtain ⟨a, vs, e, f, _⟩ := k
      cases e
      rw [W.le _ _ f]; simp
    · simp only [Rl] at k
      obtain ⟨a, o, u, e, f, _⟩ := k
      cases e
      rw [W.le _ _ f]; simp
    · simp only [Rl] at k
      obtain ⟨a, dx, vs, e, f, _⟩ := k
      cases e
      rw [W.le _ _ f]; simp
end SB
set_option Elab.async false
set_option linter.all false
set_option maxRecDepth 100000
namespace SB
open PySem L2
section
variable {Z : Zx} {F F' H H' : Hp} {m m' : List Addr} {μ : Mu}
theorem CellOk.mono {a : Addr} {c : Cell} (k : CellOk Z F m H a c) (g : Gr F m F' m') (hf : F a = none → F' a = none) (hh : ∀ o, H a = some o → H' a = some o) : CellOk Z F' m' H' a c := by
  cases c with
  | lst xs => obtain ⟨n, vs, e, r⟩ := k; exact ⟨hf n, vs, hh _ e, Rls.gr g _ _ r⟩
  | dic es => obtain ⟨n, u, e, r⟩ := k; exact ⟨hf n, u, hh _ e, Rlu.gr g r⟩
  | ins c fs => obtain ⟨n, dx, vs, e, r, l⟩ := k; exact ⟨hf n, dx, vs, hh _ e, Rls.gr g _ _ r, l⟩
  | fz d => exact ⟨k.1, Rl.gr g _ _ k.2⟩
theorem nodup_at {α : Type} {l : List α} (h : l.Nodup) {i j : Nat} {x : α} (a : l[i]? = some x) (b : l[j]? = some x) : i = j := by
  obtain ⟨h1, e1⟩ := List.getElem?_eq_some_iff.mp a
  obtain ⟨h2, e2⟩ := List.getElem?_eq_some_iff.mp b
  exact (List.getElem_inj h).mp (e1.trans e2.symm)
theorem upd_gr {p : Addr} {o : HO} (n : F p = none) : Gr F m (upd F p o) m := ⟨fun a u e => by rw [upd_ne (ne_of_none e n)]; exact e, fun _ _ e => e⟩
/-- a new object that never changes -/
theorem Wd.frozen (W : Wd Z F m μ H) {p : Addr} (o : HO) (n : H p = none) : Wd Z (upd F p o) m μ (upd H p o) ∧ Xt F m H (upd F p o) m (upd H p o) := by
  have nF : F p = none := by
    cases q : F p with
    | none => rfl
    | some u => rw [W.le _ _ q] at n; cases n
  refine ⟨⟨fun a u e => ?_, W.len, W.nd, fun i a c e1 e2 => ?_⟩, ⟨(upd_gr (m := m) nF).ff, ⟨[], by simp, by simp⟩, fun a u e _ => by rw [upd_ne (ne_of_none e n)]; exact e, fun a u e => ?_⟩⟩
  · by_cases h : a = p
    · subst h; rw [upd_same] at e ⊢; exact e
    · rw [upd_ne h] at e ⊢; exact W.le _ _ e
  · have hap : a ≠ p := fun z => W.there a (List.mem_of_getElem? e1) (z ▸ n)
    exact (W.cell i a c e1 e2).mono (upd_gr nF) (fun z => by rw [upd_ne hap]; exact z) fun u z => by rw [upd_ne hap]; exact z
  · by_cases h : a = p
    · subst h; exact .inr (.inl n)
    · rw [upd_ne h] at e; exact .inl e
/-- a new cell -/
theorem Wd.cellNew (W : Wd Z F m μ H) {p : Addr} {o : HO} (c : Cell) (n : H p = none) (k : CellOk Z F (m ++ [p]) (upd H p o) p c) : Wd Z F (m ++ [p]) (μ ++ [c]) (upd H p o) ∧ Xt F m H F (m ++ [p]) (upd H p o) := by
  have hap : ∀ a ∈ m, a ≠ p := fun a h z => W.there a h (z ▸ n)
  have g : Gr F m F (m ++ [p]) := ⟨fun _ _ e => e, fun i a e => by rw [List.getElem?_append_left (List.getElem?_eq_some_iff.mp e).1]; exact e⟩
  refine ⟨⟨fun a u e => ?_, by simp [W.len], ?_, fun i a c' e1 e2 => ?_⟩, ⟨fun _ _ e => e, ⟨[p], rfl, fun a h => by rw [List.mem_singleton.mp h]; exact n⟩, fun a u e _ => by rw [upd_ne (ne_of_none e n)]; exact e, fun _ _ e => .inl e⟩⟩
  · rw [upd_ne (ne_of_none (W.le _ _ e) n)]; exact W.le _ _ e
  · rw [List.nodup_append]
    refine ⟨W.nd, by simp, fun a h b h2 => ?_⟩
    rw [List.mem_singleton.mp h2]
    exact hap a h
  · by_cases hi : i < m.length
    · rw [List.getElem?_append_left hi] at e1
      rw [List.getElem?_append_left (by rw [← W.len]; exact hi)] at e2
      refine (W.cell i a c' e1 e2).mono g (fun z => z) fun u z => ?_
      rw [upd_ne (hap a (List.mem_of_getElem? e1))]; exact z
    · have h1 : i = m.length := by
        have := (List.getElem?_eq_some_iff.mp e1).1
        simp at this
        omega
      subst h1
      simp at e1
      rw [W.len] at e2
      simp at e2
      subst e1 e2
      exact k
/-- a cell is written -/
theorem Wd.write (W : Wd Z F m μ H) {n : Nat} {a : Addr} {o : HO} (c : Cell) (hn : m[n]? = some a) (nF : F a = none) (k : CellOk Z F m (upd H a o) a c) : Wd Z F m (μ.set n c) (upd H a o) ∧ Xt F m H F m (upd H a o) := by
  refine ⟨⟨fun b u e => ?_, by simp [W.len], W.nd, fun i b c' e1 e2 => ?_⟩, ⟨fun _ _ e => e, ⟨[], by simp, by simp⟩, fun b u e hb => ?_, fun _ _ e => .inl e⟩⟩
  · rw [upd_ne (ne_of_none e nF)]; exact W.le _ _ e
  · by_cases h : i = n
    · subst h
      rw [hn] at e1; cases e1
      have hl : i < μ.length := by rw [← W.len]; exact (List.getElem?_eq_some_iff.mp hn).1
      rw [List.getElem?_set_self hl] at e2; cases e2
      exact k
    · rw [List.getElem?_set_ne (Ne.symm h)] at e2
      have hb : b ≠ a := fun z => h (nodup_at W.nd e1 (z ▸ hn))
      exact (W.cell i b c' e1 e2).mono (Gr.refl _ _) (fun z => z) fun u z => by rw [upd_ne hb]; exact z
  · have : b ≠ a := fun z => hb (z ▸ List.mem_of_getElem? hn)
    rw [upd_ne this]; exact e
/-- a cell is frozen: o stands there, as it is or locked -/
theorem Wd.freeze (W : Wd Z F m μ H) {n : Nat} {a : Addr} {o : HO} (d : D) (hn : m[n]? = some a) (nF : F a = none) (hz : fzok d = true) (hH : ∀ b u, b ≠ a → H b = some u → H' b = some u) (hb : ∀ b u, b ≠ a → H' b = some u → H b = some u) (hA : H' a = some o)
    (k : Rl Z (upd F a o) m d (.ref a)) : Wd Z (upd F a o) m (μ.set n (.fz d)) H' ∧ Xt F m H (upd F a o) m H' := by
  refine ⟨⟨fun b u e => ?_, by simp [W.len], W.nd, fun i b c' e1 e2 => ?_⟩, ⟨(upd_gr (m := m) nF).ff, ⟨[], by simp, by simp⟩, fun b u e hb => ?_, fun b u e => ?_⟩⟩
  · by_cases h : b = a
    · subst h; rw [upd_same] at e; cases e; exact hA
    · rw [upd_ne h] at e; exact hH b u h (W.le _ _ e)
  · by_cases h : i = n
    · subst h
      rw [hn] at e1; cases e1
      have hl : i < μ.length := by rw [← W.len]; exact (List.getElem?_eq_some_iff.mp hn).1
      rw [List.getElem?_set_self hl] at e2; cases e2
      exact ⟨hz, k⟩
    · rw [List.getElem?_set_ne (Ne.symm h)] at e2
      have hba : b ≠ a := fun z => h (nodup_at W.nd e1 (z ▸ hn))
      exact (W.cell i b c' e1 e2).mono (upd_gr nF) (fun z => by rw [upd_ne hba]; exact z) fun u z => hH b u hba z
  · exact hH b u (fun z => hb (z ▸ List.mem_of_getElem? hn)) e
  · by_cases h : b = a
    · subst h; exact .inr (.inr (List.mem_of_getElem? hn))
    · rw [upd_ne h] at e; exact .inl e
theorem Wd.at (W : Wd Z F m μ H) {n : Nat} {v : V} (r : Rl Z F m (.ref n) v) : ∃ a c, v = .ref a ∧ m[n]? = some a ∧ μ[n]? = some c ∧ CellOk Z F m H a c := by
  simp only [Rl] at r
  obtain ⟨a, e, h⟩ := r
  have hl : n < μ.length := by rw [← W.len]; exact (List.getElem?_eq_some_iff.mp h).1
  exact ⟨a, μ[n], e, h, List.getElem?_eq_getElem hl, W.cell n a _ h (List.getElem?_eq_getElem hl)⟩
theorem vw_lst (W : Wd Z F m μ H) {d : D} {v : V} {xs : List D} (r : Rl Z F m d v) (e : vw μ d = .lst xs) : ∃ a vs, v = .ref a ∧ H a = some (.lst vs) ∧ Rls Z F m xs vs := by
  cases d with
  | lst ys =>
    simp only [vw] at e; cases e
    simp only [Rl] at r
    obtain ⟨a, vs, e1, f, q⟩ := r
    exact ⟨a, vs, e1, W.le _ _ f, q⟩
  | ref n =>
    obtain ⟨a, c, e1, h1, h2, k⟩ := W.at r
    simp only [vw, h2] at e
    cases c with
    | lst ys => cases e; obtain ⟨_, vs, e2, q⟩ := k; exact ⟨a, vs, e1, e2, q⟩
    | dic es => cases e
    | ins c fs => cases e
    | fz d =>
      have e' : d = .lst xs := e
      subst e'
      have q := k.2
      simp only [Rl] at q
      obtain ⟨b, vs, e2, f, q⟩ := q
      cases e2
      exact ⟨_, vs, e1, W.le _ _ f, q⟩
  | _ => simp only [vw] at e; cases e
theorem vw_dic (W : Wd Z F m μ H) {d : D} {v : V} {es : List (D × D)} (r : Rl Z F m d v) (e : vw μ d = .dic es) : ∃ a u, v = .ref a ∧ Rd H a u ∧ Rlu Z F m a es u := by
  cases d with
  | dic ys =>
    simp only [vw] at e; cases e
    simp only [Rl] at r
    obtain ⟨a, o, u, e1, f, q⟩ := r
    exact ⟨a, u, e1, .inr ⟨o, W.le _ _ f⟩, q⟩
  | ref n =>
    obtain ⟨a, c, e1, h1, h2, k⟩ := W.at r
    simp only [vw, h2] at e
    cases c with
    | lst ys => cases e
    | dic ys => cases e; obtain ⟨_, u, e2, q⟩ := k; exact ⟨a, u, e1, .inl e2, q⟩
    | ins c fs => cases e
    | fz d =>
      have e' : d = .dic es := e
      subst e'
      have q := k.2
      simp only [Rl] at q
      obtain ⟨b, o, u, e2, f, q⟩ := q
      cases e2
      exact ⟨_, u, e1, .inr ⟨o, W.le _ _ f⟩, q⟩
  | _ => simp only [vw] at e; cases e
theorem vw_ins (W : Wd Z F m μ H) {d : D} {v : V} {c : Nat} {fs : List D} (r : Rl Z F m d v) (e : vw μ d = .ins c fs) : ∃ a dx vs, v = .ref a ∧ H a = some (.ins (Z.ct c).1 dx ((Z.ct c).2.zip vs)) ∧ Rls Z F m fs vs ∧ vs.length ≤ (Z.ct c).2.length := by
  cases d with
  | ins c' fs' =>
    simp only [vw] at e; cases e
    simp only [Rl] at r
    obtain ⟨a, dx, vs, e1, f, q, l⟩ := r
    exact ⟨a, dx, vs, e1, W.le _ _ f, q, l⟩
  | ref n =>
    obtain ⟨a, cl, e1, h1, h2, k⟩ := W.at r
    simp only [vw, h2] at e
    cases cl with
    | lst ys => cases e
    | dic ys => cases e
    | ins c' fs' => cases e; obtain ⟨_, dx, vs, e2, q, l⟩ := k; exact ⟨a, dx, vs, e1, e2, q, l⟩
    | fz d =>
      have e' : d = .ins c fs := e
      subst e'
      have q := k.2
      simp only [Rl] at q
      obtain ⟨b, dx, vs, e2, f, q, l⟩ := q
      cases e2
      exact ⟨_, dx, vs, e1, W.le _ _ f, q, l⟩
  | _ => simp only [vw] at e; cases e
/-- what is seen and is no list, dict, instance is the thing itself -/
theorem vw_self (W : Wd Z F m μ H) {d : D} {v : V} (r : Rl Z F m d v) (h : fzok (vw μ d) = false) : vw μ d = d := by
  cases d with
  | ref n =>
    obtain ⟨a, c, e1, h1, h2, k⟩ := W.at r
    exfalso
    simp only [vw, h2] at h
    cases c with
    | lst ys => cases h
    | dic ys => cases h
    | ins c fs => cases h
    | fz d =>
      have h' : fzok d = false := h
      rw [k.1] at h'; cases h'
  | _ => simp only [vw]
theorem vw_int (W : Wd Z F m μ H) {d : D} {v : V} {i : Int} (r : Rl Z F m d v) (e : vw μ d = .int i) : v = .int i := by
  have h := vw_self W r (by rw [e]; rfl)
  rw [h] at e
  subst e
  simpa only [Rl] using r
theorem vw_str (W : Wd Z F m μ H) {d : D} {v : V} {i : Str} (r : Rl Z F m d v) (e : vw μ d = .str i) : v = .str i := by
  have h := vw_self W r (by rw [e]; rfl)
  rw [h] at e
  subst e
  simpa only [Rl] using r
theorem vw_bl (W : Wd Z F m μ H) {d : D} {v : V} {i : Bool} (r : Rl Z F m d v) (e : vw μ d = .bl i) : v = .bl i := by
  have h := vw_self W r (by rw [e]; rfl)
  rw [h] at e
  subst e
  simpa only [Rl] using r
theorem vw_non (W : Wd Z F m μ H) {d : D} {v : V} (r : Rl Z F m d v) (e : vw μ d = .non) : v = .non := by
  have h := vw_self W r (by rw [e]; rfl)
  rw [h] at e
  subst e
  simpa only [Rl] using r
theorem vw_tup (W : Wd Z F m μ H) {d : D} {v : V} {xs : List D} (r : Rl Z F m d v) (e : vw μ d = .tup xs) : ∃ a vs, v = .ref a ∧ H a = some (.tup vs) ∧ Rls Z F m xs vs := by
  have h := vw_self W r (by rw [e]; rfl)
  rw [h] at e
  subst e
  simp only [Rl] at r
  obtain ⟨a, vs, e1, f, q⟩ := r
  exact ⟨a, vs, e1, W.le _ _ f, q⟩
theorem vw_scr (W : Wd Z F m μ H) {d : D} {v : V} {ns : List Int} (r : Rl Z F m d v) (e : vw μ d = .scr ns) : ∃ a, v = .ref a ∧ SqL Z.K H a (ns.map .int) := by
  have h := vw_self W r (by rw [e]; rfl)
  rw [h] at e
  subst e
  simp only [Rl] at r
  obtain ⟨a, e1, q⟩ := r
  exact ⟨a, e1, sql_gr (m := m) (m' := m) ⟨W.le, fun _ _ e => e⟩ q⟩
/-- a list or the script -/
theorem vw_seq (W : Wd Z F m μ H) {d : D} {v : V} {xs : List D} (r : Rl Z F m d v) (e : seqL (vw μ d) = some xs) : ∃ a vs, v = .ref a ∧ SqL Z.K H a vs ∧ Rls Z F m xs vs := by
  cases q : vw μ d with
  | lst ys =>
    rw [q] at e; cases e
    obtain ⟨a, vs, e1, e2, z⟩ := vw_lst W r q
    exact ⟨a, vs, e1, .of e2, z⟩
  | scr ns =>
    rw [q] at e; cases e
    obtain ⟨a, e1, e2⟩ := vw_scr W r q
    exact ⟨a, _, e1, e2, Rls.ints ns⟩
  | _ => rw [q] at e; cases e
end
def RlE (Z : Zx) (F : Hp) (m : List Addr) (ρ : Ev) (σ : St) : Prop := ρ.length = σ.length ∧ ∀ (i : Nat) d, ρ[i]? = some (some d) → ∃ v, σ[i]? = some (some v) ∧ Rl Z F m d v
theorem RlE.gr {Z : Zx} {F F' : Hp} {m m' : List Addr} (g : Gr F m F' m') {ρ : Ev} {σ : St} (h : RlE Z F m ρ σ) : RlE Z F' m' ρ σ := ⟨h.1, fun i d e => let ⟨v, a, b⟩ := h.2 i d e; ⟨v, a, Rl.gr g _ _ b⟩⟩
theorem RlE.set {Z : Zx} {F : Hp} {m : List Addr} {ρ : Ev} {σ : St} (h : RlE Z F m ρ σ) (i : Nat) {d : D} {v : V} (r : Rl Z F m d v) : RlE Z F m (ρ.set i (some d)) (σ.set i (some v)) := by
  refine ⟨by simp [h.1], fun j d' e => ?_⟩
  by_cases hj : i = j
  · subst hj
    by_cases hi : i < ρ.length
    · rw [List.getElem?_set_self hi] at e
      cases e
      exact ⟨v, List.getElem?_set_self (by rw [← h.1]; exact hi), r⟩
    · rw [List.getElem?_eq_none (by simpa using hi)] at e; cases e
  · rw [List.getElem?_set_ne hj] at e ⊢
    exact h.2 j d' e
abbrev DE := Ev → Mu → Res D
abbrev DEs := Ev → Mu → Res (List D)
abbrev DT := Ev → Mu → Res Bool
abbrev zx (X : Cx) (ct : Nat → Addr × List Str) : Zx := ⟨X.prog, X.w, X.K, ct⟩
/-- what is wanted behind: from F, m, H a value d and cells μ' -/
def Aft (Z : Zx) (F : Hp) (m : List Addr) (H : Hp) (d : D) (μ' : Mu) (Q : VK) : Prop := ∀ v F' m' H', Xt F m H F' m' H' → Wd Z F' m' μ' H' → Rl Z F' m' d v → Q v H'
def tE (Z : Zx) (f : DE) : TE := fun σ H Q => ∃ F m ρ μ d μ', Wd Z F m μ H ∧ RlE Z F m ρ σ ∧ f ρ μ = .ok d μ' ∧ Aft Z F m H d μ' Q
def tT (Z : Zx) (f : DT) : TT := fun σ H Q => ∃ F m ρ μ d μ', Wd Z F m μ H ∧ RlE Z F m ρ σ ∧ f ρ μ = .ok d μ' ∧ ∀ F' m' H', Xt F m H F' m' H' → Wd Z F' m' μ' H' → Q d H'
def tA (Z : Zx) (f : DEs) : TA := fun σ H Q => ∃ F m ρ μ d μ', Wd Z F m μ H ∧ RlE Z F m ρ σ ∧ f ρ μ = .ok d μ' ∧ ∀ vs F' m' H', Xt F m H F' m' H' → Wd Z F' m' μ' H' → Rls Z F' m' d vs → Q vs H'
theorem pe_imp {X : Cx} {e : Expr} {t t' : TE} (h : PE X e t) (i : ∀ σ H Q, t' σ H Q → t σ H Q) : PE X e t' := ⟨fun pins s σ H Q I q => h.run pins s σ H Q I (i σ H Q q)⟩
theorem pt_imp {X : Cx} {e : Expr} {t t' : TT} (h : PT X e t) (i : ∀ σ H Q, t' σ H Q → t σ H Q) : PT X e t' := ⟨fun pins s σ H Q I q => h.run pins s σ H Q I (i σ H Q q)⟩
theorem pw_imp {X : Cx} {e : Expr} {t t' : TT} (h : PW X e t) (i : ∀ σ H Q, t' σ H Q → t σ H Q) : PW X e t' := ⟨fun wh pins s σ H Q I q => h.run wh pins s σ H Q I (i σ H Q q)⟩
theorem pa_imp {X : Cx} {e : List Expr} {t t' : TA} (h : PA X e t) (i : ∀ σ H Q, t' σ H Q → t σ H Q) : PA X e t' := ⟨fun pos pins s σ H Q I q => h.run pos pins s σ H Q I (i σ H Q q)⟩
theorem ps_imp {X : Cx} {e : Stmt} {t t' : TS} (h : PS X e t) (i : ∀ D σ H, t' D σ H → t D σ H) : PS X e t' := ⟨fun pins s σ H D I q => h.run pins s σ H D I (i D σ H q)⟩
theorem pss_imp {X : Cx} {e : List Stmt} {t t' : TS} (h : PSs X e t) (i : ∀ D σ H, t' D σ H → t D σ H) : PSs X e t' := ⟨fun pins s σ H D I q => h.run pins s σ H D I (i D σ H q)⟩
theorem bind_inv {α β : Type} {r : Res α} {f : α → Mu → Res β} {b : β} {μ : Mu} (h : r.bind f = .ok b μ) : ∃ a μ1, r = .ok a μ1 ∧ f a μ1 = .ok b μ := by
  cases r with
  | ok a μ1 => exact ⟨a, μ1, rfl, h⟩
  | bad => cases h
section
variable {Z : Zx} {F H : Hp} {m : List Addr} {μ : Mu} {ρ : Ev} {σ : St}
/-- one after another -/
theorem tE_bind {α : Type} {f : DE} {g : D → Mu → Res α} {d : α} {μ' : Mu} {R : VK} (W : Wd Z F m μ H) (r : RlE Z F m ρ σ) (h : (f ρ μ).bind g = .ok d μ')
    (k : ∀ x μ1 v F' m' H', g x μ1 = .ok d μ' → Xt F m H F' m' H' → Wd Z F' m' μ1 H' → RlE Z F' m' ρ σ → Rl Z F' m' x v → R v H') : tE Z f σ H R := by
  obtain ⟨x, μ1, e1, e2⟩ := bind_inv h
  exact ⟨F, m, ρ, μ, x, μ1, W, r, e1, fun v F' m' H' x' W' r' => k x μ1 v F' m' H' e2 x' W' (r.gr x'.gr) r'⟩
theorem Aft.weak {F' H' : Hp} {m' : List Addr} {d : D} {Q : VK} {μ1 μ' : Mu} (x : Xt F m H F' m' H') (W : Wd Z F' m' μ1 H') (k : Aft Z F m H d μ' Q) : Aft Z F' m' H' d μ' Q := fun v F'' m'' H'' x' W' r' => k v F'' m'' H'' (x.trans x' W.there) W' r'
end
/-- an operator's rule, by data -/
def OpS (Z : Zx) (r : R2) (g : D → D → Mu → Res D) : Prop := ∀ F m μ H a b x y d μ' Q, Wd Z F m μ H → Rl Z F m a x → Rl Z F m b y → g a b μ = .ok d μ' → Aft Z F m H d μ' Q → r x y H Q
def dBin (f h : DE) (g : D → D → Mu → Res D) : DE := fun ρ μ => (f ρ μ).bind fun x μ1 => (h ρ μ1).bind fun y μ2 => g x y μ2
theorem tOp_of {Z : Zx} {r : R2} {g : D → D → Mu → Res D} (s : OpS Z r g) (f h : DE) (σ : St) (H : Hp) (Q : VK) (q : tE Z (dBin f h g) σ H Q) : tOp r (tE Z f) (tE Z h) σ H Q := by
  obtain ⟨F, m, ρ, μ, d, μ', W, r0, e, k⟩ := q
  refine tE_bind W r0 e fun x μ1 v F1 m1 H1 e1 x1 W1 r1 rx => ?_
  refine tE_bind W1 r1 e1 fun y μ2 u F2 m2 H2 e2 x2 W2 r2 ry => ?_
  exact s F2 m2 μ2 H2 x y v u d μ' Q W2 (Rl.gr x2.gr _ _ rx) ry e2 ((k.weak x1 W1).weak x2 W2)
end SB
set_option Elab.async false
set_option linter.all false
set_option maxRecDepth 100000
namespace SB
open PySem L2
mutual
theorem keq_nk : ∀ (a b : D) (x y : NestedKey), nkey a = some x → nkey b = some y → keq a b = decide (x = y)
  | .non, b, x, y, h1, h2 => by
    simp only [nkey] at h1; cases h1
    cases b with
    | bl q => simp only [nkey] at h2; cases h2; simp [keq]
    | int q => simp only [nkey] at h2; cases h2; simp [keq]
    | non => simp only [nkey] at h2; cases h2; simp [keq]
    | str q => simp only [nkey] at h2; cases h2; simp [keq]
    | tup q => simp only [nkey] at h2; cases z : nkeys q <;> rw [z] at h2 <;> cases h2; simp [keq]
    | _ => simp only [nkey] at h2; cases h2
  | .bl p, b, x, y, h1, h2 => by
    simp only [nkey] at h1; cases h1
    cases b with
    | bl q => simp only [nkey] at h2; cases h2; cases p <;> cases q <;> simp [keq]
    | int q => simp only [nkey] at h2; cases h2; simp only [keq, NestedKey.num.injEq]; exact Bool.beq_eq_decide_eq _ _
    | non => simp only [nkey] at h2; cases h2; simp [keq]
    | str q => simp only [nkey] at h2; cases h2; simp [keq]
    | tup q => simp only [nkey] at h2; cases z : nkeys q <;> rw [z] at h2 <;> cases h2; simp [keq]
    | _ => simp only [nkey] at h2; cases h2
  | .int p, b, x, y, h1, h2 => by
    simp only [nkey] at h1; cases h1
    cases b with
    | bl q => simp only [nkey] at h2; cases h2; simp only [keq, NestedKey.num.injEq]; exact Bool.beq_eq_decide_eq _ _
    | int q => simp only [nkey] at h2; cases h2; simp only [keq, NestedKey.num.injEq]; by_cases e : p = q <;> simp [e]
    | non => simp only [nkey] at h2; cases h2; simp [keq]
    | str q => simp only [nkey] at h2; cases h2; simp [keq]
    | tup q => simp only [nkey] at h2; cases z : nkeys q <;> rw [z] at h2 <;> cases h2; simp [keq]
    | _ => simp only [nkey] at h2; cases h2
  | .str p, b, x, y, h1, h2 => by
    simp only [nkey] at h1; cases h1
    cases b with
    | bl q => simp only [nkey] at h2; cases h2; simp [keq]
    | int q => simp only [nkey] at h2; cases h2; simp [keq]
    | non => simp only [nkey] at h2; cases h2; simp [keq]
    | str q => simp only [nkey] at h2; cases h2; simp only [keq, NestedKey.text.injEq]
    | tup q => simp only [nkey] at h2; cases z : nkeys q <;> rw [z] at h2 <;> cases h2; simp [keq]
    | _ => simp only [nkey] at h2; cases h2
  | .tup xs, b, x, y, h1, h2 => by
    simp only [nkey] at h1
    cases zx : nkeys xs with
    | none => rw [zx] at h1; cases h1
    | some ks =>
      rw [zx] at h1; cases h1
      cases b with
      | bl q => simp only [nkey] at h2; cases h2; simp [keq]
      | int q => simp only [nkey] at h2; cases h2; simp [keq]
      | non => simp only [nkey] at h2; cases h2; simp [keq]
      | str q => simp only [nkey] at h2; cases h2; simp [keq]
      | tup ys =>
        simp only [nkey] at h2
        cases z : nkeys ys with
        | none => rw [z] at h2; cases h2
        | some ls =>
          rw [z] at h2; cases h2
          simp only [keq, NestedKey.tup.injEq]
          exact keqs_nk xs ys ks ls zx z
      | _ => simp only [nkey] at h2; cases h2
  | .lst xs, b, x, y, h1, h2 => by simp only [nkey] at h1; cases h1
  | .dic xs, b, x, y, h1, h2 => by simp only [nkey] at h1; cases h1
  | .ins c xs, b, x, y, h1, h2 => by simp only [nkey] at h1; cases h1
  | .ref n, b, x, y, h1, h2 => by simp only [nkey] at h1; cases h1
  | .scr n, b, x, y, h1, h2 => by simp only [nkey] at h1; cases h1
  | .exc n _, b, x, y, h1, h2 => by simp only [nkey] at h1; cases h1
theorem keqs_nk : ∀ (a b : List D) (x y : List NestedKey), nkeys a = some x → nkeys b = some y → keqs a b = decide (x = y)
  | [], [], x, y, h1, h2 => by simp only [nkeys] at h1 h2; cases h1; cases h2; simp [keqs]
  | [], b :: bs, x, y, h1, h2 => by
    simp only [nkeys] at h1 h2
    cases h1
    cases z1 : nkey b <;> cases z2 : nkeys bs <;> rw [z1, z2] at h2 <;> cases h2
    simp [keqs]
  | a :: as, [], x, y, h1, h2 => by
    simp only [nkeys] at h1 h2
    cases h2
    cases z1 : nkey a <;> cases z2 : nkeys as <;> rw [z1, z2] at h1 <;> cases h1
    simp [keqs]
  | a :: as, b :: bs, x, y, h1, h2 => by
    simp only [nkeys] at h1 h2
    cases z1 : nkey a <;> cases z2 : nkeys as <;> rw [z1, z2] at h1 <;> cases h1
    cases z3 : nkey b <;> cases z4 : nkeys bs <;> rw [z3, z4] at h2 <;> cases h2
    simp only [keqs, keq_nk a b _ _ z1 z3, keqs_nk as bs _ _ z2 z4, List.cons.injEq, Bool.decide_and]
end
theorem keq_key (a b : Key) : keq (dKey a) (dKey b) = decide (a = b) := by
  cases a with
  | inl i =>
    cases b with
    | inl j => simp only [dKey, keq, Sum.inl.injEq]; by_cases e : i = j <;> simp [e]
    | inr j => simp [dKey, keq]
  | inr i =>
    cases b with
    | inl j => simp [dKey, keq]
    | inr j => simp only [dKey, keq, Sum.inr.injEq]
mutual
theorem nk_depth : ∀ (d : D) (x : NestedKey) (n : Nat), nkey d = some x → kdep d = some n → x.depth = n
  | .non, x, n, h1, h2 => by simp only [nkey, kdep] at h1 h2; cases h1; cases h2; simp only [NestedKey.depth]
  | .bl b, x, n, h1, h2 => by simp only [nkey, kdep] at h1 h2; cases h1; cases h2; simp only [NestedKey.depth]
  | .int b, x, n, h1, h2 => by simp only [nkey, kdep] at h1 h2; cases h1; cases h2; simp only [NestedKey.depth]
  | .str b, x, n, h1, h2 => by simp only [nkey, kdep] at h1 h2; cases h1; cases h2; simp only [NestedKey.depth]
  | .tup xs, x, n, h1, h2 => by
    simp only [nkey, kdep] at h1 h2
    cases z1 : nkeys xs <;> rw [z1] at h1 <;> cases h1
    cases z2 : kdeps xs <;> rw [z2] at h2 <;> cases h2
    simp only [NestedKey.depth, nks_depth xs _ _ z1 z2]
  | .lst xs, x, n, h1, h2 => by simp only [nkey] at h1; cases h1
  | .dic xs, x, n, h1, h2 => by simp only [nkey] at h1; cases h1
  | .ins c xs, x, n, h1, h2 => by simp only [nkey] at h1; cases h1
  | .ref n, x, _, h1, h2 => by simp only [nkey] at h1; cases h1
  | .scr n, x, _, h1, h2 => by simp only [nkey] at h1; cases h1
  | .exc n _, x, _, h1, h2 => by simp only [nkey] at h1; cases h1
theorem nks_depth : ∀ (ds : List D) (xs : List NestedKey) (n : Nat), nkeys ds = some xs → kdeps ds = some n → NestedKey.depthAll xs = n
  | [], xs, n, h1, h2 => by simp only [nkeys, kdeps] at h1 h2; cases h1; cases h2; simp only [NestedKey.depthAll]
  | d :: ds, xs, n, h1, h2 => by
    simp only [nkeys, kdeps] at h1 h2
    cases z1 : nkey d <;> cases z2 : nkeys ds <;> rw [z1, z2] at h1 <;> cases h1
    cases z3 : kdep d <;> cases z4 : kdeps ds <;> rw [z3, z4] at h2 <;> cases h2
    simp only [NestedKey.depthAll, nk_depth d _ _ z1 z3, nks_depth ds _ _ z2 z4]
end
mutual
theorem nk_some : ∀ (d : D) (n : Nat), kdep d = some n → ∃ x, nkey d = some x
  | .non, n, h => ⟨_, rfl⟩
  | .bl b, n, h => ⟨_, rfl⟩
  | .int b, n, h => ⟨_, rfl⟩
  | .str b, n, h => ⟨_, rfl⟩
  | .tup xs, n, h => by
    simp only [kdep] at h
    cases z : kdeps xs <;> rw [z] at h <;> cases h
    obtain ⟨ks, e⟩ := nks_some xs _ z
    exact ⟨.tup ks, by simp only [nkey, e]; rfl⟩
  | .lst xs, n, h => by simp only [kdep] at h; cases h
  | .dic xs, n, h => by simp only [kdep] at h; cases h
  | .ins c xs, n, h => by simp only [kdep] at h; cases h
  | .ref _, n, h => by simp only [kdep] at h; cases h
  | .scr _, n, h => by simp only [kdep] at h; cases h
  | .exc _ _, n, h => by simp only [kdep] at h; cases h
theorem nks_some : ∀ (ds : List D) (n : Nat), kdeps ds = some n → ∃ x, nkeys ds = some x
  | [], n, h => ⟨_, rfl⟩
  | d :: ds, n, h => by
    simp only [kdeps] at h
    cases z1 : kdep d <;> cases z2 : kdeps ds <;> rw [z1, z2] at h <;> cases h
    obtain ⟨x, e⟩ := nk_some d _ z1
    obtain ⟨xs, e'⟩ := nks_some ds _ z2
    exact ⟨x :: xs, by simp only [nkeys, e, e']⟩
end
theorem kk_tup {d : D} (h : kkind d = some true) : ∃ xs x, d = .tup xs ∧ nkey d = some x ∧ x.depth ≤ 8 := by
  cases d <;> simp only [kkind] at h <;> first | (cases h; done) | skip
  rename_i xs
  cases z : kdeps xs with
  | none => rw [z] at h; cases h
  | some n =>
    rw [z] at h
    simp only at h
    by_cases hn : n ≤ 6
    · have zd : kdep (.tup xs) = some (n + 1) := by simp only [kdep, z]; rfl
      obtain ⟨x, e⟩ := nk_some _ _ zd
      exact ⟨xs, x, rfl, e, by rw [nk_depth _ _ _ e zd]; omega⟩
    · rw [if_neg hn] at h; cases h
theorem kk_val {d : D} (h : kkind d = some false) : ∃ q, d = dKey q := by
  cases d <;> simp only [kkind] at h <;> first | (cases h; done) | skip
  · exact ⟨.inl _, rfl⟩
  · exact ⟨.inr _, rfl⟩
  · rename_i xs
    cases z : kdeps xs with
    | none => rw [z] at h; cases h
    | some n => rw [z] at h; simp only at h; split at h <;> cases h
theorem kk_key (q : Key) : kkind (dKey q) = some false := by cases q <;> rfl
section
variable {Z : Zx} {F : Hp} {m : List Addr}
theorem rl_key {q : Key} {v : V} : Rl Z F m (dKey q) v ↔ v = kV q := by cases q <;> simp only [dKey, Rl, kV]
theorem rlk_get (q : Key) : ∀ {es : List (D × D)} {ks : List (Key × V)}, Rlk Z F m es ks → (∀ d, dget es (dKey q) = some d → ∃ v, valV ks q = some v ∧ Rl Z F m d v) ∧ (dget es (dKey q) = none → valV ks q = none)
  | [], ks, h => by simp only [Rlk] at h; subst h; simp [dget, valV]
  | (k, d) :: es, ks, h => by
    simp only [Rlk] at h
    obtain ⟨q', v, r, rfl, rfl, h1, h2⟩ := h
    have ih := rlk_get q h2
    simp only [dget, List.find?_cons, keq_key, valV] at ih ⊢
    by_cases e : q' = q
    · simp only [e, decide_true, Option.map_some]
      refine ⟨fun d' z => ?_, fun z => nomatch z⟩
      cases z
      exact ⟨v, rfl, h1⟩
    · simp only [decide_eq_false e]
      exact ih
theorem rlk_len : ∀ {es : List (D × D)} {ks : List (Key × V)}, Rlk Z F m es ks → ks.length = es.length
  | [], ks, h => by simp only [Rlk] at h; simp [h]
  | (k, d) :: es, ks, h => by
    simp only [Rlk] at h
    obtain ⟨q', v, r, rfl, rfl, h1, h2⟩ := h
    simp [rlk_len h2]
theorem rlk_any (q : Key) : ∀ {es : List (D × D)} {ks : List (Key × V)}, Rlk Z F m es ks → (es.any fun p => keq p.1 (dKey q)) = ks.any fun kv => decide (kv.1 = q)
  | [], ks, h => by simp only [Rlk] at h; simp [h]
  | (k, d) :: es, ks, h => by
    simp only [Rlk] at h
    obtain ⟨q', v, r, rfl, rfl, h1, h2⟩ := h
    simp only [List.any_cons, keq_key, rlk_any q h2]
theorem rlk_repl (q : Key) {d' : D} {v' : V} (r' : Rl Z F m d' v') : ∀ {es : List (D × D)} {ks : List (Key × V)}, Rlk Z F m es ks →
    Rlk Z F m (es.map fun p => if keq p.1 (dKey q) then (p.1, d') else p) (ks.map fun kv => if kv.1 = q then (kv.1, v') else kv)
  | [], ks, h => by simp only [Rlk] at h; subst h; simp only [List.map_nil, Rlk]
  | (k, d) :: es, ks, h => by
    simp only [Rlk] at h
    obtain ⟨q', v, r, rfl, rfl, h1, h2⟩ := h
    have ih := rlk_repl q r' h2
    by_cases e : q' = q
    · subst e
      simp only [List.map_cons, keq_key, decide_true, if_true, Rlk]
      exact ⟨_, _, _, rfl, rfl, r', ih⟩
    · simp only [List.map_cons, keq_key, decide_eq_false e, if_neg e, Rlk, Bool.false_eq_true, if_false]
      exact ⟨_, _, _, rfl, rfl, h1, ih⟩
theorem rlk_snoc (q : Key) {d' : D} {v' : V} (r' : Rl Z F m d' v') : ∀ {es : List (D × D)} {ks : List (Key × V)}, Rlk Z F m es ks → Rlk Z F m (es ++ [(dKey q, d')]) (ks ++ [(q, v')])
  | [], ks, h => by
    simp only [Rlk] at h; subst h
    simp only [List.nil_append, Rlk]
    exact ⟨_, _, _, rfl, rfl, r', rfl⟩
  | (k, d) :: es, ks, h => by
    simp only [Rlk] at h
    obtain ⟨q', v, r, rfl, rfl, h1, h2⟩ := h
    simp only [List.cons_append, Rlk]
    exact ⟨_, _, _, rfl, rfl, h1, rlk_snoc q r' h2⟩
theorem rlk_put (q : Key) {d' : D} {v' : V} (r' : Rl Z F m d' v') {es : List (D × D)} {ks : List (Key × V)} (h : Rlk Z F m es ks) : Rlk Z F m (dput es (dKey q) d') (putK ks q v') := by
  unfold dput putK
  rw [rlk_any q h]
  split
  · exact rlk_repl q r' h
  · exact rlk_snoc q r' h
abbrev NK3 := List (NestedKey × Addr × V)
abbrev NKx := List (NestedKey × Addr × Value)
abbrev Pn : NK3 → NKx → Prop := Paired (fun (p : NestedKey × Addr × V) (q : NestedKey × Addr × Value) => p.1 = q.1 ∧ p.2.1 = q.2.1 ∧ RelV p.2.2 q.2.2)
def putN (ns : NK3) (q : NestedKey) (b : Addr) (v : V) : NK3 := if (ns.any fun p => decide (p.1 = q)) = true then ns.map fun p => if p.1 = q then (p.1, p.2.1, v) else p else ns ++ [(q, b, v)]
def atN (ns : NK3) (q : NestedKey) : Option V := (ns.find? fun p => decide (p.1 = q)).map fun p => p.2.2
theorem rln_len : ∀ {es : List (D × D)} {ks : NK3}, Rln Z F m es ks → ks.length = es.length
  | [], ks, h => by simp only [Rln] at h; simp [h]
  | (k, d) :: es, ks, h => by
    simp only [Rln] at h
    obtain ⟨q', b, v, r, rfl, _, _, _, h2⟩ := h
    simp [rln_len h2]
theorem rln_get {k0 : D} {q : NestedKey} (hk : nkey k0 = some q) : ∀ {es : List (D × D)} {ks : NK3}, Rln Z F m es ks → (∀ d, dget es k0 = some d → ∃ v, atN ks q = some v ∧ Rl Z F m d v) ∧ (dget es k0 = none → atN ks q = none)
  | [], ks, h => by simp only [Rln] at h; subst h; simp [dget, atN]
  | (k, d) :: es, ks, h => by
    simp only [Rln] at h
    obtain ⟨q', b, v, r, rfl, ⟨hq, _⟩, _, h1, h2⟩ := h
    have ih := rln_get hk h2
    simp only [dget, List.find?_cons, keq_nk k k0 q' q hq hk, atN] at ih ⊢
    by_cases e : q' = q
    · simp only [e, decide_true, Option.map_some]
      refine ⟨fun d' z => ?_, fun z => nomatch z⟩
      cases z
      exact ⟨v, rfl, h1⟩
    · simp only [decide_eq_false e]
      exact ih
theorem rln_any {k0 : D} {q : NestedKey} (hk : nkey k0 = some q) : ∀ {es : List (D × D)} {ks : NK3}, Rln Z F m es ks → (es.any fun p => keq p.1 k0) = ks.any fun kv => decide (kv.1 = q)
  | [], ks, h => by simp only [Rln] at h; simp [h]
  | (k, d) :: es, ks, h => by
    simp only [Rln] at h
    obtain ⟨q', b, v, r, rfl, ⟨hq, _⟩, _, h1, h2⟩ := h
    simp only [List.any_cons, keq_nk k k0 q' q hq hk, rln_any hk h2]
theorem rln_put {k0 : D} {q : NestedKey} {b0 : Addr} (hk : nkey k0 = some q) (hkk : kkind k0 = some true) (rb : Rl Z F m k0 (.ref b0)) {d' : D} {v' : V} (r' : Rl Z F m d' v') {es : List (D × D)} {ks : NK3} (h : Rln Z F m es ks) : Rln Z F m (dput es k0 d') (putN ks q b0 v') := by
  have repl : ∀ {es : List (D × D)} {ks : NK3}, Rln Z F m es ks → Rln Z F m (es.map fun p => if keq p.1 k0 then (p.1, d') else p) (ks.map fun p => if p.1 = q then (p.1, p.2.1, v') else p) := by
    intro es
    induction es with
    | nil => intro ks h; simp only [Rln] at h; subst h; simp only [List.map_nil, Rln]
    | cons p es ih =>
      intro ks h
      obtain ⟨k, d⟩ := p
      simp only [Rln] at h
      obtain ⟨q', b, v, r, rfl, ⟨hq, hq2⟩, h0, h1, h2⟩ := h
      have ih := ih h2
      by_cases e : q' = q
      · subst e
        simp only [List.map_cons, keq_nk k k0 q' q' hq hk, decide_true, if_true, Rln]
        exact ⟨_, _, _, _, rfl, ⟨hq, hq2⟩, h0, r', ih⟩
      · simp only [List.map_cons, keq_nk k k0 q' q hq hk, decide_eq_false e, if_neg e, Rln, Bool.false_eq_true, if_false]
        exact ⟨_, _, _, _, rfl, ⟨hq, hq2⟩, h0, h1, ih⟩
  have snoc : ∀ {es : List (D × D)} {ks : NK3}, Rln Z F m es ks → Rln Z F m (es ++ [(k0, d')]) (ks ++ [(q, b0, v')]) := by
    intro es
    induction es with
    | nil =>
      intro ks h
      simp only [Rln] at h; subst h
      simp only [List.nil_append, Rln]
      exact ⟨_, _, _, _, rfl, ⟨hk, hkk⟩, rb, r', rfl⟩
    | cons p es ih =>
      intro ks h
      obtain ⟨k, d⟩ := p
      simp only [Rln] at h
      obtain ⟨q', b, v, r, rfl, hq, h0, h1, h2⟩ := h
      simp only [List.cons_append, Rln]
      exact ⟨_, _, _, _, rfl, hq, h0, h1, ih h2⟩
  unfold dput putN
  rw [rln_any hk h]
  split
  · exact repl h
  · exact snoc h
end
theorem pn_len {ns : NK3} {xs : NKx} (h : Pn ns xs) : ns.length = xs.length := Paired.length h
theorem pn_at {ns : NK3} {xs : NKx} (h : Pn ns xs) (q : NestedKey) : RelO (atN ns q) ((atKey xs q).map (·.2)) := by
  unfold atN atKey
  induction h with
  | nil => exact True.intro
  | @cons p x ps xs r t ih =>
    simp only [List.find?_cons, r.1]
    by_cases e : x.1 = q
    · simp only [e, decide_true, Option.map_some]; exact r.2.2
    · simp only [decide_eq_false e]; exact ih
theorem pn_any {ns : NK3} {xs : NKx} (h : Pn ns xs) (q : NestedKey) : (ns.any fun p => decide (p.1 = q)) = (atKey xs q).isSome := by
  unfold atKey
  induction h with
  | nil => rfl
  | @cons p x ps xs r t ih =>
    simp only [List.any_cons, List.find?_cons, r.1]
    by_cases e : x.1 = q
    · simp [e]
    · simp only [decide_eq_false e, Bool.false_or]; exact ih
theorem pn_put {ns : NK3} {xs : NKx} (h : Pn ns xs) (q : NestedKey) (b : Addr) {v : V} {u : Value} (r : RelV v u) : Pn (putN ns q b v) (storedH xs q b u) := by
  have repl : Pn (ns.map fun p => if p.1 = q then (p.1, p.2.1, v) else p) (xs.map (putAt q u)) := by
    induction h with
    | nil => exact .nil
    | @cons p x ps xs r0 t ih =>
      refine .cons ?_ ih
      unfold putAt
      dsimp only
      by_cases e : x.1 = q
      · rw [if_pos (r0.1.trans e), if_pos e]; exact ⟨r0.1, r0.2.1, r⟩
      · rw [if_neg (fun z => e (r0.1.symm.trans z)), if_neg e]; exact r0
  have snoc : Pn (ns ++ [(q, b, v)]) (xs ++ [(q, b, u)]) := by
    clear repl
    induction h with
    | nil => exact .cons ⟨rfl, rfl, r⟩ .nil
    | cons r0 t ih => exact .cons r0 ih
  unfold putN storedH
  rw [pn_any h q]
  by_cases e : (atKey xs q).isSome = true
  · rw [if_pos e, if_pos e]; exact repl
  · rw [if_neg e, if_neg e]; exact snoc
theorem putN_len (ns : NK3) (q : NestedKey) (b : Addr) (v : V) : (putN ns q b v).length ≤ ns.length + 1 := by
  unfold putN
  split <;> simp
end SB
set_option Elab.async false
set_option linter.all false
set_option maxRecDepth 100000
namespace SB
open PySem L2
section
variable {Z : Zx} {F H : Hp} {m : List Addr} {μ : Mu} {h : Heap}
mutual
theorem nis_of (ok : HOk Z.P Z.w H h) (le : ∀ a o, F a = some o → H a = some o) : ∀ (d : D) (q : NestedKey) (v : V) (u : Value), Rl Z F m d v → nkey d = some q → RelV v u → NestedIs h q u
  | .non, q, v, u, r, e, k => by
    simp only [Rl, nkey] at r e; subst r; cases e; cases k; exact .none
  | .bl b, q, v, u, r, e, k => by
    simp only [Rl, nkey] at r e; subst r; cases e; cases k; exact .bool rfl
  | .int b, q, v, u, r, e, k => by
    simp only [Rl, nkey] at r e; subst r; cases e; obtain ⟨t, rfl⟩ := k; exact .int _ _
  | .str b, q, v, u, r, e, k => by
    simp only [Rl, nkey] at r e; subst r; cases e; obtain ⟨t, rfl⟩ := k; exact .text _ _
  | .tup xs, q, v, u, r, e, k => by
    simp only [Rl, nkey] at r e
    obtain ⟨a, vs, rfl, f, r⟩ := r
    cases z : nkeys xs <;> rw [z] at e <;> cases e
    cases k
    obtain ⟨_, its, rv, o, h1, h2, n, h3⟩ := (show ObjOk Z.P Z.w H h a (.tup vs) from ok a _ (le _ _ f))
    exact .tup h1 h2 h3 (by simpa using niss_of ok le xs _ vs its r z rv)
  | .lst xs, q, v, u, r, e, k => by simp only [nkey] at e; cases e
  | .dic xs, q, v, u, r, e, k => by simp only [nkey] at e; cases e
  | .ins c xs, q, v, u, r, e, k => by simp only [nkey] at e; cases e
  | .ref xs, q, v, u, r, e, k => by simp only [nkey] at e; cases e
  | .scr xs, q, v, u, r, e, k => by simp only [nkey] at e; cases e
  | .exc xs _, q, v, u, r, e, k => by simp only [nkey] at e; cases e
theorem niss_of (ok : HOk Z.P Z.w H h) (le : ∀ a o, F a = some o → H a = some o) : ∀ (ds : List D) (qs : List NestedKey) (vs : List V) (us : List Value), Rls Z F m ds vs → nkeys ds = some qs → Vals vs us → NestedAll h qs us
  | [], qs, vs, us, r, e, k => by
    simp only [Rls, nkeys] at r e; subst r; cases e; cases k; exact .nil
  | d :: ds, qs, vs, us, r, e, k => by
    simp only [Rls, nkeys] at r e
    obtain ⟨v, vs', rfl, r1, r2⟩ := r
    cases z1 : nkey d <;> cases z2 : nkeys ds <;> rw [z1, z2] at e <;> cases e
    cases k with
    | cons k1 k2 => exact .cons (nis_of ok le d _ v _ r1 z1 k1) (niss_of ok le ds _ vs' _ r2 z2 k2)
end
theorem key_is (ok : HOk Z.P Z.w H h) (le : ∀ a o, F a = some o → H a = some o) {k : D} {q : NestedKey} {b : Addr} (r : Rl Z F m k (.ref b)) (e : nkey k = some q) (kk : kkind k = some true) : (nestedKind Z.P Z.w).is h q b := by
  obtain ⟨xs, x, rfl, e', hd⟩ := kk_tup kk
  rw [e] at e'; cases e'
  exact ⟨nis_of ok le _ q _ _ r e rfl, hd⟩
theorem dn_rd (ok : HOk Z.P Z.w H h) (le : ∀ a o, F a = some o → H a = some o) {a : Addr} {ns : NK3} {es : List (D × D)} (e : Rd H a (dN Z.P Z.w a ns)) (r : Rln Z F m es ns) :
    ns.length ≤ sizeLine ∧ (a == sysModules) = false ∧ ∃ xs, Pn ns xs ∧ h.DictOfH (nestedKind Z.P Z.w) a xs := by
  obtain ⟨⟨⟨z, zn⟩, y, xs, p, o, es', ep, h1, h2, h3, h4, h5⟩, rst⟩ := e.ok ok
  refine ⟨z, y, xs, p, o, es', ep, h1, h2, h3, h4, ?_, h5⟩
  clear h4 h5 h3 z zn e rst
  induction p generalizing es with
  | nil => intro x hx; cases hx
  | @cons p x ps xs hp t ih =>
    intro y hy
    cases es with
    | nil => simp only [Rln] at r; cases r
    | cons kd es =>
      obtain ⟨k, d⟩ := kd
      simp only [Rln] at r
      obtain ⟨q, b, v, r', e1, ⟨e2, e3⟩, r0, r1, r2⟩ := r
      cases e1
      rcases List.mem_cons.mp hy with e | hy
      · subst e
        have a1 := hp.1
        have a2 := hp.2.1
        dsimp only at a1 a2
        rw [← a1, ← a2]
        exact key_is ok le r0 e2 e3
      · exact ih r2 y hy
theorem none_of_len {ns : NK3} (r : Rln Z F m [] ns) : ns = [] := by simpa only [Rln] using r
/-- read with a value for its key -/
theorem dict_val (ok : HOk Z.P Z.w H h) (le : ∀ a o, F a = some o → H a = some o) {a : Addr} {u : HO} {es : List (D × D)} (e : Rd H a u) (r : Rlu Z F m a es u) {k : D} (hk : kkind k = some false) (ft : kfits es k = true) :
    ∃ ks, Rlk Z F m es ks ∧ ks.length ≤ sizeLine ∧ (a == sysModules) = false ∧ ∃ vs, KV ks vs ∧ h.DictOf (mixKind Z.P Z.w) a vs := by
  rcases r with ⟨ks, rfl, r⟩ | ⟨ns, rfl, r⟩
  · obtain ⟨z, y, q⟩ := dk_rd ok e
    exact ⟨ks, r, z, y, q⟩
  · obtain ⟨z, y, xs, p, o, es', ep, h1, h2, h3, h4, _, h5⟩ := dn_rd ok le e r
    cases es with
    | nil =>
      cases none_of_len r
      cases p
      refine ⟨[], by simp only [Rlk], Nat.zero_le _, y, [], .nil, o, es', ep, h1, h2, h3, ?_, ?_, List.nodup_nil⟩
      · have : es' = #[] := by
          have q : es'.toList = [] := h4
          simpa using q
        subst this
        intro e he
        simp at he
      · have q : es'.toList = [] := h4
        rw [q]
        exact .nil
    | cons kd es =>
      exfalso
      obtain ⟨k', d'⟩ := kd
      simp only [Rln] at r
      obtain ⟨_, _, _, _, _, ⟨_, e3⟩, _⟩ := r
      simp [kfits, dkind, hk, e3] at ft
/-- read with a tuple for its key -/
theorem dict_tup (ok : HOk Z.P Z.w H h) (le : ∀ a o, F a = some o → H a = some o) {a : Addr} {u : HO} {es : List (D × D)} (e : Rd H a u) (r : Rlu Z F m a es u) {k : D} (hk : kkind k = some true) (ft : kfits es k = true) :
    ∃ ns, Rln Z F m es ns ∧ ns.length ≤ sizeLine ∧ (a == sysModules) = false ∧ ∃ xs, Pn ns xs ∧ h.DictOfH (nestedKind Z.P Z.w) a xs := by
  rcases r with ⟨ks, rfl, r⟩ | ⟨ns, rfl, r⟩
  · obtain ⟨z, y, vs, kv, o, es', ep, h1, h2, h3, h4, h5, h6⟩ := dk_rd ok e
    cases es with
    | nil =>
      simp only [Rlk] at r
      subst r
      cases kv
      refine ⟨[], by simp only [Rln], Nat.zero_le _, y, [], .nil, o, es', ep, h1, h2, h3, ?_, (fun x hx => nomatch hx), List.nodup_nil⟩
      cases q : es'.toList with
      | nil => rfl
      | cons a b => rw [q] at h5; cases h5
    | cons kd es =>
      exfalso
      obtain ⟨k', d'⟩ := kd
      simp only [Rlk] at r
      obtain ⟨q, _, _, _, rfl, _⟩ := r
      simp [kfits, dkind, hk, kk_key q] at ft
  · obtain ⟨z, y, q⟩ := dn_rd ok le e r
    exact ⟨ns, r, z, y, q⟩
end
theorem putN_ne (ns : NK3) (q : NestedKey) (b : Addr) (v : V) : putN ns q b v ≠ [] := by
  unfold putN
  split
  · rename_i h
    intro e
    cases ns with
    | nil => simp at h
    | cons x xs => simp at e
  · simp
section
variable {X : Cx} {ct : Nat → Addr × List Str} {pins : List (Addr × Obj)} {σ : St} {F H : Hp} {m : List Addr} {μ : Mu} {s : Shared} {a : Addr} {y v : V} {u r : Value} {A : Around} {E : Value → Shared → Prop} {es : List (D × D)} {o : HO} {k d : D}
theorem kfits_kind (ft : kfits es k = true) : kkind k = some false ∨ kkind k = some true := by
  unfold kfits at ft
  cases e : kkind k with
  | none => rw [e] at ft; simp at ft
  | some b => cases b; exact .inl rfl; exact .inr rfl
/-- what a look-up needs, by the kind of the key -/
theorem D_getItem {Q : Value → Shared → Prop} (hu : A.units + 9 < cLine) (I : Inv X pins σ H s) (W : Wd (zx X ct) F m μ H) (e : Rd H a o) (ro : Rlu (zx X ct) F m a es o) (rk : Rl (zx X ct) F m k y) (ry : RelV y u) (ft : kfits es k = true) (hd : dget es k = some d)
    (h : ∀ v w' s', Inv X pins σ H s' → RelV v w' → Rl (zx X ct) F m d v → Q w' s') : wpAny (model X.prog X.w) A (getItem (.ref a) u) Q E s := by
  rcases kfits_kind ft with hk | hk
  · obtain ⟨ks, r1, z, hs, vs, kv, dd⟩ := dict_val (Z := zx X ct) I.hok W.le e ro hk ft
    obtain ⟨q, rfl⟩ := kk_val hk
    rw [rl_key] at rk
    subst rk
    obtain ⟨v, e1, rv⟩ := (rlk_get q r1).1 d hd
    obtain ⟨w', hw, rw'⟩ := RelO.some_of (v := v) (o := valueAt vs q) (by rw [← e1]; exact kv.val q)
    exact wpAny_getItem_of (kV_is ry) dd.mapOf hw (h v w' _ (I.tok _) rw' rv)
  · obtain ⟨ns, r1, z, hs, xs, pn, dd⟩ := dict_tup (Z := zx X ct) I.hok W.le e ro hk ft
    obtain ⟨ds, q, rfl, hq, hdp⟩ := kk_tup hk
    have rk' := rk
    simp only [Rl] at rk'
    obtain ⟨b, _, rfl, _⟩ := rk'
    cases (show u = Value.ref b from ry)
    obtain ⟨v, e1, rv⟩ := (rln_get hq r1).1 d hd
    obtain ⟨w', hw, rw'⟩ := RelO.some_of (v := v) (o := (atKey xs q).map (·.2)) (by rw [← e1]; exact pn_at pn q)
    obtain ⟨p, hp, hp2⟩ := Option.map_eq_some_iff.mp hw
    refine wpAny_getItem_heap (show A.in1.units + 8 < cLine by show A.units + 1 + 8 < cLine; omega) (key_is (Z := zx X ct) I.hok W.le rk hq hk) dd hp ?_
    rw [hp2]
    exact h v w' _ (I.tok _) rw' rv
theorem D_in {Q : Value → Shared → Prop} (hu : A.units + 9 < cLine) (I : Inv X pins σ H s) (W : Wd (zx X ct) F m μ H) (e : Rd H a o) (ro : Rlu (zx X ct) F m a es o) (rk : Rl (zx X ct) F m k y) (ry : RelV y u) (ft : kfits es k = true)
    (h : ∀ s', Inv X pins σ H s' → Q (.bool (dget es k).isSome) s') : wpAny (model X.prog X.w) A (compareOp .In u (.ref a)) Q E s := by
  rcases kfits_kind ft with hk | hk
  · obtain ⟨ks, r1, z, hs, vs, kv, dd⟩ := dict_val (Z := zx X ct) I.hok W.le e ro hk ft
    obtain ⟨q, rfl⟩ := kk_val hk
    rw [rl_key] at rk
    subst rk
    refine wpAny_in_of (kV_is ry) hs dd.mapOf ?_
    have e2 : (dget es (dKey q)).isSome = (valueAt vs q).isSome := by
      rw [← (kv.val q).isSome_eq]
      cases hg : dget es (dKey q) with
      | some d => obtain ⟨v, e1, _⟩ := (rlk_get q r1).1 d hg; rw [e1]; rfl
      | none => rw [(rlk_get q r1).2 hg]; rfl
    rw [← e2]
    exact h _ (I.tok _)
  · obtain ⟨ns, r1, z, hs, xs, pn, dd⟩ := dict_tup (Z := zx X ct) I.hok W.le e ro hk ft
    obtain ⟨ds, q, rfl, hq, hdp⟩ := kk_tup hk
    have rk' := rk
    simp only [Rl] at rk'
    obtain ⟨b, _, rfl, _⟩ := rk'
    cases (show u = Value.ref b from ry)
    refine wpAny_in_heap (show A.in1.units + 8 < cLine by show A.units + 1 + 8 < cLine; omega) (key_is (Z := zx X ct) I.hok W.le rk hq hk) hs dd ?_
    have e2 : (dget es (.tup ds)).isSome = (atKey xs q).isSome := by
      have p2 := (pn_at pn q).isSome_eq
      rw [Option.isSome_map] at p2
      rw [← p2]
      cases hg : dget es (.tup ds) with
      | some d => obtain ⟨v, e1, _⟩ := (rln_get hq r1).1 d hg; rw [e1]; rfl
      | none => rw [(rln_get hq r1).2 hg]; rfl
    rw [← e2]
    exact h _ (I.tok _)
theorem D_notIn {Q : Value → Shared → Prop} (hu : A.units + 9 < cLine) (I : Inv X pins σ H s) (W : Wd (zx X ct) F m μ H) (e : Rd H a o) (ro : Rlu (zx X ct) F m a es o) (rk : Rl (zx X ct) F m k y) (ry : RelV y u) (ft : kfits es k = true)
    (h : ∀ s', Inv X pins σ H s' → Q (.bool (!(dget es k).isSome)) s') : wpAny (model X.prog X.w) A (compareOp .NotIn u (.ref a)) Q E s := by
  rcases kfits_kind ft with hk | hk
  · obtain ⟨ks, r1, z, hs, vs, kv, dd⟩ := dict_val (Z := zx X ct) I.hok W.le e ro hk ft
    obtain ⟨q, rfl⟩ := kk_val hk
    rw [rl_key] at rk
    subst rk
    refine wpAny_notIn_of (kV_is ry) hs dd.mapOf ?_
    have e2 : (dget es (dKey q)).isSome = (valueAt vs q).isSome := by
      rw [← (kv.val q).isSome_eq]
      cases hg : dget es (dKey q) with
      | some d => obtain ⟨v, e1, _⟩ := (rlk_get q r1).1 d hg; rw [e1]; rfl
      | none => rw [(rlk_get q r1).2 hg]; rfl
    rw [← e2]
    exact h _ (I.tok _)
  · obtain ⟨ns, r1, z, hs, xs, pn, dd⟩ := dict_tup (Z := zx X ct) I.hok W.le e ro hk ft
    obtain ⟨ds, q, rfl, hq, hdp⟩ := kk_tup hk
    have rk' := rk
    simp only [Rl] at rk'
    obtain ⟨b, _, rfl, _⟩ := rk'
    cases (show u = Value.ref b from ry)
    refine PyProof.Rows.wpAny_notIn_heap (show A.in1.units + 8 < cLine by show A.units + 1 + 8 < cLine; omega) (key_is (Z := zx X ct) I.hok W.le rk hq hk) hs dd ?_
    have e2 : (dget es (.tup ds)).isSome = (atKey xs q).isSome := by
      have p2 := (pn_at pn q).isSome_eq
      rw [Option.isSome_map] at p2
      rw [← p2]
      cases hg : dget es (.tup ds) with
      | some d => obtain ⟨v, e1, _⟩ := (rln_get hq r1).1 d hg; rw [e1]; rfl
      | none => rw [(rln_get hq r1).2 hg]; rfl
    rw [← e2]
    exact h _ (I.tok _)
/-- d.get(k) -/
theorem D_get1 {Q : Value → Shared → Prop} (hu : A.units + 9 < cLine) (I : Inv X pins σ H s) (W : Wd (zx X ct) F m μ H) (e : Rd H a o) (ro : Rlu (zx X ct) F m a es o) (rk : Rl (zx X ct) F m k y) (ry : RelV y u) (ft : kfits es k = true)
    (h : ∀ v w' s', Inv X pins σ H s' → RelV v w' → Rl (zx X ct) F m ((dget es k).getD .non) v → Q w' s') : wpAny (model X.prog X.w) A (call (.builtin "dict.get") [.ref a, u]) Q E s := by
  rcases kfits_kind ft with hk | hk
  · obtain ⟨ks, r1, z, hs, vs, kv, dd⟩ := dict_val (Z := zx X ct) I.hok W.le e ro hk ft
    obtain ⟨q, rfl⟩ := kk_val hk
    rw [rl_key] at rk
    subst rk
    have two : ∃ v, Rl (zx X ct) F m ((dget es (dKey q)).getD .non) v ∧ RelV v ((valueAt vs q).getD .none) := by
      have kvq := kv.val q
      cases hg : dget es (dKey q) with
      | some d =>
        obtain ⟨v, e1, rv⟩ := (rlk_get q r1).1 d hg
        rw [e1] at kvq
        obtain ⟨w', hw, rw'⟩ := RelO.some_of kvq
        exact ⟨v, rv, by rw [hw]; exact rw'⟩
      | none =>
        rw [(rlk_get q r1).2 hg] at kvq
        refine ⟨.non, by simp only [Option.getD_none, Rl], ?_⟩
        cases hv : valueAt vs q with
        | none => rfl
        | some w' => rw [hv] at kvq; exact kvq.elim
    obtain ⟨v, rv, rw'⟩ := two
    exact call_meetsIn PySem.F.slot_dict_get dd.typeIs PySem.F.entry_dict_get (PySem.F.args_dict_get_2 _ _) (meets_dict_get (mixKind X.prog X.w) a (kV_is ry) hs) ⟨_, dd.mapOf, h v _ _ (I.tok _) rw' rv⟩
  · obtain ⟨ns, r1, z, hs, xs, pn, dd⟩ := dict_tup (Z := zx X ct) I.hok W.le e ro hk ft
    obtain ⟨ds, q, rfl, hq, hdp⟩ := kk_tup hk
    have rk' := rk
    simp only [Rl] at rk'
    obtain ⟨b, _, rfl, _⟩ := rk'
    cases (show u = Value.ref b from ry)
    have two : ∃ v, Rl (zx X ct) F m ((dget es (.tup ds)).getD .non) v ∧ RelV v (((atKey xs q).map (·.2)).getD .none) := by
      have kvq := pn_at pn q
      cases hg : dget es (.tup ds) with
      | some d =>
        obtain ⟨v, e1, rv⟩ := (rln_get hq r1).1 d hg
        rw [e1] at kvq
        obtain ⟨w', hw, rw'⟩ := RelO.some_of kvq
        exact ⟨v, rv, by rw [hw]; exact rw'⟩
      | none =>
        rw [(rln_get hq r1).2 hg] at kvq
        refine ⟨.non, by simp only [Option.getD_none, Rl], ?_⟩
        cases hv : (atKey xs q).map (·.2) with
        | none => rfl
        | some w' => rw [hv] at kvq; exact kvq.elim
    obtain ⟨v, rv, rw'⟩ := two
    exact call_meetsIn PySem.F.slot_dict_get dd.typeIs PySem.F.entry_dict_get (PySem.F.args_dict_get_2 _ _) (meetsH_dict_get (nestedKind X.prog X.w) a b hs) ⟨(show A.in1.units + 8 < cLine by show A.units + 1 + 8 < cLine; omega), q, xs, key_is (Z := zx X ct) I.hok W.le rk hq hk, dd, h v _ _ (I.tok _) rw' rv⟩
/-- d[k] = v -/
theorem D_setItem {Q : Unit → Shared → Prop} (hu : A.units + 9 < cLine) (I : Inv X pins σ H s) (W : Wd (zx X ct) F m μ H) (e : H a = some o) (mu : Mut (some o)) (ro : Rlu (zx X ct) F m a es o) (rk : Rl (zx X ct) F m k y) (ry : RelV y u) (rd : Rl (zx X ct) F m d v) (rv : RelV v r) (ft : kfits es k = true) (hl : es.length < sizeLine)
    (h : ∀ o' s', Inv X pins σ (upd H a o') s' → Mut (some o') → Rlu (zx X ct) F m a (dput es k d) o' → Q () s') : wpAny (model X.prog X.w) A (setItem (.ref a) u r) Q E s := by
  rcases kfits_kind ft with hk | hk
  · obtain ⟨ks, r1, z, hs, vs, kv, dd⟩ := dict_val (Z := zx X ct) I.hok W.le (.inl e) ro hk ft
    obtain ⟨q, rfl⟩ := kk_val hk
    rw [rl_key] at rk
    subst rk
    have hz : vs.length ≤ sizeLine := by rw [← kv.length]; exact z
    have hl' : (putK ks q v).length ≤ sizeLine := by have := length_putK ks q v; have := rlk_len r1; omega
    refine wpAny_setItem_pairs (hsz := hz) (kV_is ry) dd fun h' dd' hsb => h (.dK (putK ks q v)) _ ?_ True.intro (.inl ⟨_, rfl, rlk_put q rd r1⟩)
    have he : ∃ q, h'.get? a = some q := let ⟨q, _, _, hq, _⟩ := dd'; ⟨q, hq⟩
    exact d_write I (by rw [e]; exact mu) hsb he (dk_new hl' hs (kv.put q rv) dd')
  · obtain ⟨ns, r1, z, hs, xs, pn, dd⟩ := dict_tup (Z := zx X ct) I.hok W.le (.inl e) ro hk ft
    obtain ⟨ds, q, rfl, hq, hdp⟩ := kk_tup hk
    have rk' := rk
    simp only [Rl] at rk'
    obtain ⟨b, _, rfl, _⟩ := rk'
    cases (show u = Value.ref b from ry)
    have hz : xs.length ≤ sizeLine := by rw [← pn_len pn]; exact z
    refine wpAny_setItem_heap (hsz := hz) (show A.in1.units + 8 < cLine by show A.units + 1 + 8 < cLine; omega) (key_is (Z := zx X ct) I.hok W.le rk hq hk) dd fun h' dd' hsb => h (dN X.prog X.w a (putN ns q b v)) _ ?_ True.intro (.inr ⟨_, rfl, rln_put hq hk rk rd r1⟩)
    obtain ⟨p, es', ep, hp, h2, h3, h4, _, h5⟩ := dd'
    have hl' : (putN ns q b v).length ≤ sizeLine := by have := putN_len ns q b v; have := rln_len r1; omega
    refine d_write I (by rw [e]; exact mu) hsb ⟨p, hp⟩ ⟨⟨⟨hl', putN_ne ns q b v⟩, hs, _, pn_put pn q b rv, p, es', ep, hp, h2, h3, h4, h5⟩, ⟨p, hp⟩, ?_⟩
    rintro g1 g2 ⟨c1, c2, xs', c3, o', es2, ep2, c4, c5⟩ hk'
    exact ⟨c1, c2, xs', c3, o', es2, ep2, hk' _ c4, c5⟩
end
end SB
set_option Elab.async false
set_option linter.all false
set_option maxRecDepth 100000
namespace SB
open PySem L2
/-- a new list: one that may change (b), or one that will not -/
def mkL (b : Bool) (xs : List D) (μ : Mu) : Res D := if xs.length ≤ sizeLine then (if b then .ok (.ref μ.length) (μ ++ [.lst xs]) else .ok (.lst xs) μ) else .bad
def opAdd (b : Bool) (x y : D) (μ : Mu) : Res D := match vw μ x, vw μ y with
  | .int i, .int j => .ok (.int (i + j)) μ
  | .str i, .str j => if i.length + j.length ≤ sizeLine then .ok (.str (i ++ j)) μ else .bad
  | .lst xs, .lst ys => mkL b (xs ++ ys) μ
  | _, _ => .bad
def opSub (x y : D) (μ : Mu) : Res D := match vw μ x, vw μ y with
  | .int i, .int j => .ok (.int (i - j)) μ
  | _, _ => .bad
def opMul (x y : D) (μ : Mu) : Res D := match vw μ x, vw μ y with
  | .int i, .int j => if Builtin.Int.intBits i + Builtin.Int.intBits j ≤ 134217728 then .ok (.int (i * j)) μ else .bad
  | _, _ => .bad
def opRep (b : Bool) (x y : D) (μ : Mu) : Res D := match vw μ x, vw μ y with
  | .lst xs, .int k => if k < 2 ^ 63 ∧ -(2 ^ 63) ≤ k ∧ xs.length * k.toNat ≤ sizeLine then mkL b (List.replicate k.toNat xs).flatten μ else .bad
  | _, _ => .bad
def opFdiv (x y : D) (μ : Mu) : Res D := match vw μ x, vw μ y with
  | .int i, .int j => if 0 < j ∧ j.natAbs.log2 < 9000 then .ok (.int (i / j)) μ else .bad
  | _, _ => .bad
def opMod (x y : D) (μ : Mu) : Res D := match vw μ x, vw μ y with
  | .int i, .int j => if 0 < j then .ok (.int (i % j)) μ else .bad
  | _, _ => .bad
def opPow (x y : D) (μ : Mu) : Res D := match vw μ x, vw μ y with
  | .int i, .int j => if 0 ≤ j ∧ j ≤ 1000000 ∧ i.natAbs < 2 ^ 64 then .ok (.int (i ^ j.toNat)) μ else .bad
  | _, _ => .bad
def opShl (x y : D) (μ : Mu) : Res D := match vw μ x, vw μ y with
  | .int i, .int j => if 0 ≤ j ∧ j ≤ 1000000 ∧ i.natAbs < 2 ^ 64 then .ok (.int (i * 2 ^ j.toNat)) μ else .bad
  | _, _ => .bad
def opShr (x y : D) (μ : Mu) : Res D := match vw μ x, vw μ y with
  | .int i, .int j => if 0 ≤ j then .ok (.int (i / 2 ^ j.toNat)) μ else .bad
  | _, _ => .bad
def opBand (x y : D) (μ : Mu) : Res D := match vw μ x, vw μ y with
  | .int i, .int j => .ok (.int (Builtin.bitAnd i j)) μ
  | _, _ => .bad
def opEq (x y : D) (μ : Mu) : Res D := match eqD μ x y with
  | some b => .ok (.bl b) μ
  | none => .bad
def opNe (x y : D) (μ : Mu) : Res D := match eqD μ x y with
  | some b => .ok (.bl (!b)) μ
  | none => .bad
def opLt (x y : D) (μ : Mu) : Res D := match vw μ x, vw μ y with
  | .int i, .int j => .ok (.bl (decide (i < j))) μ
  | _, _ => .bad
def opLe (x y : D) (μ : Mu) : Res D := match vw μ x, vw μ y with
  | .int i, .int j => .ok (.bl (decide (i ≤ j))) μ
  | _, _ => .bad
def opGt (x y : D) (μ : Mu) : Res D := match vw μ x, vw μ y with
  | .int i, .int j => .ok (.bl (decide (j < i))) μ
  | _, _ => .bad
def opGe (x y : D) (μ : Mu) : Res D := match vw μ x, vw μ y with
  | .int i, .int j => .ok (.bl (decide (j ≤ i))) μ
  | _, _ => .bad
/-- x in y -/
def isIn (x y : D) (μ : Mu) : Option Bool := match vw μ y with
  | .dic es => if kfits es x then some (dget es x).isSome else none
  | .str z => match vw μ x with
    | .str c => match c.cps.toList with
      | [k] => some (decide (k ∈ z.cps.toList))
      | _ => none
    | _ => none
  | _ => inD μ x y
def opIn (x y : D) (μ : Mu) : Res D := match isIn x y μ with
  | some b => .ok (.bl b) μ
  | none => .bad
def opNin (x y : D) (μ : Mu) : Res D := match isIn x y μ with
  | some b => .ok (.bl (!b)) μ
  | none => .bad
def isNon : D → Bool
  | .non => true
  | _ => false
/-- x is None -/
def opIs (x y : D) (μ : Mu) : Res D := match y with
  | .non => .ok (.bl (isNon (vw μ x))) μ
  | _ => .bad
def opIsn (x y : D) (μ : Mu) : Res D := match y with
  | .non => .ok (.bl (!isNon (vw μ x))) μ
  | _ => .bad
/-- x[y] -/
def opIx (x y : D) (μ : Mu) : Res D := match vw μ x with
  | .dic es => if kfits es y then Res.of (dget es y) μ else .bad
  | .tup xs => match vw μ y with
    | .int i => Res.of (atI xs i) μ
    | _ => .bad
  | .str z => match vw μ y with
    | .int i => if z.length ≤ sizeLine then Res.of ((atI z.cps.toList i).map fun c => .str ⟨#[c]⟩) μ else .bad
    | _ => .bad
  | d => match seqL d, vw μ y with
    | some xs, .int i => Res.of (atI xs i) μ
    | _, _ => .bad
section
variable {Z : Zx} {F H : Hp} {m : List Addr} {μ μ' : Mu} {d : D} {Q : VK}
theorem Aft.here (k : Aft Z F m H d μ Q) (W : Wd Z F m μ H) {v : V} (r : Rl Z F m d v) : Q v H := k v F m H (Xt.refl _ _ _) W r
theorem Aft.newL {b : Bool} {xs : List D} {vs : List V} (W : Wd Z F m μ H) (r : Rls Z F m xs vs) (e : mkL b xs μ = .ok d μ') (k : Aft Z F m H d μ' Q) : vs.length ≤ sizeLine ∧ ∀ p, H p = none → Q (.ref p) (upd H p (.lst vs)) := by
  unfold mkL at e
  by_cases hl : xs.length ≤ sizeLine
  · rw [if_pos hl] at e
    refine ⟨by rw [r.length]; exact hl, fun p n => ?_⟩
    cases b with
    | true =>
      rw [if_pos rfl] at e
      cases e
      have g : Gr F m F (m ++ [p]) := ⟨fun _ _ e => e, fun i a e => by rw [List.getElem?_append_left (List.getElem?_eq_some_iff.mp e).1]; exact e⟩
      have nF : F p = none := by
        cases q : F p with
        | none => rfl
        | some u => rw [W.le _ _ q] at n; cases n
      obtain ⟨W', x⟩ := W.cellNew (o := .lst vs) (.lst xs) n ⟨nF, vs, upd_same, Rls.gr g _ _ r⟩
      exact k _ _ _ _ x W' (by simp only [Rl]; exact ⟨p, rfl, by rw [← W.len]; simp⟩)
    | false =>
      rw [if_neg (by decide)] at e
      cases e
      obtain ⟨W', x⟩ := W.frozen (.lst vs) n
      refine k _ _ _ _ x W' ?_
      simp only [Rl]
      exact ⟨p, vs, rfl, upd_same, Rls.gr x.gr _ _ r⟩
  · rw [if_neg hl] at e; cases e
end
section
variable {Z : Zx} {F H : Hp} {m : List Addr} {μ μ' : Mu} {a b d : D} {x y : V} {Q : VK}
end
theorem osI {Z : Zx} {C : Int → Int → Prop} {f : Int → Int → Int} {g : D → D → Mu → Res D} (h : ∀ a b μ d μ', g a b μ = .ok d μ' → ∃ i j, vw μ a = .int i ∧ vw μ b = .int j ∧ C i j ∧ d = .int (f i j) ∧ μ' = μ) : OpS Z (rI C fun i j => .int (f i j)) g := by
  intro F m μ H a b x y d μ' Q W ra rb e k
  obtain ⟨i, j, h1, h2, h3, rfl, rfl⟩ := h a b μ d μ' e
  exact ⟨i, j, vw_int W ra h1, vw_int W rb h2, h3, k.here W (by simp only [Rl])⟩
theorem osI0 {Z : Zx} {f : Int → Int → Int} {g : D → D → Mu → Res D} (h : ∀ a b μ d μ', g a b μ = .ok d μ' → ∃ i j, vw μ a = .int i ∧ vw μ b = .int j ∧ d = .int (f i j) ∧ μ' = μ) : OpS Z (rI0 fun i j => .int (f i j)) g := by
  intro F m μ H a b x y d μ' Q W ra rb e k
  obtain ⟨i, j, h1, h2, rfl, rfl⟩ := h a b μ d μ' e
  exact ⟨i, j, vw_int W ra h1, vw_int W rb h2, k.here W (by simp only [Rl])⟩
theorem osB0 {Z : Zx} {f : Int → Int → Bool} {g : D → D → Mu → Res D} (h : ∀ a b μ d μ', g a b μ = .ok d μ' → ∃ i j, vw μ a = .int i ∧ vw μ b = .int j ∧ d = .bl (f i j) ∧ μ' = μ) : OpS Z (rI0 fun i j => .bl (f i j)) g := by
  intro F m μ H a b x y d μ' Q W ra rb e k
  obtain ⟨i, j, h1, h2, rfl, rfl⟩ := h a b μ d μ' e
  exact ⟨i, j, vw_int W ra h1, vw_int W rb h2, k.here W (by simp only [Rl])⟩
theorem os_mul {Z : Zx} : OpS Z (rI CMulX fun i j => .int (i * j)) opMul := osI fun a b μ d μ' e => by
  unfold opMul at e
  split at e
  · rename_i i j h1 h2
    split at e
    · rename_i hc; cases e; exact ⟨i, j, h1, h2, (by unfold CMulX; omega), rfl, rfl⟩
    · cases e
  · cases e
theorem os_fdiv {Z : Zx} : OpS Z (rI CDivW fun i j => .int (i / j)) opFdiv := osI fun a b μ d μ' e => by
  unfold opFdiv at e
  split at e
  · rename_i i j h1 h2
    split at e
    · rename_i hc; cases e; exact ⟨i, j, h1, h2, hc, rfl, rfl⟩
    · cases e
  · cases e
theorem os_mod {Z : Zx} : OpS Z (rI (fun _ j => 0 < j) fun i j => .int (i % j)) opMod := osI fun a b μ d μ' e => by
  unfold opMod at e
  split at e
  · rename_i i j h1 h2
    split at e
    · rename_i hc; cases e; exact ⟨i, j, h1, h2, hc, rfl, rfl⟩
    · cases e
  · cases e
theorem os_pow {Z : Zx} : OpS Z (rI CPow fun i j => .int (i ^ j.toNat)) opPow := osI fun a b μ d μ' e => by
  unfold opPow at e
  split at e
  · rename_i i j h1 h2
    split at e
    · rename_i hc; cases e; exact ⟨i, j, h1, h2, hc, rfl, rfl⟩
    · cases e
  · cases e
theorem os_shr {Z : Zx} : OpS Z (rI (fun _ j => 0 ≤ j) fun i j => .int (i / 2 ^ j.toNat)) opShr := osI fun a b μ d μ' e => by
  unfold opShr at e
  split at e
  · rename_i i j h1 h2
    split at e
    · rename_i hc; cases e; exact ⟨i, j, h1, h2, hc, rfl, rfl⟩
    · cases e
  · cases e
theorem os_band {Z : Zx} : OpS Z (rI0 fun i j => .int (Builtin.bitAnd i j)) opBand := osI0 fun a b μ d μ' e => by
  unfold opBand at e
  split at e
  · rename_i i j h1 h2; cases e; exact ⟨i, j, h1, h2, rfl, rfl⟩
  · cases e
theorem os_lt {Z : Zx} : OpS Z (rI0 fun i j => .bl (decide (i < j))) opLt := osB0 fun a b μ d μ' e => by
  unfold opLt at e
  split at e
  · rename_i i j h1 h2; cases e; exact ⟨i, j, h1, h2, rfl, rfl⟩
  · cases e
theorem os_le {Z : Zx} : OpS Z (rI0 fun i j => .bl (decide (i ≤ j))) opLe := osB0 fun a b μ d μ' e => by
  unfold opLe at e
  split at e
  · rename_i i j h1 h2; cases e; exact ⟨i, j, h1, h2, rfl, rfl⟩
  · cases e
theorem os_gt {Z : Zx} : OpS Z (rI0 fun i j => .bl (decide (j < i))) opGt := osB0 fun a b μ d μ' e => by
  unfold opGt at e
  split at e
  · rename_i i j h1 h2; cases e; exact ⟨i, j, h1, h2, rfl, rfl⟩
  · cases e
theorem os_ge {Z : Zx} : OpS Z (rI0 fun i j => .bl (decide (j ≤ i))) opGe := osB0 fun a b μ d μ' e => by
  unfold opGe at e
  split at e
  · rename_i i j h1 h2; cases e; exact ⟨i, j, h1, h2, rfl, rfl⟩
  · cases e
/-- + of ints, texts, lists -/
def rAddD : R2 := fun x y H Q => (rI0 (fun i j => .int (i + j)) x y H Q) ∨ ((fun x y H Q => ∃ i j, x = V.str i ∧ y = V.str j ∧ i.length + j.length ≤ sizeLine ∧ Q (.str (i ++ j)) H : R2) x y H Q) ∨ rCat x y H Q
theorem op_addD {X : Cx} : OpR X (binaryOp .Add) rAddD := op_add.or (op_add_str.or op_cat)
theorem os_add {Z : Zx} (bb : Bool) : OpS Z rAddD (opAdd bb) := by
  intro F m μ H a b x y d μ' Q W ra rb e k
  unfold opAdd at e
  split at e
  · rename_i i j h1 h2
    cases e
    exact .inl ⟨i, j, vw_int W ra h1, vw_int W rb h2, k.here W (by simp only [Rl])⟩
  · rename_i i j h1 h2
    split at e
    · rename_i hc
      cases e
      exact .inr (.inl ⟨i, j, vw_str W ra h1, vw_str W rb h2, hc, k.here W (by simp only [Rl])⟩)
    · cases e
  · rename_i xs ys h1 h2
    obtain ⟨p, vs, e1, g1, r1⟩ := vw_lst W ra h1
    obtain ⟨q, us, e2, g2, r2⟩ := vw_lst W rb h2
    obtain ⟨hl, z⟩ := Aft.newL W (r1.append r2) e k
    exact .inr (.inr ⟨p, q, vs, us, e1, e2, g1, g2, by simpa using hl, z⟩)
  · cases e
theorem os_rep {Z : Zx} (bb : Bool) : OpS Z rRep (opRep bb) := by
  intro F m μ H a b x y d μ' Q W ra rb e k
  unfold opRep at e
  split at e
  · rename_i xs i h1 h2
    split at e
    · rename_i hc
      obtain ⟨p, vs, e1, g1, r1⟩ := vw_lst W ra h1
      have r2 : ∀ n : Nat, Rls Z F m (List.replicate n xs).flatten (List.replicate n vs).flatten := by
        intro n
        induction n with
        | zero => exact .nil
        | succ n ih => rw [List.replicate_succ, List.replicate_succ, List.flatten_cons, List.flatten_cons]; exact r1.append ih
      obtain ⟨hl, z⟩ := Aft.newL W (r2 i.toNat) e k
      exact ⟨p, i, vs, e1, vw_int W rb h2, g1, hc.2.1, hc.1, by rw [r1.length]; exact hc.2.2, z⟩
    · cases e
  · cases e
end SB
set_option Elab.async false
set_option linter.all false
set_option maxRecDepth 100000
namespace SB
open PySem L2
section
variable {Z : Zx} {F H : Hp} {m : List Addr} {μ μ' : Mu}
/-- data as plain Python data, in the heap -/
theorem toPy_dp (W : Wd Z F m μ H) : ∀ (n : Nat) (d : D) (v : V) (p : PyData), Rl Z F m d v → toPy n μ d = some p → Dp Z.K H v p
  | 0, d, v, p, r, e => by cases e
  | n + 1, d, v, p, r, e => by
    have all : ∀ (xs : List D) (vs : List V) (ps : List PyData), Rls Z F m xs vs → xs.mapM (toPy n μ) = some ps → DpAll Z.K H vs ps := by
      intro xs
      induction xs with
      | nil => intro vs ps h q; simp only [Rls] at h; subst h; simp at q; subst q; exact .nil
      | cons x xs ih =>
        intro vs ps h q
        simp only [Rls] at h
        obtain ⟨v, r, rfl, h1, h2⟩ := h
        simp only [List.mapM_cons, Option.bind_eq_bind, Option.bind_eq_some_iff, Option.pure_def, Option.some.injEq] at q
        obtain ⟨p, q1, qs, q2, rfl⟩ := q
        exact .cons (toPy_dp W n x v p h1 q1) (ih _ _ h2 q2)
    unfold toPy at e
    split at e
    · rename_i h; cases e; rw [vw_non W r h]; exact .non
    · rename_i h; cases e; rw [vw_bl W r h]; exact .bl _
    · rename_i h; cases e; rw [vw_int W r h]; exact .int _
    · rename_i h; cases e; rw [vw_str W r h]; exact .str _
    · rename_i xs h
      obtain ⟨ps, q, rfl⟩ := Option.map_eq_some_iff.mp e
      obtain ⟨a, vs, rfl, f, rs⟩ := vw_tup W r h
      exact .tup (.of f) (all _ _ _ rs q)
    · rename_i xs h
      obtain ⟨ps, q, rfl⟩ := Option.map_eq_some_iff.mp e
      obtain ⟨a, vs, rfl, f, rs⟩ := vw_lst W r h
      exact .lst (.of f) (all _ _ _ rs q)
    · rename_i ns h
      cases e
      obtain ⟨a, rfl, f⟩ := vw_scr W r h
      refine .lst f ?_
      clear h f
      induction ns with
      | nil => exact .nil
      | cons n ns ih => exact .cons (.int _) ih
    · cases e
theorem toPyS_dp (W : Wd Z F m μ H) {d : D} {v : V} {p : PyData} (r : Rl Z F m d v) (e : toPyS μ d = some p) : Dp Z.K H v p ∧ SeqAt.shaped p = true := by
  unfold toPyS at e
  cases q : toPy 9 μ d with
  | none => rw [q] at e; cases e
  | some p' =>
    rw [q] at e
    simp only at e
    by_cases hs : SeqAt.shaped p' = true
    · rw [if_pos hs] at e; cases e; exact ⟨toPy_dp W _ _ _ _ r q, hs⟩
    · rw [if_neg hs] at e; cases e
end
theorem os_eq {Z : Zx} : OpS Z (rEqD Z.K) opEq := by
  intro F m μ H a b x y d μ' Q W ra rb e k
  unfold opEq eqD at e
  cases q1 : toPyS μ a <;> cases q2 : toPyS μ b <;> simp only [q1, q2] at e <;> cases e
  obtain ⟨d1, s1⟩ := toPyS_dp W ra q1
  obtain ⟨d2, s2⟩ := toPyS_dp W rb q2
  exact ⟨_, _, d1, d2, s1, s2, k.here W (by simp only [Rl])⟩
theorem os_ne {Z : Zx} : OpS Z (rNeD Z.K) opNe := by
  intro F m μ H a b x y d μ' Q W ra rb e k
  unfold opNe eqD at e
  cases q1 : toPyS μ a <;> cases q2 : toPyS μ b <;> simp only [q1, q2] at e <;> cases e
  obtain ⟨d1, s1⟩ := toPyS_dp W ra q1
  obtain ⟨d2, s2⟩ := toPyS_dp W rb q2
  exact ⟨_, _, d1, d2, s1, s2, k.here W (by simp only [Rl])⟩
def rDicIn (X : Cx) (ct : Nat → Addr × List Str) (neg : Bool) : R2 := fun x y H Q => ∃ F m μ es k a o, Wd (zx X ct) F m μ H ∧ y = .ref a ∧ Rd H a o ∧ Rlu (zx X ct) F m a es o ∧ Rl (zx X ct) F m k x ∧ kfits es k = true ∧ Q (.bl (if neg then !(dget es k).isSome else (dget es k).isSome)) H
theorem op_inDic {X : Cx} (ct : Nat → Addr × List Str) (hu : X.A.units + 9 < cLine) : OpR X (compareOp .In) (rDicIn X ct false) := by
  intro pins s σ H x y v u Q I rx ry h
  obtain ⟨F, m, μ, es, k, a, o, W, rfl, e, ro, rk, ft, q⟩ := h
  cases ry
  exact D_in hu I W e ro rk rx ft fun s' I' => ⟨.bl _, H, I', rfl, q⟩
theorem op_ninDic {X : Cx} (ct : Nat → Addr × List Str) (hu : X.A.units + 9 < cLine) : OpR X (compareOp .NotIn) (rDicIn X ct true) := by
  intro pins s σ H x y v u Q I rx ry h
  obtain ⟨F, m, μ, es, k, a, o, W, rfl, e, ro, rk, ft, q⟩ := h
  cases ry
  exact D_notIn hu I W e ro rk rx ft fun s' I' => ⟨.bl _, H, I', rfl, q⟩
def rSign (neg : Bool) : R2 := fun x y H Q => ∃ (c : Nat) (z : Str), x = .str ⟨#[c]⟩ ∧ y = .str z ∧ Q (.bl (if neg then !decide (c ∈ z.cps.toList) else decide (c ∈ z.cps.toList))) H
def rInA (X : Cx) (ct : Nat → Addr × List Str) : R2 := fun x y H Q => rDicIn X ct false x y H Q ∨ rSign false x y H Q ∨ rInD X.K x y H Q
def rNinA (X : Cx) (ct : Nat → Addr × List Str) : R2 := fun x y H Q => rDicIn X ct true x y H Q ∨ rSign true x y H Q ∨ rNotInD X.K x y H Q
theorem op_inA {X : Cx} (ct : Nat → Addr × List Str) (hu : X.A.units + 65 < cLine) : OpR X (compareOp .In) (rInA X ct) :=
  (op_inDic ct (by omega)).or ((show OpR X (compareOp .In) (rSign false) from op_in_sign).or (op_inD hu))
theorem op_ninA {X : Cx} (ct : Nat → Addr × List Str) (hu : X.A.units + 65 < cLine) : OpR X (compareOp .NotIn) (rNinA X ct) :=
  (op_ninDic ct (by omega)).or ((show OpR X (compareOp .NotIn) (rSign true) from op_notIn_sign).or (op_notInD hu))
theorem str_one {c : Str} {k : Nat} (h : c.cps.toList = [k]) : c = ⟨#[k]⟩ := by
  obtain ⟨a⟩ := c
  have : a = #[k] := by
    apply Array.ext'
    simpa using h
  rw [this]
/-- how membership comes about -/
theorem isIn_cases {X : Cx} {ct : Nat → Addr × List Str} {F H : Hp} {m : List Addr} {μ : Mu} {a b : D} {x y : V} {r : Bool} (W : Wd (zx X ct) F m μ H) (ra : Rl (zx X ct) F m a x) (rb : Rl (zx X ct) F m b y) (e : isIn a b μ = some r) :
    (∃ es l o, y = .ref l ∧ Rd H l o ∧ Rlu (zx X ct) F m l es o ∧ kfits es a = true ∧ r = (dget es a).isSome) ∨ (∃ c z, x = .str ⟨#[c]⟩ ∧ y = .str z ∧ r = decide (c ∈ z.cps.toList)) ∨
      ∃ p qs, Dp X.K H x p ∧ Dp X.K H y (.list qs) ∧ SeqAt.shaped p = true ∧ SeqAt.shaped (.list qs) = true ∧ r = qs.any fun z => PyData.eqv z p := by
  unfold isIn at e
  split at e
  · rename_i es h
    split at e
    · rename_i ft
      cases e
      obtain ⟨l, o, rfl, e1, r1⟩ := vw_dic W rb h
      exact .inl ⟨es, l, o, rfl, e1, r1, ft, rfl⟩
    · cases e
  · rename_i z h
    split at e
    · rename_i c h2
      split at e
      · rename_i k h3
        cases e
        exact .inr (.inl ⟨k, z, by rw [vw_str W ra h2, str_one h3], vw_str W rb h, rfl⟩)
      · cases e
    · cases e
  · unfold inD at e
    split at e
    · rename_i p qs h1 h2
      cases e
      obtain ⟨d1, s1⟩ := toPyS_dp W ra h1
      obtain ⟨d2, s2⟩ := toPyS_dp W rb h2
      exact .inr (.inr ⟨p, qs, d1, d2, s1, s2, rfl⟩)
    · cases e
theorem os_in {X : Cx} {ct : Nat → Addr × List Str} : OpS (zx X ct) (rInA X ct) opIn := by
  intro F m μ H a b x y d μ' Q W ra rb e k
  unfold opIn at e
  cases q : isIn a b μ with
  | none => rw [q] at e; cases e
  | some r =>
    rw [q] at e; cases e
    rcases isIn_cases W ra rb q with ⟨es, l, o, rfl, e1, r1, ft, rfl⟩ | ⟨c, z, rfl, rfl, rfl⟩ | ⟨p, qs, d1, d2, s1, s2, rfl⟩
    · exact .inl ⟨F, m, μ, es, a, l, o, W, rfl, e1, r1, ra, ft, k.here W (by simp only [Rl]; rfl)⟩
    · exact .inr (.inl ⟨c, z, rfl, rfl, k.here W (by simp only [Rl]; rfl)⟩)
    · exact .inr (.inr ⟨p, qs, d1, d2, s1, s2, k.here W (by simp only [Rl])⟩)
theorem os_nin {X : Cx} {ct : Nat → Addr × List Str} : OpS (zx X ct) (rNinA X ct) opNin := by
  intro F m μ H a b x y d μ' Q W ra rb e k
  unfold opNin at e
  cases q : isIn a b μ with
  | none => rw [q] at e; cases e
  | some r =>
    rw [q] at e; cases e
    rcases isIn_cases W ra rb q with ⟨es, l, o, rfl, e1, r1, ft, rfl⟩ | ⟨c, z, rfl, rfl, rfl⟩ | ⟨p, qs, d1, d2, s1, s2, rfl⟩
    · exact .inl ⟨F, m, μ, es, a, l, o, W, rfl, e1, r1, ra, ft, k.here W (by simp only [Rl]; rfl)⟩
    · exact .inr (.inl ⟨c, z, rfl, rfl, k.here W (by simp only [Rl]; rfl)⟩)
    · exact .inr (.inr ⟨p, qs, d1, d2, s1, s2, k.here W (by simp only [Rl])⟩)
theorem rl_non {Z : Zx} {F H : Hp} {m : List Addr} {μ : Mu} {d : D} {v : V} (W : Wd Z F m μ H) (r : Rl Z F m d v) : isNon (vw μ d) = decide (v = .non) := by
  by_cases h : fzok (vw μ d) = true
  · cases q : vw μ d with
    | lst xs => obtain ⟨a, vs, rfl, _⟩ := vw_lst W r q; simp [isNon]
    | dic es => obtain ⟨a, o, rfl, _⟩ := vw_dic W r q; simp [isNon]
    | ins c fs => obtain ⟨a, dx, vs, rfl, _⟩ := vw_ins W r q; simp [isNon]
    | _ => rw [q] at h; cases h
  · have e := vw_self W r (by simpa using h)
    cases d with
    | non => simp only [Rl] at r; subst r; simp [vw, isNon]
    | bl b => simp only [Rl] at r; subst r; simp [vw, isNon]
    | int b => simp only [Rl] at r; subst r; simp [vw, isNon]
    | str b => simp only [Rl] at r; subst r; simp [vw, isNon]
    | tup b => simp only [Rl] at r; obtain ⟨a, _, rfl, _⟩ := r; simp [vw, isNon]
    | scr b => simp only [Rl] at r; obtain ⟨a, rfl, _⟩ := r; simp [vw, isNon]
    | exc b _ => simp only [Rl] at r; obtain ⟨a, _, _, rfl, _⟩ := r; simp [vw, isNon]
    | ref n => obtain ⟨a, c, rfl, _⟩ := W.at r; rw [e]; simp [isNon]
    | lst b => exact absurd (by simp [vw, fzok]) h
    | dic b => exact absurd (by simp [vw, fzok]) h
    | ins b c => exact absurd (by simp [vw, fzok]) h
theorem os_is {Z : Zx} : OpS Z (fun x y H Q => y = .non ∧ Q (.bl (decide (x = .non))) H) opIs := by
  intro F m μ H a b x y d μ' Q W ra rb e k
  unfold opIs at e
  split at e
  · cases e
    refine ⟨by simpa only [Rl] using rb, k.here W ?_⟩
    rw [rl_non W ra]; simp only [Rl]
  · cases e
theorem os_isn {Z : Zx} : OpS Z (fun x y H Q => y = .non ∧ Q (.bl (!decide (x = .non))) H) opIsn := by
  intro F m μ H a b x y d μ' Q W ra rb e k
  unfold opIsn at e
  split at e
  · cases e
    refine ⟨by simpa only [Rl] using rb, k.here W ?_⟩
    rw [rl_non W ra]; simp only [Rl]
  · cases e
def rDicIx (X : Cx) (ct : Nat → Addr × List Str) : R2 := fun x y H Q => ∃ F m μ es k d a o, Wd (zx X ct) F m μ H ∧ x = .ref a ∧ Rd H a o ∧ Rlu (zx X ct) F m a es o ∧ Rl (zx X ct) F m k y ∧ kfits es k = true ∧ dget es k = some d ∧ ∀ v, Rl (zx X ct) F m d v → Q v H
theorem rd_dict {X : Cx} {ct : Nat → Addr × List Str} {pins : List (Addr × Obj)} {σ : St} {F H : Hp} {m : List Addr} {μ : Mu} {s : Shared} {a : Addr} {o : HO} {es : List (D × D)} (I : Inv X pins σ H s) (W : Wd (zx X ct) F m μ H) (e : Rd H a o) (ro : Rlu (zx X ct) F m a es o) :
    s.TypeIs (.ref a) "dict" ∧ ∀ b, Value.ref a = .ref b → ∃ ob, s.heap.get? b = some ob ∧ ob.dict = none := by
  rcases ro with ⟨ks, rfl, r⟩ | ⟨ns, rfl, r⟩
  · obtain ⟨_, _, vs, _, dd⟩ := dk_rd I.hok e
    refine ⟨dd.typeIs, fun b q => ?_⟩
    cases q
    obtain ⟨ob, _, _, h1, h2, _⟩ := dd
    exact ⟨ob, h1, h2.2.1⟩
  · obtain ⟨_, _, xs, _, dd⟩ := dn_rd (Z := zx X ct) I.hok W.le e r
    refine ⟨dd.typeIs, fun b q => ?_⟩
    cases q
    obtain ⟨ob, _, _, h1, h2, _⟩ := dd
    exact ⟨ob, h1, h2.2.1⟩
theorem ix_dic {X : Cx} (ct : Nat → Addr × List Str) (hu : X.A.units + 9 < cLine) : IxR X (rDicIx X ct) := by
  intro value slice pins s σ H x y v u Q I rx ry h hs
  obtain ⟨F, m, μ, es, k, d, a, o, W, rfl, e, ro, rk, ft, hd, q⟩ := h
  cases rx
  have hT := (rd_dict I W e ro).1
  have hg : wpAny (model X.prog X.w) X.A (getItem (.ref a) u) (EP X pins σ Q) X.xe s := D_getItem hu I W e ro rk ry ft hd fun v w' s' I' rv rl => ⟨v, H, I', rv, q v rl⟩
  unfold PyProof.Rows.subscriptTail
  refine wpAny_bind ?_
  rw [getitemInPython_of_ne hT.not_modules]
  refine wpAny_bind (wpAny_specialOf hT PySem.F.slot_dict_getitem.lookup ?_)
  have last : wpAny (model X.prog X.w) X.A (subscripted slice false (.ref a) u) (fun r s' => wpAny (model X.prog X.w) X.A (letTemporaryGo value (.ref a) r >>= fun _ => pure r) (EP X pins σ Q) X.xe s') X.xe s := by
    rw [hs]
    exact wpAny_operating (wpAny_mono hg (fun r s' z => wpAny_bind (wpAny_letTemporaryGo (wpAny_pure z))) fun _ _ z => z)
  first
    | exact wpAny_pure (wpAny_bind last)
    | exact wpAny_bind (wpAny_pure (wpAny_bind last))
    | exact wpAny_bind last
def rIxA (X : Cx) (ct : Nat → Addr × List Str) : R2 := fun x y H Q => rDicIx X ct x y H Q ∨ rIx X.K x y H Q
theorem ix_any {X : Cx} (ct : Nat → Addr × List Str) (hu : X.A.units + 9 < cLine) : IxR X (rIxA X ct) := (ix_dic ct hu).or ix_seq
theorem atI_rls {Z : Zx} {F : Hp} {m : List Addr} {xs : List D} {vs : List V} (r : Rls Z F m xs vs) {i : Int} {d : D} (e : atI xs i = some d) : ∃ v, atI vs i = some v ∧ Rl Z F m d v := by
  unfold atI at e ⊢
  rw [r.length]
  cases q : ixN xs.length i with
  | none => rw [q] at e; cases e
  | some j => rw [q] at e; exact r.get e
theorem os_ix {X : Cx} {ct : Nat → Addr × List Str} : OpS (zx X ct) (rIxA X ct) opIx := by
  intro F m μ H a b x y d μ' Q W ra rb e k
  have of_ : ∀ {α : Type} {o : Option α} {c : α} {μ1 μ2 : Mu}, Res.of o μ1 = .ok c μ2 → o = some c ∧ μ1 = μ2 := by
    intro α o c μ1 μ2 h
    cases o with
    | none => cases h
    | some z => cases h; exact ⟨rfl, rfl⟩
  unfold opIx at e
  split at e
  · rename_i es h
    split at e
    · rename_i ft
      obtain ⟨e1, rfl⟩ := of_ e
      obtain ⟨l, o, rfl, e2, r1⟩ := vw_dic W ra h
      exact .inl ⟨F, m, μ, es, b, d, l, o, W, rfl, e2, r1, rb, ft, e1, fun v r => k.here W r⟩
    · cases e
  · rename_i xs h
    split at e
    · rename_i i h2
      obtain ⟨e1, rfl⟩ := of_ e
      obtain ⟨l, vs, rfl, e2, r1⟩ := vw_tup W ra h
      obtain ⟨v, e3, r2⟩ := atI_rls r1 e1
      exact .inr (.inr (.inl ⟨l, vs, i, v, rfl, vw_int W rb h2, .of e2, e3, k.here W r2⟩))
    · cases e
  · rename_i z h
    split at e
    · rename_i i h2
      split at e
      · rename_i hz
        obtain ⟨e1, rfl⟩ := of_ e
        obtain ⟨c, e2, rfl⟩ := Option.map_eq_some_iff.mp e1
        exact .inr (.inr (.inr ⟨z, i, c, vw_str W ra h, vw_int W rb h2, hz, e2, k.here W (by simp only [Rl])⟩))
      · cases e
    · cases e
  · split at e
    · rename_i xs i h1 h2
      obtain ⟨e1, rfl⟩ := of_ e
      obtain ⟨l, vs, rfl, e2, r1⟩ := vw_seq W ra h1
      obtain ⟨v, e3, r2⟩ := atI_rls r1 e1
      exact .inr (.inl ⟨l, vs, i, v, rfl, vw_int W rb h2, e2, e3, k.here W r2⟩)
    · cases e
end SB
set_option Elab.async false
set_option linter.all false
set_option maxRecDepth 100000
namespace SB
open PySem L2
def dVar (i : Nat) : DE := fun ρ μ => match ρ[i]? with
  | some (some d) => .ok d μ
  | _ => .bad
def dCst (d : D) : DE := fun _ μ => .ok d μ
def dUn (f : DE) (g : D → Mu → Res D) : DE := fun ρ μ => (f ρ μ).bind g
def unNeg (x : D) (μ : Mu) : Res D := match vw μ x with
  | .int i => .ok (.int (-i)) μ
  | _ => .bad
def asB (x : D) (μ : Mu) : Res Bool := match vw μ x with
  | .bl b => .ok b μ
  | _ => .bad
def dBool (f : DE) : DT := fun ρ μ => (f ρ μ).bind asB
def dNot (f : DT) : DT := fun ρ μ => (f ρ μ).bind fun b μ1 => .ok (!b) μ1
def dAnd (f g : DT) : DT := fun ρ μ => (f ρ μ).bind fun b μ1 => if b then g ρ μ1 else .ok false μ1
def dOr (f g : DT) : DT := fun ρ μ => (f ρ μ).bind fun b μ1 => if b then .ok true μ1 else g ρ μ1
/-- as values -/
def dNotV (f : DE) : DE := fun ρ μ => (f ρ μ).bind fun x μ1 => match vw μ1 x with
  | .bl b => .ok (.bl (!b)) μ1
  | _ => .bad
def dAndV (f g : DE) : DE := fun ρ μ => (f ρ μ).bind fun x μ1 => match vw μ1 x with
  | .bl true => g ρ μ1
  | .bl false => .ok (.bl false) μ1
  | _ => .bad
def dOrV (f g : DE) : DE := fun ρ μ => (f ρ μ).bind fun x μ1 => match vw μ1 x with
  | .bl false => g ρ μ1
  | .bl true => .ok (.bl true) μ1
  | _ => .bad
def dIf (c : DT) (f g : DE) : DE := fun ρ μ => (c ρ μ).bind fun b μ1 => if b then f ρ μ1 else g ρ μ1
def dChain (f g h : DE) (o1 o2 : D → D → Mu → Res D) : DE := fun ρ μ => (f ρ μ).bind fun x μ1 => (g ρ μ1).bind fun y μ2 => (o1 x y μ2).bind fun z μ3 => match vw μ3 z with
  | .bl true => (h ρ μ3).bind fun w μ4 => o2 y w μ4
  | .bl false => .ok (.bl false) μ3
  | _ => .bad
def dNil : DEs := fun _ μ => .ok [] μ
def dCons (f : DE) (g : DEs) : DEs := fun ρ μ => (f ρ μ).bind fun x μ1 => (g ρ μ1).bind fun xs μ2 => .ok (x :: xs) μ2
def dTup (f : DEs) : DE := fun ρ μ => (f ρ μ).bind fun xs μ1 => if xs.length ≤ sizeLine then .ok (.tup xs) μ1 else .bad
def dLst (b : Bool) (f : DEs) : DE := fun ρ μ => (f ρ μ).bind fun xs μ1 => mkL b xs μ1
def dSlice (b : Bool) (f : DE) (lo hi : Option DE) : DE := fun ρ μ => (f ρ μ).bind fun x μ1 =>
  (match lo with | none => .ok none μ1 | some g => (g ρ μ1).bind fun y μ2 => match vw μ2 y with | .int i => .ok (some i) μ2 | _ => .bad : Res (Option Int)).bind fun l μ2 =>
  (match hi with | none => .ok none μ2 | some g => (g ρ μ2).bind fun y μ3 => match vw μ3 y with | .int i => .ok (some i) μ3 | _ => .bad : Res (Option Int)).bind fun u μ3 =>
  match vw μ3 x with
  | .str z => if z.length ≤ sizeLine then .ok (.str (cutS z l u)) μ3 else .bad
  | .tup xs => if (cutD xs l u).length < xs.length then .ok (.tup (cutD xs l u)) μ3 else .bad
  | d => match seqL d with
    | some xs => mkL b (cutD xs l u) μ3
    | none => .bad
where cutD (xs : List D) (lo hi : Option Int) : List D := (xs.drop (HT.sIx xs.length 0 lo)).take (HT.sIx xs.length xs.length hi - HT.sIx xs.length 0 lo)
section
variable {X : Cx} {ct : Nat → Addr × List Str} {pos : Pos} {a b c e : Expr} {f g h : DE}
theorem de_var (i : Nat) {x : Str} (hN : X.N[i]? = some x := by rfl) (hv : Vis X.env.scope x := by first | exact Or.inl rfl | exact Or.inr (Or.inl rfl) | exact Or.inr (Or.inr rfl)) (hd : (x == ("__debug__" : Str)) = false := by decide)
    (hcd : (x == ("__classdict__" : Str)) = false := by decide) : PE X (.Name x pos) (tE (zx X ct) (dVar i)) := by
  refine pe_imp (pe_var (i := i) hN hv hd hcd) fun σ H Q q => ?_
  obtain ⟨F, m, ρ, μ, d, μ', W, r, e, k⟩ := q
  unfold dVar at e
  split at e
  · rename_i d' hd'
    cases e
    obtain ⟨v, e1, r1⟩ := r.2 i _ hd'
    exact ⟨v, e1, k.here W r1⟩
  · cases e
theorem de_cst {d : D} {v : V} (hp : PE X e (tC v)) (hv : ∀ F m, Rl (zx X ct) F m d v) : PE X e (tE (zx X ct) (dCst d)) := by
  refine pe_imp hp fun σ H Q q => ?_
  obtain ⟨F, m, ρ, μ, d, μ', W, r, e, k⟩ := q
  cases e
  exact k.here W (hv F m)
theorem de_int {i j pos} : PE X (.Constant (.int i) j pos) (tE (zx X ct) (dCst (.int i))) := de_cst pe_int fun _ _ => by simp only [Rl]
theorem de_bl {i j pos} : PE X (.Constant (.bool i) j pos) (tE (zx X ct) (dCst (.bl i))) := de_cst pe_bl fun _ _ => by simp only [Rl]
theorem de_str {i j pos} : PE X (.Constant (.str i) j pos) (tE (zx X ct) (dCst (.str i))) := de_cst pe_str fun _ _ => by simp only [Rl]
theorem de_non {j pos} : PE X (.Constant .none j pos) (tE (zx X ct) (dCst .non)) := de_cst pe_non fun _ _ => by simp only [Rl]
theorem de_gint {x : Str} {i : Int} (hm : ∃ t, X.mg x = some (.int i t)) (hg : Gl X x := by rfl) (hd : (x == ("__debug__" : Str)) = false := by decide) : PE X (.Name x pos) (tE (zx X ct) (dCst (.int i))) := hm.elim fun t hm => de_cst (pe_glob hg hm (v := .int i) ⟨t, rfl⟩ hd) fun _ _ => by simp only [Rl]
theorem de_gstr {x i : Str} (hm : ∃ t, X.mg x = some (.str i t)) (hg : Gl X x := by rfl) (hd : (x == ("__debug__" : Str)) = false := by decide) : PE X (.Name x pos) (tE (zx X ct) (dCst (.str i))) := hm.elim fun t hm => de_cst (pe_glob hg hm (v := .str i) ⟨t, rfl⟩ hd) fun _ _ => by simp only [Rl]
theorem de_bin {op : Operator} {r : R2} {k : D → D → Mu → Res D} (ho : OpR X (binaryOp op) r) (s : OpS (zx X ct) r k) (ha : PE X a (tE (zx X ct) f)) (hb : PE X b (tE (zx X ct) g)) : PE X (.BinOp a op b pos) (tE (zx X ct) (dBin f g k)) :=
  pe_imp (pe_op ho ha hb) fun σ H Q q => tOp_of s f g σ H Q q
theorem de_cmp {op : CmpOp} {r : R2} {k : D → D → Mu → Res D} (ho : OpR X (compareOp op) r) (s : OpS (zx X ct) r k) (ha : PE X a (tE (zx X ct) f)) (hb : PE X b (tE (zx X ct) g)) (hm : behindInMarks op b = false := by first | exact nomark _ | rfl) : PE X (.Compare a [op] [b] pos) (tE (zx X ct) (dBin f g k)) :=
  pe_imp (pe_cmpR ho ha hb hm) fun σ H Q q => tOp_of s f g σ H Q q
theorem de_ix (hu : X.A.units + 9 < cLine) (ha : PE X a (tE (zx X ct) f)) (hb : PE X b (tE (zx X ct) g)) (hs : PlainIx b := by exact fun _ _ => rfl) : PE X (.Subscript a b pos) (tE (zx X ct) (dBin f g opIx)) :=
  pe_imp (pe_ix (ix_any ct hu) ha hb hs) fun σ H Q q => tOp_of os_ix f g σ H Q q
theorem dt_val {t : TE} (hp : PT X e (tTest t)) (ht : ∀ σ H Q, tE (zx X ct) f σ H Q → t σ H Q) : PT X e (tT (zx X ct) (dBool f)) := by
  refine pt_imp hp fun σ H Q q => ?_
  obtain ⟨F, m, ρ, μ, d, μ', W, r, e, k⟩ := q
  refine ht σ H _ (tE_bind W r e fun x μ1 v F1 m1 H1 e1 x1 W1 r1 rx => ?_)
  unfold asB at e1
  split at e1
  · rename_i i hi
    cases e1
    exact ⟨_, vw_bl W1 rx hi, k F1 m1 H1 x1 W1⟩
  · cases e1
theorem dt_cmp {op : CmpOp} {r : R2} {k : D → D → Mu → Res D} (ho : OpR X (compareOp op) r) (s : OpS (zx X ct) r k) (ha : PE X a (tE (zx X ct) f)) (hb : PE X b (tE (zx X ct) g)) (hm : behindInMarks op b = false := by first | exact nomark _ | rfl) : PT X (.Compare a [op] [b] pos) (tT (zx X ct) (dBool (dBin f g k))) :=
  dt_val (pt_cmpR ho ha hb hm) fun σ H Q q => tOp_of s f g σ H Q q
theorem dt_of (hp : PE X e (tE (zx X ct) f)) (he : ∀ whole, isTrue e X.env whole = (do let v ← whole; standAt e.pos; holding [v] (truthy v)) := by intro _; rfl) : PT X e (tT (zx X ct) (dBool f)) :=
  dt_val (t := tE (zx X ct) f) (pt_val hp he) fun σ H Q q => q
variable {F1 F2 : DT}
theorem tT_bind {α : Type} {Z : Zx} {F H : Hp} {m : List Addr} {μ μ' : Mu} {ρ : Ev} {σ : St} {f : DT} {k : Bool → Mu → Res α} {d : α} {R : Bool → Hp → Prop} (W : Wd Z F m μ H) (r : RlE Z F m ρ σ) (h : (f ρ μ).bind k = .ok d μ')
    (n : ∀ x μ1 F' m' H', k x μ1 = .ok d μ' → Xt F m H F' m' H' → Wd Z F' m' μ1 H' → RlE Z F' m' ρ σ → R x H') : tT Z f σ H R := by
  obtain ⟨x, μ1, e1, e2⟩ := bind_inv h
  exact ⟨F, m, ρ, μ, x, μ1, W, r, e1, fun F' m' H' x' W' => n x μ1 F' m' H' e2 x' W' (r.gr x'.gr)⟩
theorem dt_not (ha : PT X a (tT (zx X ct) F1)) : PT X (.UnaryOp .Not a pos) (tT (zx X ct) (dNot F1)) := by
  refine pt_imp (pt_not ha) fun σ H Q q => ?_
  obtain ⟨F, m, ρ, μ, d, μ', W, r, e, k⟩ := q
  refine tT_bind W r e fun x μ1 F1 m1 H1 e1 x1 W1 r1 => ?_
  cases e1
  exact k F1 m1 H1 x1 W1
theorem dw_and1 (ha : PT X a (tT (zx X ct) F1)) : PW X (.BoolOp .And [a] pos) (tT (zx X ct) F1) := pw_and1 ha
theorem dw_or1 (ha : PT X a (tT (zx X ct) F1)) : PW X (.BoolOp .Or [a] pos) (tT (zx X ct) F1) := pw_or1 ha
variable {rest : List Expr}
theorem dw_and (ha : PT X a (tT (zx X ct) F1)) (hb : PW X (.BoolOp .And (b :: rest) pos) (tT (zx X ct) F2)) : PW X (.BoolOp .And (a :: b :: rest) pos) (tT (zx X ct) (dAnd F1 F2)) := by
  refine pw_imp (pw_and ha hb) fun σ H Q q => ?_
  obtain ⟨F, m, ρ, μ, d, μ', W, r, e, k⟩ := q
  refine tT_bind W r e fun x μ1 F1 m1 H1 e1 x1 W1 r1 => ?_
  cases x with
  | true =>
    rw [if_pos rfl] at e1 ⊢
    exact ⟨F1, m1, ρ, μ1, d, μ', W1, r1, e1, fun F2 m2 H2 x2 W2 => k F2 m2 H2 (x1.trans x2 W1.there) W2⟩
  | false =>
    rw [if_neg (by decide)] at e1 ⊢
    cases e1
    exact k F1 m1 H1 x1 W1
theorem dw_or (ha : PT X a (tT (zx X ct) F1)) (hb : PW X (.BoolOp .Or (b :: rest) pos) (tT (zx X ct) F2)) : PW X (.BoolOp .Or (a :: b :: rest) pos) (tT (zx X ct) (dOr F1 F2)) := by
  refine pw_imp (pw_or ha hb) fun σ H Q q => ?_
  obtain ⟨F, m, ρ, μ, d, μ', W, r, e, k⟩ := q
  refine tT_bind W r e fun x μ1 F1 m1 H1 e1 x1 W1 r1 => ?_
  cases x with
  | false =>
    rw [if_neg (by decide)] at e1 ⊢
    exact ⟨F1, m1, ρ, μ1, d, μ', W1, r1, e1, fun F2 m2 H2 x2 W2 => k F2 m2 H2 (x1.trans x2 W1.there) W2⟩
  | true =>
    rw [if_pos rfl] at e1 ⊢
    cases e1
    exact k F1 m1 H1 x1 W1
theorem de_and (ha : PE X a (tE (zx X ct) f)) (hb : PE X (.BoolOp .And (b :: rest) pos) (tE (zx X ct) g)) : PE X (.BoolOp .And (a :: b :: rest) pos) (tE (zx X ct) (dAndV f g)) := by
  refine pe_imp (pe_and ha hb) fun σ H Q q => ?_
  obtain ⟨F, m, ρ, μ, d, μ', W, r, e, k⟩ := q
  refine tE_bind W r e fun x μ1 v F1 m1 H1 e1 x1 W1 r1 rx => ?_
  split at e1
  · rename_i h
    exact ⟨true, vw_bl W1 rx h, by rw [if_pos rfl]; exact ⟨F1, m1, ρ, μ1, d, μ', W1, r1, e1, k.weak x1 W1⟩⟩
  · rename_i h
    cases e1
    exact ⟨false, vw_bl W1 rx h, by rw [if_neg (by decide)]; exact (k.weak x1 W1).here W1 (by simp only [Rl])⟩
  · cases e1
theorem de_or (ha : PE X a (tE (zx X ct) f)) (hb : PE X (.BoolOp .Or (b :: rest) pos) (tE (zx X ct) g)) : PE X (.BoolOp .Or (a :: b :: rest) pos) (tE (zx X ct) (dOrV f g)) := by
  refine pe_imp (pe_or ha hb) fun σ H Q q => ?_
  obtain ⟨F, m, ρ, μ, d, μ', W, r, e, k⟩ := q
  refine tE_bind W r e fun x μ1 v F1 m1 H1 e1 x1 W1 r1 rx => ?_
  split at e1
  · rename_i h
    exact ⟨false, vw_bl W1 rx h, by rw [if_neg (by decide)]; exact ⟨F1, m1, ρ, μ1, d, μ', W1, r1, e1, k.weak x1 W1⟩⟩
  · rename_i h
    cases e1
    exact ⟨true, vw_bl W1 rx h, by rw [if_pos rfl]; exact (k.weak x1 W1).here W1 (by simp only [Rl])⟩
  · cases e1
theorem de_one {op} (ha : PE X a (tE (zx X ct) f)) : PE X (.BoolOp op [a] pos) (tE (zx X ct) f) := pe_one ha
theorem chain_read {r r' : R2} {k k' : D → D → Mu → Res D} (s : OpS (zx X ct) r k) (s' : OpS (zx X ct) r' k') (σ : St) (H : Hp) (Q : VK) (q : tE (zx X ct) (dChain f g h k k') σ H Q) : tChain r r' (tE (zx X ct) f) (tE (zx X ct) g) (tE (zx X ct) h) σ H Q := by
  obtain ⟨F, m, ρ, μ, d, μ', W, r0, e, kk⟩ := q
  refine tE_bind W r0 e fun x μ1 v F1 m1 H1 e1 x1 W1 r1 rx => ?_
  refine tE_bind W1 r1 e1 fun y μ2 u F2 m2 H2 e2 x2 W2 r2 ry => ?_
  obtain ⟨z, μ3, e3, e4⟩ := bind_inv e2
  refine s F2 m2 μ2 H2 x y v u z μ3 _ W2 (Rl.gr x2.gr _ _ rx) ry e3 fun w F3 m3 H3 x3 W3 r3 => ?_
  split at e4
  · rename_i hz
    refine ⟨true, vw_bl W3 r3 hz, ?_⟩
    rw [if_pos rfl]
    refine tE_bind W3 (r2.gr x3.gr) e4 fun t μ4 tv F4 m4 H4 e5 x4 W4 r4 rt => ?_
    exact s' F4 m4 μ4 H4 y t u tv d μ' Q W4 (Rl.gr x4.gr _ _ (Rl.gr x3.gr _ _ ry)) rt e5 ((((kk.weak x1 W1).weak x2 W2).weak x3 W3).weak x4 W4)
  · rename_i hz
    cases e4
    refine ⟨false, vw_bl W3 r3 hz, ?_⟩
    rw [if_neg (by decide)]
    exact (((kk.weak x1 W1).weak x2 W2).weak x3 W3).here W3 (by simp only [Rl])
  · cases e4
theorem de_chain {op op' : CmpOp} {r r' : R2} {k k' : D → D → Mu → Res D} (ho : OpR X (compareOp op) r) (s : OpS (zx X ct) r k) (ho' : OpR X (compareOp op') r') (s' : OpS (zx X ct) r' k')
    (ha : PE X a (tE (zx X ct) f)) (hb : PE X b (tE (zx X ct) g)) (hc : PE X c (tE (zx X ct) h)) (hm : lastMarks [op, op'] [b, c] = false := by with_unfolding_all rfl) : PE X (.Compare a [op, op'] [b, c] pos) (tE (zx X ct) (dChain f g h k k')) :=
  pe_imp (pe_chain ho ho' ha hb hc hm) fun σ H Q q => chain_read s s' σ H Q q
theorem dt_chain {op op' : CmpOp} {r r' : R2} {k k' : D → D → Mu → Res D} (ho : OpR X (compareOp op) r) (s : OpS (zx X ct) r k) (ho' : OpR X (compareOp op') r') (s' : OpS (zx X ct) r' k')
    (ha : PE X a (tE (zx X ct) f)) (hb : PE X b (tE (zx X ct) g)) (hc : PE X c (tE (zx X ct) h)) (hm : lastMarks [op, op'] [b, c] = false := by with_unfolding_all rfl) : PT X (.Compare a [op, op'] [b, c] pos) (tT (zx X ct) (dBool (dChain f g h k k'))) :=
  dt_val (pt_chain ho ho' ha hb hc hm) fun σ H Q q => chain_read s s' σ H Q q
theorem dt_pw (h : PW X e (tT (zx X ct) F1)) : PT X e (tT (zx X ct) F1) := h.pt
end
end SB
set_option Elab.async false
set_option linter.all false
set_option maxRecDepth 100000
namespace SB
open PySem L2
section
variable {X : Cx} {ct : Nat → Addr × List Str} {pos : Pos} {a b c e : Expr} {es : List Expr} {f g h : DE} {fs : DEs}
theorem da_nil : PA X [] (tA (zx X ct) dNil) := pa_imp pa_nil fun σ H Q q => by
  obtain ⟨F, m, ρ, μ, d, μ', W, r, e, k⟩ := q
  cases e
  exact k [] F m H (Xt.refl _ _ _) W .nil
theorem da_cons (ha : PE X e (tE (zx X ct) f)) (hr : PA X es (tA (zx X ct) fs)) (hs : starEach (e :: es) X.env = (false, eval e X.env) :: starEach es X.env := by rfl) : PA X (e :: es) (tA (zx X ct) (dCons f fs)) := by
  refine pa_imp (pa_cons ha hr hs) fun σ H Q q => ?_
  obtain ⟨F, m, ρ, μ, d, μ', W, r, e, k⟩ := q
  refine tE_bind W r e fun x μ1 v F1 m1 H1 e1 x1 W1 r1 rx => ?_
  obtain ⟨xs, μ2, e2, e3⟩ := bind_inv e1
  cases e3
  refine ⟨F1, m1, ρ, μ1, xs, _, W1, r1, e2, fun vs F2 m2 H2 x2 W2 r2 => ?_⟩
  exact k _ F2 m2 H2 (x1.trans x2 W1.there) W2 (.cons (Rl.gr x2.gr _ _ rx) r2)
theorem tA_bind {α : Type} {Z : Zx} {F H : Hp} {m : List Addr} {μ μ' : Mu} {ρ : Ev} {σ : St} {f : DEs} {k : List D → Mu → Res α} {d : α} {R : List V → Hp → Prop} (W : Wd Z F m μ H) (r : RlE Z F m ρ σ) (h : (f ρ μ).bind k = .ok d μ')
    (n : ∀ xs μ1 vs F' m' H', k xs μ1 = .ok d μ' → Xt F m H F' m' H' → Wd Z F' m' μ1 H' → RlE Z F' m' ρ σ → Rls Z F' m' xs vs → R vs H') : tA Z f σ H R := by
  obtain ⟨x, μ1, e1, e2⟩ := bind_inv h
  exact ⟨F, m, ρ, μ, x, μ1, W, r, e1, fun vs F' m' H' x' W' rs => n x μ1 vs F' m' H' e2 x' W' (r.gr x'.gr) rs⟩
theorem de_tup {j} (h : PA X es (tA (zx X ct) fs)) : PE X (.Tuple es j pos) (tE (zx X ct) (dTup fs)) := by
  refine pe_imp (pe_tup h) fun σ H Q q => ?_
  obtain ⟨F, m, ρ, μ, d, μ', W, r, e, k⟩ := q
  refine tA_bind W r e fun xs μ1 vs F1 m1 H1 e1 x1 W1 r1 rx => ?_
  split at e1
  · rename_i hl
    cases e1
    refine ⟨by rw [rx.length]; exact hl, fun p n => ?_⟩
    obtain ⟨W2, x2⟩ := W1.frozen (.tup vs) n
    refine (k.weak x1 W1) _ _ _ _ x2 W2 ?_
    simp only [Rl]
    exact ⟨p, vs, rfl, upd_same, Rls.gr x2.gr _ _ rx⟩
  · cases e1
theorem de_lst (bb : Bool) (h : PA X es (tA (zx X ct) fs)) : PE X (.List es pos) (tE (zx X ct) (dLst bb fs)) := by
  refine pe_imp (pe_lst h) fun σ H Q q => ?_
  obtain ⟨F, m, ρ, μ, d, μ', W, r, e, k⟩ := q
  refine tA_bind W r e fun xs μ1 vs F1 m1 H1 e1 x1 W1 r1 rx => ?_
  exact Aft.newL W1 rx e1 (k.weak x1 W1)
def rSlA (K : PySem.W.Frag) : V → Option Int → Option Int → Hp → VK → Prop := fun x lo hi H Q => rSlL K x lo hi H Q ∨ rSlT K x lo hi H Q ∨ rSlS x lo hi H Q
theorem sl_any : SlR X (rSlA X.K) := sl_list.or (sl_tup.or sl_str)
abbrev PtR : Type := Res (Option Int)
def dPart (o : Option DE) (ρ : Ev) (μ : Mu) : Res (Option Int) := match o with
  | none => .ok none μ
  | some g => (g ρ μ).bind fun y μ2 => match vw μ2 y with | .int i => .ok (some i) μ2 | _ => .bad
def tO (Z : Zx) (o : Option DE) : TO := fun σ H Q => ∃ F m ρ μ d μ', Wd Z F m μ H ∧ RlE Z F m ρ σ ∧ dPart o ρ μ = .ok d μ' ∧ ∀ F' m' H', Xt F m H F' m' H' → Wd Z F' m' μ' H' → Q d H'
theorem po_imp {e : Option Expr} {t t' : TO} (h : PO X e t) (i : ∀ σ H Q, t' σ H Q → t σ H Q) : PO X e t' := ⟨fun pins s σ H Q I q => h.run pins s σ H Q I (i σ H Q q)⟩
theorem do_none : PO X none (tO (zx X ct) none) := po_imp po_none fun σ H Q q => by
  obtain ⟨F, m, ρ, μ, d, μ', W, r, e, k⟩ := q
  cases e
  exact k F m H (Xt.refl _ _ _) W
theorem do_some (h : PE X e (tE (zx X ct) f)) : PO X (some e) (tO (zx X ct) (some f)) := po_imp (po_some h) fun σ H Q q => by
  obtain ⟨F, m, ρ, μ, d, μ', W, r, e, k⟩ := q
  refine tE_bind W r e fun x μ1 v F1 m1 H1 e1 x1 W1 r1 rx => ?_
  split at e1
  · rename_i i hi
    cases e1
    exact ⟨i, vw_int W1 rx hi, k F1 m1 H1 x1 W1⟩
  · cases e1
theorem cutD_rls {Z : Zx} {F : Hp} {m : List Addr} {xs : List D} {vs : List V} (r : Rls Z F m xs vs) (lo hi : Option Int) : Rls Z F m (dSlice.cutD xs lo hi) (cutV vs lo hi) := by
  unfold dSlice.cutD cutV
  rw [r.length]
  exact (r.drop _).take _
theorem de_slice (bb : Bool) {lo hi : Option Expr} {fl fu : Option DE} {p2 : Pos} (he : PE X e (tE (zx X ct) f)) (hl : PO X lo (tO (zx X ct) fl)) (hu : PO X hi (tO (zx X ct) fu)) : PE X (.Subscript e (.Slice lo hi none p2) pos) (tE (zx X ct) (dSlice bb f fl fu)) := by
  refine pe_imp (pe_slice sl_any he hl hu) fun σ H Q q => ?_
  obtain ⟨F, m, ρ, μ, d, μ', W, r, e, k⟩ := q
  refine tE_bind W r e fun x μ1 v F1 m1 H1 e1 x1 W1 r1 rx => ?_
  obtain ⟨l, μ2, e2, e3⟩ := bind_inv e1
  refine ⟨F1, m1, ρ, μ1, l, μ2, W1, r1, ?_, fun F2 m2 H2 x2 W2 => ?_⟩
  · cases fl <;> exact e2
  obtain ⟨u, μ3, e4, e5⟩ := bind_inv e3
  refine ⟨F2, m2, ρ, μ2, u, μ3, W2, r1.gr x2.gr, ?_, fun F3 m3 H3 x3 W3 => ?_⟩
  · cases fu <;> exact e4
  have rx3 := Rl.gr x3.gr _ _ (Rl.gr x2.gr _ _ rx)
  have k3 := ((k.weak x1 W1).weak x2 W2).weak x3 W3
  split at e5
  · rename_i z hz
    split at e5
    · rename_i hl
      cases e5
      exact .inr (.inr ⟨z, vw_str W3 rx3 hz, hl, k3.here W3 (by simp only [Rl])⟩)
    · cases e5
  · rename_i xs hz
    split at e5
    · rename_i hl
      cases e5
      obtain ⟨q, vs, rfl, hq, rs⟩ := vw_tup W3 rx3 hz
      have rc := cutD_rls rs l u
      have hlen : (cutV vs l u).length < vs.length := by rw [rc.length, rs.length]; exact hl
      refine .inr (.inl ⟨q, vs, rfl, .of hq, ?_⟩)
      have two : ∀ p, H3 p = none → Q (.ref p) (upd H3 p (.tup (cutV vs l u))) := fun p n => by
        obtain ⟨W4, x4⟩ := W3.frozen (.tup (cutV vs l u)) n
        refine k3 _ _ _ _ x4 W4 ?_
        simp only [Rl]
        exact ⟨p, _, rfl, upd_same, Rls.gr x4.gr _ _ rc⟩
      exact ⟨fun z => by unfold cutV at hlen; rw [z.1, z.2] at hlen; simp at hlen, two⟩
    · cases e5
  · split at e5
    · rename_i xs hz
      obtain ⟨q, vs, rfl, hq, rs⟩ := vw_seq W3 rx3 hz
      exact .inl ⟨q, vs, rfl, hq, (Aft.newL W3 (cutD_rls rs l u) e5 k3).2⟩
    · cases e5
end
end SB
set_option Elab.async false
set_option linter.all false
set_option maxRecDepth 100000
namespace SB
open PySem L2
def CallS (Z : Zx) (r : List V → Hp → VK → Prop) (g : List D → Mu → Res D) : Prop := ∀ F m μ H ds vs d μ' Q, Wd Z F m μ H → Rls Z F m ds vs → g ds μ = .ok d μ' → Aft Z F m H d μ' Q → r vs H Q
def dCall (fs : DEs) (g : List D → Mu → Res D) : DE := fun ρ μ => (fs ρ μ).bind g
/-- a method: the receiver, then the arguments -/
def MetS (X : Cx) (ct : Nat → Addr × List Str) (T : String) (r : V → List V → Hp → VK → Prop) (g : D → List D → Mu → Res D) : Prop := ∀ F m μ H a ds x vs d μ' Q, Wd (zx X ct) F m μ H → Rl (zx X ct) F m a x → Rls (zx X ct) F m ds vs → g a ds μ = .ok d μ' → Aft (zx X ct) F m H d μ' Q → r x vs H Q
def dMet (f : DE) (k : D → Mu → Bool) (fs : DEs) (g : D → List D → Mu → Res D) : DE := fun ρ μ => (f ρ μ).bind fun x μ1 => if k x μ1 then (fs ρ μ1).bind fun xs μ2 => g x xs μ2 else .bad
def isLst (x : D) (μ : Mu) : Bool := (seqL (vw μ x)).isSome
def isStr (x : D) (μ : Mu) : Bool := match vw μ x with
  | .str _ => true
  | _ => false
def isDic (x : D) (μ : Mu) : Bool := match vw μ x with
  | .dic _ => true
  | _ => false
section
variable {X : Cx} {ct : Nat → Addr × List Str} {pos p : Pos} {x : Str} {e o : Expr} {es : List Expr} {f : DE} {fs : DEs} {r : List V → Hp → VK → Prop} {g : List D → Mu → Res D} {id T : String}
theorem tCB_of (s : CallS (zx X ct) r g) (σ : St) (H : Hp) (Q : VK) (q : tE (zx X ct) (dCall fs g) σ H Q) : tCB r (tA (zx X ct) fs) σ H Q := by
  obtain ⟨F, m, ρ, μ, d, μ', W, r, e, k⟩ := q
  refine tA_bind W r e fun xs μ1 vs F1 m1 H1 e1 x1 W1 r1 rx => ?_
  exact s F1 m1 μ1 H1 xs vs d μ' Q W1 rx e1 (k.weak x1 W1)
theorem de_callB (hc : CallR X (.builtin id) r) (s : CallS (zx X ct) r g) (hg : Gl X x) (hm : X.mg x = none) (hv : bootBuiltins x = some (.builtin id)) (ha : PA X (e :: es) (tA (zx X ct) fs)) (hn : x ≠ "__name__" := by decide) (hdb : (x == ("__debug__" : Str)) = false := by decide)
    (he : starEach (e :: es) X.env = (false, eval e X.env) :: starEach es X.env := by rfl) (hpl : (backTo pos (starEach es X.env)).any (·.1) = false := by rfl) : PE X (.Call (.Name x p) (e :: es) [] pos) (tE (zx X ct) (dCall fs g)) :=
  pe_imp (pe_callB hc hg hm hv ha hn hdb he hpl) fun σ H Q q => tCB_of s σ H Q q
theorem de_callT (hc : CallR X (.type T) r) (s : CallS (zx X ct) r g) (hg : Gl X x) (hm : X.mg x = none) (hv : bootBuiltins x = some (.type T)) (ha : PA X (e :: es) (tA (zx X ct) fs)) (hn : x ≠ "__name__" := by decide) (hdb : (x == ("__debug__" : Str)) = false := by decide)
    (he : starEach (e :: es) X.env = (false, eval e X.env) :: starEach es X.env := by rfl) (hpl : (backTo pos (starEach es X.env)).any (·.1) = false := by rfl) : PE X (.Call (.Name x p) (e :: es) [] pos) (tE (zx X ct) (dCall fs g)) :=
  pe_imp (pe_callTy hc hg hm hv ha hn hdb he hpl) fun σ H Q q => tCB_of s σ H Q q
end
def biLen (ds : List D) (μ : Mu) : Res D := match ds with
  | [d] => match vw μ d with
    | .str z => if z.length ≤ sizeLine then .ok (.int z.length) μ else .bad
    | .tup xs => .ok (.int xs.length) μ
    | .dic es => .ok (.int es.length) μ
    | c => match seqL c with
      | some xs => .ok (.int xs.length) μ
      | none => .bad
  | _ => .bad
def rLenD (X : Cx) (ct : Nat → Addr × List Str) : List V → Hp → VK → Prop := fun vs H Q => ∃ F m μ es a o, Wd (zx X ct) F m μ H ∧ vs = [.ref a] ∧ Rd H a o ∧ Rlu (zx X ct) F m a es o ∧ Q (.int es.length) H
def rLenA (X : Cx) (ct : Nat → Addr × List Str) : List V → Hp → VK → Prop := fun vs H Q => rLenD X ct vs H Q ∨ ∃ x n, vs = [x] ∧ LenV X.K x H n ∧ Q (.int n) H
theorem call_lenA {X : Cx} (ct : Nat → Addr × List Str) : CallR X (.builtin "len") (rLenA X ct) := by
  refine CallR.or ?_ call_len
  intro pins s σ H xs us Q I r h
  obtain ⟨F, m, μ, es, a, o, W, rfl, e, ro, q⟩ := h
  have hu : us = [.ref a] := r.ref1
  subst hu
  have big := line63
  have fin : ∀ (n : Nat) (t : Nat), n = es.length → EP X pins σ Q (.int n (s.toks + 1)) { s with toks := s.toks + 1 + 1 } := fun n t e => ⟨.int n, H, I.tok _, ⟨_, rfl⟩, by rw [e]; exact q⟩
  rcases ro with ⟨ks, rfl, rk⟩ | ⟨ns, rfl, rn⟩
  · exact d_len I e fun t s' I' => ⟨.int ks.length, H, I', ⟨t, rfl⟩, by rw [rlk_len rk]; exact q⟩
  · obtain ⟨z, hs, xs, pn, dd⟩ := dn_rd (Z := zx X ct) I.hok W.le e rn
    have hz := rln_len rn
    have hp := pn_len pn
    exact PyProof.Rows.call_len_slot (n := (ns.length : Nat)) dd.typeIs PySem.F.slot_dict_len (fun Q' hq => len_keyed (kvs := pairsH xs) hs ⟨xs, dd, rfl⟩ (by rw [pairsH_length, ← hp]; exact hq)) (by omega) (by omega) (fin _ 0 (by omega))
theorem cs_len {X : Cx} {ct : Nat → Addr × List Str} : CallS (zx X ct) (rLenA X ct) biLen := by
  intro F m μ H ds vs d μ' Q W rs e k
  unfold biLen at e
  split at e
  · rename_i d0
    simp only [Rls] at rs
    obtain ⟨v, _, rfl, r, rfl⟩ := rs
    split at e
    · rename_i z hz
      split at e
      · rename_i hl
        cases e
        rw [vw_str W r hz]
        exact .inr ⟨_, _, rfl, ⟨hl, rfl⟩, k.here W (by simp only [Rl])⟩
      · cases e
    · rename_i xs hz
      cases e
      obtain ⟨a, us, rfl, f, rr⟩ := vw_tup W r hz
      exact .inr ⟨_, us.length, rfl, .inr ⟨us, .of f, rfl⟩, k.here W (by simp only [Rl, rr.length])⟩
    · rename_i es hz
      cases e
      obtain ⟨a, o, rfl, f, rr⟩ := vw_dic W r hz
      exact .inl ⟨F, m, μ, es, a, o, W, rfl, f, rr, k.here W (by simp only [Rl])⟩
    · split at e
      · rename_i xs hz
        cases e
        obtain ⟨a, us, rfl, f, rr⟩ := vw_seq W r hz
        exact .inr ⟨_, us.length, rfl, .inl ⟨us, f, rfl⟩, k.here W (by simp only [Rl, rr.length])⟩
      · cases e
  · cases e
def biList (b : Bool) (ds : List D) (μ : Mu) : Res D := match ds with
  | [d] => match vw μ d with
    | .tup xs => mkL b xs μ
    | c => match seqL c with
      | some xs => mkL b xs μ
      | none => .bad
  | _ => .bad
theorem cs_list {X : Cx} {ct : Nat → Addr × List Str} (b : Bool) : CallS (zx X ct) (fun xs H Q => ∃ p ys, xs = [.ref p] ∧ (SqL X.K H p ys ∨ SqT X.K H p ys) ∧ ∀ l, H l = none → Q (.ref l) (upd H l (.lst ys))) (biList b) := by
  intro F m μ H ds vs d μ' Q W rs e k
  unfold biList at e
  split at e
  · rename_i d0
    simp only [Rls] at rs
    obtain ⟨v, _, rfl, r, rfl⟩ := rs
    split at e
    · rename_i xs hz
      obtain ⟨a, us, rfl, f, rr⟩ := vw_tup W r hz
      exact ⟨a, us, rfl, .inr (.of f), (Aft.newL W rr e k).2⟩
    · split at e
      · rename_i xs hz
        obtain ⟨a, us, rfl, f, rr⟩ := vw_seq W r hz
        exact ⟨a, us, rfl, .inl f, (Aft.newL W rr e k).2⟩
      · cases e
  · cases e
def biTuple (ds : List D) (μ : Mu) : Res D := match ds with
  | [d] => match seqL (vw μ d) with
    | some xs => .ok (.tup xs) μ
    | none => .bad
  | _ => .bad
def boolsOf : List D → Option (List Bool)
  | [] => some []
  | .bl b :: r => (boolsOf r).map (b :: ·)
  | _ => none
theorem boolsOf_rls {Z : Zx} {F : Hp} {m : List Addr} : ∀ {xs : List D} {bs : List Bool} {vs : List V}, boolsOf xs = some bs → Rls Z F m xs vs → vs = bs.map V.bl
  | [], bs, vs, e, r => by simp only [boolsOf] at e; cases e; simpa only [Rls, List.map_nil] using r
  | d :: xs, bs, vs, e, r => by
    simp only [Rls] at r
    obtain ⟨v, r', rfl, h1, h2⟩ := r
    cases d <;> simp only [boolsOf] at e <;> first | (cases e; done) | skip
    rename_i b
    obtain ⟨bs', e', rfl⟩ := Option.map_eq_some_iff.mp e
    simp only [Rl] at h1
    rw [h1, boolsOf_rls e' h2]
    rfl
def biAll (ds : List D) (μ : Mu) : Res D := match ds with
  | [d] => match seqL (vw μ d) with
    | some xs => match boolsOf xs with
      | some bs => .ok (.bl (bs.all id)) μ
      | none => .bad
    | none => .bad
  | _ => .bad
def biAny (ds : List D) (μ : Mu) : Res D := match ds with
  | [d] => match seqL (vw μ d) with
    | some xs => match boolsOf xs with
      | some bs => .ok (.bl (bs.any id)) μ
      | none => .bad
    | none => .bad
  | _ => .bad
theorem cs_all {X : Cx} {ct : Nat → Addr × List Str} : CallS (zx X ct) (rAll X.K) biAll := by
  intro F m μ H ds vs d μ' Q W rs e k
  unfold biAll at e
  split at e
  · simp only [Rls] at rs
    obtain ⟨v, _, rfl, r, rfl⟩ := rs
    split at e
    · rename_i xs hz
      split at e
      · rename_i bs hb
        cases e
        obtain ⟨a, us, rfl, f, rr⟩ := vw_seq W r hz
        rw [boolsOf_rls hb rr] at f
        exact ⟨a, bs, rfl, f, k.here W (by simp only [Rl])⟩
      · cases e
    · cases e
  · cases e
def biInt (ds : List D) (μ : Mu) : Res D := match ds with
  | [d] => match vw μ d with
    | .int i => .ok (.int i) μ
    | .bl b => .ok (.int (if b then 1 else 0)) μ
    | _ => .bad
  | _ => .bad
def biMax (ds : List D) (μ : Mu) : Res D := match ds with
  | [a, b] => match vw μ a, vw μ b with
    | .int i, .int j => .ok (.int (if j > i then j else i)) μ
    | _, _ => .bad
  | _ => .bad
end SB
set_option Elab.async false
set_option linter.all false
set_option maxRecDepth 100000
namespace SB
open PySem L2
inductive Out where
  | nx (ρ : Ev) (μ : Mu) | rt (d : D) (μ : Mu) | bk (ρ : Ev) (μ : Mu) | ct (ρ : Ev) (μ : Mu) | bad
abbrev DS := Ev → Mu → Out
/-- what is wanted behind an outcome -/
def AftS (Z : Zx) (F : Hp) (m : List Addr) (H : Hp) (D : Ends) : Out → Prop
  | .nx ρ μ => ∀ σ F' m' H', Xt F m H F' m' H' → Wd Z F' m' μ H' → RlE Z F' m' ρ σ → D.nx σ H'
  | .rt d μ => ∀ v F' m' H', Xt F m H F' m' H' → Wd Z F' m' μ H' → Rl Z F' m' d v → D.rt v H'
  | .bk ρ μ => ∀ σ F' m' H', Xt F m H F' m' H' → Wd Z F' m' μ H' → RlE Z F' m' ρ σ → D.bk σ H'
  | .ct ρ μ => ∀ σ F' m' H', Xt F m H F' m' H' → Wd Z F' m' μ H' → RlE Z F' m' ρ σ → D.ct σ H'
  | .bad => False
def tS (Z : Zx) (f : DS) : TS := fun D σ H => ∃ F m ρ μ, Wd Z F m μ H ∧ RlE Z F m ρ σ ∧ AftS Z F m H D (f ρ μ)
theorem AftS.weak {Z : Zx} {F F' H H' : Hp} {m m' : List Addr} {D : Ends} {μ1 : Mu} {o : Out} (x : Xt F m H F' m' H') (W : Wd Z F' m' μ1 H') (k : AftS Z F m H D o) : AftS Z F' m' H' D o := by
  cases o with
  | nx ρ μ => exact fun σ F'' m'' H'' x' W' r => k σ F'' m'' H'' (x.trans x' W.there) W' r
  | rt d μ => exact fun σ F'' m'' H'' x' W' r => k σ F'' m'' H'' (x.trans x' W.there) W' r
  | bk ρ μ => exact fun σ F'' m'' H'' x' W' r => k σ F'' m'' H'' (x.trans x' W.there) W' r
  | ct ρ μ => exact fun σ F'' m'' H'' x' W' r => k σ F'' m'' H'' (x.trans x' W.there) W' r
  | bad => exact k
def Res.out {α : Type} (r : Res α) (k : α → Mu → Out) : Out := match r with
  | .ok a μ => k a μ
  | .bad => .bad
@[simp] theorem out_ok {α : Type} (a : α) (μ : Mu) (k : α → Mu → Out) : (Res.ok a μ).out k = k a μ := rfl
@[simp] theorem out_bad {α : Type} (k : α → Mu → Out) : (Res.bad : Res α).out k = .bad := rfl
/-- an expression, then what comes -/
theorem tE_out {Z : Zx} {F H : Hp} {m : List Addr} {μ : Mu} {ρ : Ev} {σ : St} {f : DE} {k : D → Mu → Out} {D : Ends} {R : VK} (W : Wd Z F m μ H) (r : RlE Z F m ρ σ) (h : AftS Z F m H D ((f ρ μ).out k))
    (n : ∀ x μ1 v F' m' H', AftS Z F' m' H' D (k x μ1) → Xt F m H F' m' H' → Wd Z F' m' μ1 H' → RlE Z F' m' ρ σ → Rl Z F' m' x v → R v H') : tE Z f σ H R := by
  cases e : f ρ μ with
  | bad => rw [e] at h; exact h.elim
  | ok x μ1 =>
    rw [e] at h
    exact ⟨F, m, ρ, μ, x, μ1, W, r, e, fun v F' m' H' x' W' rl => n x μ1 v F' m' H' (AftS.weak x' W' h) x' W' (r.gr x'.gr) rl⟩
theorem tT_out {Z : Zx} {F H : Hp} {m : List Addr} {μ : Mu} {ρ : Ev} {σ : St} {f : DT} {k : Bool → Mu → Out} {D : Ends} {R : Bool → Hp → Prop} (W : Wd Z F m μ H) (r : RlE Z F m ρ σ) (h : AftS Z F m H D ((f ρ μ).out k))
    (n : ∀ x μ1 F' m' H', AftS Z F' m' H' D (k x μ1) → Xt F m H F' m' H' → Wd Z F' m' μ1 H' → RlE Z F' m' ρ σ → R x H') : tT Z f σ H R := by
  cases e : f ρ μ with
  | bad => rw [e] at h; exact h.elim
  | ok x μ1 =>
    rw [e] at h
    exact ⟨F, m, ρ, μ, x, μ1, W, r, e, fun F' m' H' x' W' => n x μ1 F' m' H' (AftS.weak x' W' h) x' W' (r.gr x'.gr)⟩
def sSeq (f g : DS) : DS := fun ρ μ => match f ρ μ with
  | .nx ρ' μ' => g ρ' μ'
  | o => o
def sSkip : DS := fun ρ μ => .nx ρ μ
def sExpr (f : DE) : DS := fun ρ μ => (f ρ μ).out fun _ μ' => .nx ρ μ'
def sRet (f : DE) : DS := fun ρ μ => (f ρ μ).out fun d μ' => .rt d μ'
def sRetN : DS := fun _ μ => .rt .non μ
def sSet (i : Nat) (f : DE) : DS := fun ρ μ => (f ρ μ).out fun d μ' => .nx (ρ.set i (some d)) μ'
def sIf (c : DT) (f g : DS) : DS := fun ρ μ => (c ρ μ).out fun b μ' => if b then f ρ μ' else g ρ μ'
/-- the items of what is unpacked -/
def itemsD : D → Option (List D)
  | .tup xs => some xs
  | c => seqL c
def setAll : List Nat → List D → Ev → Option Ev
  | [], [], ρ => some ρ
  | i :: is, d :: ds, ρ => setAll is ds (ρ.set i (some d))
  | _, _, _ => none
inductive Tg where
  | one (i : Nat) | many (is : List Nat)
def bindT (t : Tg) (d : D) (ρ : Ev) (μ : Mu) : Option Ev := match t with
  | .one i => some (ρ.set i (some d))
  | .many is => match itemsD (vw μ d) with
    | some ds => setAll is ds ρ
    | none => none
def sAsg (t : Tg) (f : DE) : DS := fun ρ μ => (f ρ μ).out fun d μ' => match bindT t d ρ μ' with
  | some ρ' => .nx ρ' μ'
  | none => .bad
section
variable {X : Cx} {ct : Nat → Addr × List Str} {pos : Pos} {e c : Expr} {st : Stmt} {sts rest a b : List Stmt} {f : DE} {g h : DS} {t : DT}
theorem ds_nil : PSs X [] (tS (zx X ct) sSkip) := pss_imp pss_nil fun D σ H q => by
  obtain ⟨F, m, ρ, μ, W, r, k⟩ := q
  exact k σ F m H (Xt.refl _ _ _) W r
theorem ds_cons (h1 : PS X st (tS (zx X ct) g)) (h2 : PSs X rest (tS (zx X ct) h)) : PSs X (st :: rest) (tS (zx X ct) (sSeq g h)) := by
  refine pss_imp (pss_cons h1 h2) fun D σ H q => ?_
  obtain ⟨F, m, ρ, μ, W, r, k⟩ := q
  refine ⟨F, m, ρ, μ, W, r, ?_⟩
  unfold sSeq at k
  cases e : g ρ μ with
  | nx ρ' μ' =>
    rw [e] at k
    exact fun σ' F' m' H' x' W' r' => ⟨F', m', ρ', μ', W', r', AftS.weak x' W' k⟩
  | rt d μ' => rw [e] at k; exact k
  | bk ρ' μ' => rw [e] at k; exact k
  | ct ρ' μ' => rw [e] at k; exact k
  | bad => rw [e] at k; exact k
theorem ds_one (h1 : PS X st (tS (zx X ct) g)) : PSs X [st] (tS (zx X ct) g) := pss_one h1
theorem ds_expr (he : PE X e (tE (zx X ct) f)) (hs : swapsWith e none pos.line X.env = pure false := by rfl) : PS X (.Expr e pos) (tS (zx X ct) (sExpr f)) := by
  refine ps_imp (ps_expr he hs) fun D σ H q => ?_
  obtain ⟨F, m, ρ, μ, W, r, k⟩ := q
  exact tE_out W r k fun x μ1 v F1 m1 H1 k1 x1 W1 r1 rx => k1 σ F1 m1 H1 (Xt.refl _ _ _) W1 r1
theorem ds_ret (he : PE X e (tE (zx X ct) f)) : PS X (.Return (some e) pos) (tS (zx X ct) (sRet f)) := by
  refine ps_imp (ps_ret he) fun D σ H q => ?_
  obtain ⟨F, m, ρ, μ, W, r, k⟩ := q
  exact tE_out W r k fun x μ1 v F1 m1 H1 k1 x1 W1 r1 rx => k1 v F1 m1 H1 (Xt.refl _ _ _) W1 rx
theorem ds_set {i : Nat} {x : Str} {pos' : Pos} (hN : X.N.Nodup) (hi : X.N[i]? = some x) (hx : Loc X.env.scope x) (he : PE X e (tE (zx X ct) f)) (hs : swapsWith e (some (.Name x pos')) pos.line X.env = pure false := by rfl) (hf : X.fn x = true ∨ X.env.scope.names.lookup x = some .local := by first | exact .inl rfl | exact .inr rfl | assumption) :
    PS X (.Assign [.Name x pos'] e pos) (tS (zx X ct) (sSet i f)) := by
  refine ps_imp (ps_set hN hi hx he hs hf) fun D σ H q => ?_
  obtain ⟨F, m, ρ, μ, W, r, k⟩ := q
  exact tE_out W r k fun x μ1 v F1 m1 H1 k1 x1 W1 r1 rx => k1 _ F1 m1 H1 (Xt.refl _ _ _) W1 (r1.set i rx)
theorem ds_if (hc : PT X c (tT (zx X ct) t)) (ha : PSs X a (tS (zx X ct) g)) (hb : PSs X b (tS (zx X ct) h)) : PS X (.If c a b pos) (tS (zx X ct) (sIf t g h)) := by
  refine ps_imp (ps_if hc ha hb) fun D σ H q => ?_
  obtain ⟨F, m, ρ, μ, W, r, k⟩ := q
  refine tT_out W r k fun x μ1 F1 m1 H1 k1 x1 W1 r1 => ?_
  cases x with
  | true => rw [if_pos rfl] at k1 ⊢; exact ⟨F1, m1, ρ, μ1, W1, r1, k1⟩
  | false => rw [if_neg (by decide)] at k1 ⊢; exact ⟨F1, m1, ρ, μ1, W1, r1, k1⟩
def slotsT : Tg → List Nat
  | .one i => [i]
  | .many is => is
/-- but for some slots -/
def SameOut (is : List Nat) (σ σ' : St) : Prop := σ'.length = σ.length ∧ ∀ j : Nat, j ∉ is → σ'[j]? = σ[j]?
theorem SameOut.set (i : Nat) (σ : St) (v : Option V) : SameOut [i] σ (σ.set i v) := ⟨by simp, fun j hj => by rw [List.getElem?_set_ne (by simpa using fun e : i = j => hj (by simp [e]))]⟩
/-- a target stores what is handed -/
def GOk (Z : Zx) (g : TG) (t : Tg) : Prop := ∀ F m μ H ρ σ d v ρ' (Q : St → Hp → Prop), Wd Z F m μ H → RlE Z F m ρ σ → Rl Z F m d v → bindT t d ρ μ = some ρ' → (∀ σ', RlE Z F m ρ' σ' → SameOut (slotsT t) σ σ' → Q σ' H) → g v σ H Q
theorem go_name {Z : Zx} (i : Nat) : GOk Z (gName i) (.one i) := fun F m μ H ρ σ d v ρ' Q W r rd e k => by
  cases e
  exact k _ (r.set i rd) (SameOut.set i σ _)
def gNames : List Nat → TGs
  | [] => gNil
  | i :: is => gCons (gName i) (gNames is)
theorem go_names {Z : Zx} {F : Hp} {m : List Addr} {H : Hp} : ∀ (is : List Nat) (ds : List D) (vs : List V) (ρ ρ' : Ev) (σ : St) (Q : St → Hp → Prop), RlE Z F m ρ σ → Rls Z F m ds vs → setAll is ds ρ = some ρ' → (∀ σ', RlE Z F m ρ' σ' → SameOut is σ σ' → Q σ' H) → gNames is vs σ H Q
  | [], ds, vs, ρ, ρ', σ, Q, r, rd, e, k => by
    cases ds with
    | nil => simp only [setAll] at e; cases e; simp only [Rls] at rd; exact ⟨rd, k σ r ⟨rfl, fun _ _ => rfl⟩⟩
    | cons d ds => simp only [setAll] at e; cases e
  | i :: is, ds, vs, ρ, ρ', σ, Q, r, rd, e, k => by
    cases ds with
    | nil => simp only [setAll] at e; cases e
    | cons d ds =>
      simp only [setAll] at e
      simp only [Rls] at rd
      obtain ⟨v, r', rfl, h1, h2⟩ := rd
      refine ⟨v, r', rfl, go_names is ds r' _ ρ' _ Q (r.set i h1) h2 e fun σ' q so => k σ' q ⟨so.1.trans (by simp), fun j hj => ?_⟩⟩
      rw [so.2 j fun z => hj (List.mem_cons_of_mem _ z), List.getElem?_set_ne fun z => hj (by simp [z])]
theorem setAll_len : ∀ (is : List Nat) (ds : List D) (ρ ρ' : Ev), setAll is ds ρ = some ρ' → ds.length = is.length
  | [], [], _, _, _ => rfl
  | [], _ :: _, _, _, e => by simp only [setAll] at e; cases e
  | _ :: _, [], _, _, e => by simp only [setAll] at e; cases e
  | i :: is, d :: ds, ρ, ρ', e => by
    simp only [setAll] at e
    simp [setAll_len is ds _ _ e]
/-- of a tuple or of a list -/
def gTupA (K : PySem.W.Frag) (n : Nat) (t : TGs) : TG := fun v σ H Q => gTup K n t v σ H Q ∨ gUnl K n t v σ H Q
theorem pg_or {tg : Expr} {t1 t2 : TG} (h1 : PG X tg t1) (h2 : PG X tg t2) : PG X tg (fun v σ H Q => t1 v σ H Q ∨ t2 v σ H Q) := ⟨fun pins s σ H v u Q I r q => q.elim (h1.run pins s σ H v u Q I r) (h2.run pins s σ H v u Q I r)⟩
theorem go_many {K : PySem.W.Frag} {Z : Zx} (hK : Z.K = K) (is : List Nat) : GOk Z (gTupA K is.length (gNames is)) (.many is) := fun F m μ H ρ σ d v ρ' Q W r rd e k => by
  subst hK
  unfold bindT at e
  simp only at e
  split at e
  · rename_i ds hd
    have hl := setAll_len _ _ _ _ e
    unfold itemsD at hd
    split at hd
    · rename_i xs hx
      cases hd
      obtain ⟨a, us, rfl, f, rr⟩ := vw_tup W rd hx
      exact .inl ⟨a, us, rfl, .of f, by rw [rr.length, hl], go_names is _ us ρ ρ' σ Q r rr e k⟩
    · obtain ⟨a, us, rfl, f, rr⟩ := vw_seq W rd hd
      exact .inr ⟨a, us, rfl, f, by rw [rr.length, hl], go_names is _ us ρ ρ' σ Q r rr e k⟩
  · cases e
theorem ds_asg {tg : Expr} {tt : Tg} {g : TG} (he : PE X e (tE (zx X ct) f)) (hg : PG X tg g) (go : GOk (zx X ct) g tt) (hs : swapsWithSole [tg] e pos.line X.env = pure false := by rfl) (hw : swappedStores [tg] e X.env = pure none := by rfl)
    (h1 : (assignEach [tg] X.env).map (·.2) = [assign tg X.env] := by rfl) : PS X (.Assign [tg] e pos) (tS (zx X ct) (sAsg tt f)) := by
  refine ps_imp (ps_asg he hg hs hw h1) fun D σ H q => ?_
  obtain ⟨F, m, ρ, μ, W, r, k⟩ := q
  refine tE_out W r k fun x μ1 v F1 m1 H1 k1 x1 W1 r1 rx => ?_
  cases eb : bindT tt x ρ μ1 with
  | none => rw [eb] at k1; exact k1.elim
  | some ρ' =>
    rw [eb] at k1
    exact go F1 m1 μ1 H1 ρ σ x v ρ' _ W1 r1 rx eb fun σ' r' _ => k1 σ' F1 m1 H1 (Xt.refl _ _ _) W1 r'
def sWhile (c : DT) (g : DS) : Nat → DS
  | 0 => fun _ _ => .bad
  | n + 1 => fun ρ μ => (c ρ μ).out fun b μ' => if b then (match g ρ μ' with
    | .nx ρ2 μ2 => sWhile c g n ρ2 μ2
    | .ct ρ2 μ2 => sWhile c g n ρ2 μ2
    | .bk ρ2 μ2 => .nx ρ2 μ2
    | o => o) else .nx ρ μ'
theorem ds_while (n : Nat) (hp : PassesOwn (model X.prog X.w) X.A X.env X.xe) (hc : PT X c (tT (zx X ct) t)) (hb : PSs X a (tS (zx X ct) g)) : PS X (.While c a [] pos) (tS (zx X ct) (sWhile t g n)) := by
  refine ps_imp (ps_while hp hc hb) fun D σ H q => ?_
  obtain ⟨F, m, ρ, μ, W, r, k⟩ := q
  refine ⟨fun n' σ' H' => ∃ F' m' ρ' μ', Wd (zx X ct) F' m' μ' H' ∧ RlE (zx X ct) F' m' ρ' σ' ∧ AftS (zx X ct) F' m' H' D (sWhile t g n' ρ' μ'), ⟨n, F, m, ρ, μ, W, r, k⟩, ?_⟩
  rintro n' σ1 H1 ⟨F1, m1, ρ1, μ1, W1, r1, k1⟩
  cases n' with
  | zero => exact k1.elim
  | succ n' =>
    unfold sWhile at k1
    refine tT_out W1 r1 k1 fun x μ2 F2 m2 H2 k2 x2 W2 r2 => ?_
    cases x with
    | false =>
      rw [if_neg (by decide)] at k2 ⊢
      exact k2 σ1 F2 m2 H2 (Xt.refl _ _ _) W2 r2
    | true =>
      rw [if_pos rfl] at k2 ⊢
      refine ⟨fun σ' H' => ∃ F' m' ρ' μ', Wd (zx X ct) F' m' μ' H' ∧ RlE (zx X ct) F' m' ρ' σ' ∧ AftS (zx X ct) F' m' H' D (sWhile t g n' ρ' μ'), fun σ' H' h => ⟨n', Nat.lt_succ_self _, h⟩, F2, m2, ρ1, μ2, W2, r2, ?_⟩
      cases e : g ρ1 μ2 with
      | nx ρ3 μ3 => rw [e] at k2; exact fun σ' F' m' H' x' W' r' => ⟨F', m', ρ3, μ3, W', r', AftS.weak x' W' k2⟩
      | ct ρ3 μ3 => rw [e] at k2; exact fun σ' F' m' H' x' W' r' => ⟨F', m', ρ3, μ3, W', r', AftS.weak x' W' k2⟩
      | bk ρ3 μ3 => rw [e] at k2; exact k2
      | rt d μ3 => rw [e] at k2; exact k2
      | bad => rw [e] at k2; exact k2
end
end SB
set_option Elab.async false
set_option linter.all false
set_option maxRecDepth 100000
namespace SB
open PySem L2
abbrev DI := Ev → Mu → Res (List D)
/-- J yields the things xs, whatever else comes to stand -/
def ItOk (Z : Zx) (J : It) (F : Hp) (m : List Addr) (xs : List D) : Prop := ∀ F' m' μ' H, Gr F m F' m' → Wd Z F' m' μ' H → ∀ i, (xs.length ≤ i → J.stop i H) ∧
  ∀ d, xs[i]? = some d → J.go i H ∧ ∀ x H', J.yld i H x H' → ∃ F'' m'', Xt F' m' H F'' m'' H' ∧ Wd Z F'' m'' μ' H' ∧ Rl Z F'' m'' d x
def iS (Z : Zx) (f : DI) : TI := fun σ H R => ∃ F m ρ μ xs μ', Wd Z F m μ H ∧ RlE Z F m ρ σ ∧ f ρ μ = .ok xs μ' ∧ ∀ J F' m' H', Xt F m H F' m' H' → Wd Z F' m' μ' H' → ItOk Z J F' m' xs → R J H'
theorem pi_imp {X : Cx} {tg e : Expr} {t t' : TI} (h : PI X tg e t) (i : ∀ σ H R, t' σ H R → t σ H R) : PI X tg e t' := ⟨fun pins s σ H R I q => h.run pins s σ H R I (i σ H R q)⟩
/-- what stays as it is while it is walked -/
def iterD (μ : Mu) : D → Option (List D)
  | .lst xs => some xs
  | .tup xs => some xs
  | .scr ns => some (ns.map .int)
  | .ref n => match μ[n]? with
    | some (.fz (.lst xs)) => some xs
    | _ => none
  | _ => none
def iSeq (f : DE) : DI := fun ρ μ => (f ρ μ).bind fun d μ1 => Res.of (iterD μ1 d) μ1
/-- range(n), range(a, b) -/
def rngD (lo : Int) (n : Nat) : List D := (List.range n).map fun (i : Nat) => .int (lo + i)
def iRange1 (f : DE) : DI := fun ρ μ => (f ρ μ).bind fun d μ1 => match vw μ1 d with
  | .int j => if -(2 ^ 62) ≤ j ∧ j < 2 ^ 62 then .ok (rngD 0 j.toNat) μ1 else .bad
  | _ => .bad
def iRange2 (f g : DE) : DI := fun ρ μ => (f ρ μ).bind fun x μ1 => (g ρ μ1).bind fun y μ2 => match vw μ2 x, vw μ2 y with
  | .int i, .int j => if -(2 ^ 62) ≤ i ∧ i < 2 ^ 62 ∧ -(2 ^ 62) ≤ j ∧ j < 2 ^ 62 then .ok (rngD i (j - i).toNat) μ2 else .bad
  | _, _ => .bad
theorem of_inv {α : Type} {o : Option α} {a : α} {μ μ' : Mu} (h : Res.of o μ = .ok a μ') : o = some a ∧ μ = μ' := by
  cases o with
  | none => cases h
  | some z => cases h; exact ⟨rfl, rfl⟩
section
variable {Z : Zx} {F H : Hp} {m : List Addr} {μ : Mu}
theorem iterD_rl (W : Wd Z F m μ H) {d : D} {v : V} {xs : List D} (r : Rl Z F m d v) (e : iterD μ d = some xs) : ∃ a vs, v = .ref a ∧ (SqL Z.K F a vs ∨ SqT Z.K F a vs) ∧ Rls Z F m xs vs := by
  cases d with
  | lst ys =>
    simp only [iterD] at e; cases e
    simp only [Rl] at r
    obtain ⟨a, vs, rfl, f, rr⟩ := r
    exact ⟨a, vs, rfl, .inl (.of f), rr⟩
  | tup ys =>
    simp only [iterD] at e; cases e
    simp only [Rl] at r
    obtain ⟨a, vs, rfl, f, rr⟩ := r
    exact ⟨a, vs, rfl, .inr (.of f), rr⟩
  | scr ns =>
    simp only [iterD] at e; cases e
    simp only [Rl] at r
    obtain ⟨a, rfl, f⟩ := r
    exact ⟨a, _, rfl, .inl f, Rls.ints ns⟩
  | ref n =>
    obtain ⟨a, c, rfl, h1, h2, k⟩ := W.at r
    simp only [iterD, h2] at e
    cases c with
    | fz d =>
      cases d with
      | lst ys =>
        cases e
        have q := k.2
        simp only [Rl] at q
        obtain ⟨b, vs, e1, f, rr⟩ := q
        cases e1
        exact ⟨_, vs, rfl, .inl (.of f), rr⟩
      | _ => cases e
    | _ => cases e
  | _ => simp only [iterD] at e; cases e
theorem itok_list {a : Addr} {vs : List V} {xs : List D} (f : SqL Z.K F a vs) (r : Rls Z F m xs vs) : ItOk Z (Itl Z.K a) F m xs := by
  intro F' m' μ' H' g W i
  have f' : SqL Z.K H' a vs := sql_gr (m := m') (m' := m') ⟨W.le, fun _ _ e => e⟩ (sql_gr g f)
  have hl := r.length
  refine ⟨fun h => ⟨vs, f', by omega⟩, fun d hd => ?_⟩
  obtain ⟨v, hv, rv⟩ := r.get hd
  refine ⟨⟨vs, v, f', hv⟩, fun x H2 y => ?_⟩
  obtain ⟨rfl, y⟩ := y
  have := y vs f'
  rw [hv] at this; cases this
  exact ⟨F', m', Xt.refl _ _ _, W, Rl.gr g _ _ rv⟩
theorem sqt_gr {K : PySem.W.Frag} {F F' : Hp} (g : ∀ a o, F a = some o → F' a = some o) {a : Addr} {xs : List V} (h : SqT K F a xs) : SqT K F' a xs := by
  rcases h with (h | ⟨o, h⟩) | h
  · exact .inl (.inl (g _ _ h))
  · exact .inl (.inr ⟨o, g _ _ h⟩)
  · exact .inr h
theorem itok_tup {a : Addr} {vs : List V} {xs : List D} (f : SqT Z.K F a vs) (r : Rls Z F m xs vs) : ItOk Z (Itt Z.K a) F m xs := by
  intro F' m' μ' H' g W i
  have f' : SqT Z.K H' a vs := sqt_gr W.le (sqt_gr g.ff f)
  have hl := r.length
  refine ⟨fun h => ⟨vs, f', by omega⟩, fun d hd => ?_⟩
  obtain ⟨v, hv, rv⟩ := r.get hd
  refine ⟨⟨vs, v, f', hv⟩, fun x H2 y => ?_⟩
  obtain ⟨rfl, y⟩ := y
  have := y vs f'
  rw [hv] at this; cases this
  exact ⟨F', m', Xt.refl _ _ _, W, Rl.gr g _ _ rv⟩
theorem itok_rng (lo : Int) (n : Nat) : ItOk Z (Itr lo n) F m (rngD lo n) := by
  intro F' m' μ' H' g W i
  have hl : (rngD lo n).length = n := by simp [rngD]
  refine ⟨fun h => by rw [hl] at h; exact h, fun d hd => ?_⟩
  have hi : i < n := by
    have := (List.getElem?_eq_some_iff.mp hd).1
    omega
  refine ⟨hi, fun x H2 y => ?_⟩
  obtain ⟨rfl, rfl⟩ := y
  have e : d = .int (lo + i) := by
    unfold rngD at hd
    rw [List.getElem?_map, List.getElem?_range hi] at hd
    cases hd
    rfl
  subst e
  exact ⟨F', m', Xt.refl _ _ _, W, by simp only [Rl]⟩
end
section
variable {X : Cx} {ct : Nat → Addr × List Str} {tg iter e : Expr} {f : DE} {pos p : Pos}
/-- a list or a tuple -/
theorem pi_any {l : Expr} {tl : TE} (hl : PE X l tl) : PI X tg l (fun σ H R => tl σ H fun x H1 => ∃ a, x = .ref a ∧ ((∃ xs, SqL X.K H1 a xs) ∧ R (Itl X.K a) H1 ∨ (∃ xs, SqT X.K H1 a xs) ∧ R (Itt X.K a) H1)) := by
  refine ⟨fun pins s σ H R I h => ?_⟩
  refine thn (hl.run pins s σ H _ I h) fun v s1 ⟨x, H1, I1, r1, a, ex, q⟩ => ?_
  subst ex
  cases r1
  have new : ∀ {o : Obj}, FpOk X pins H1 s1.heap.objs.size := fun {o} => I1.fpOk (Nat.le_refl _) (I1.hok.fresh (Nat.le_refl _))
  rcases q with ⟨⟨xs, hq⟩, q⟩ | ⟨⟨xs, hq⟩, q⟩
  · obtain ⟨its, rv, pl, hz⟩ := I1.list hq
    refine wpAny_pyIter_list pl.isList ⟨s1.heap.objs.size, [s1.heap.objs.size], _, _, H1, rfl, I1.kept (t' := s1.toks) fun b o e => Heap.get?_push_of_some _ e, turn_list a _, ⟨_, Heap.get?_push_size _ rfl, rfl, rfl⟩, fun b hb => ?_, q⟩
    rw [List.mem_singleton.mp hb]
    exact new (o := default)
  · obtain ⟨its, rv, pl, hz⟩ := I1.tuple hq
    refine wpAny_pyIter_tuple (show s1.heap.IsTuple a its.toArray from pl) ⟨s1.heap.objs.size, [s1.heap.objs.size], _, _, H1, rfl, I1.kept (t' := s1.toks) fun b o e => Heap.get?_push_of_some _ e, turn_tuple a _, ⟨_, Heap.get?_push_size _ rfl, rfl, rfl⟩, fun b hb => ?_, q⟩
    rw [List.mem_singleton.mp hb]
    exact new (o := default)
theorem di_seq (he : PE X e (tE (zx X ct) f)) : PI X tg e (iS (zx X ct) (iSeq f)) := by
  refine pi_imp (pi_any he) fun σ H R q => ?_
  obtain ⟨F, m, ρ, μ, d, μ', W, r, e, k⟩ := q
  refine tE_bind W r e fun x μ1 v F1 m1 H1 e1 x1 W1 r1 rx => ?_
  obtain ⟨e2, rfl⟩ := of_inv e1
  obtain ⟨a, vs, rfl, f, rr⟩ := iterD_rl W1 rx e2
  refine ⟨a, rfl, ?_⟩
  rcases f with f | f
  · exact .inl ⟨⟨vs, sql_gr (m := m1) (m' := m1) ⟨W1.le, fun _ _ e => e⟩ f⟩, k _ F1 m1 H1 x1 W1 (itok_list f rr)⟩
  · exact .inr ⟨⟨vs, sqt_gr W1.le f⟩, k _ F1 m1 H1 x1 W1 (itok_tup f rr)⟩
theorem di_rng1 {g : DE} (hg : Gl X "range") (hm : X.mg "range" = none) (ha : PE X e (tE (zx X ct) g)) (hs : starEach [e] X.env = (false, eval e X.env) :: starEach [] X.env := by rfl) (hs1 : starEach [e] X.env = [(false, eval e X.env)] := by rfl) : PI X tg (.Call (.Name "range" p) [e] [] pos) (iS (zx X ct) (iRange1 g)) := by
  refine pi_imp (pi_range1 hg hm (da_cons ha da_nil hs) hs1) fun σ H R q => ?_
  obtain ⟨F, m, ρ, μ, d, μ', W, r, e, k⟩ := q
  obtain ⟨x, μ1, e1, e2⟩ := bind_inv e
  refine ⟨F, m, ρ, μ, [x], μ1, W, r, by unfold dCons; rw [e1]; rfl, fun vs F1 m1 H1 x1 W1 rs => ?_⟩
  simp only [Rls] at rs
  obtain ⟨v, _, rfl, rv, rfl⟩ := rs
  split at e2
  · rename_i j hj
    split at e2
    · rename_i hb
      cases e2
      exact ⟨j, by rw [vw_int W1 rv hj], hb.1, hb.2, k _ F1 m1 H1 x1 W1 (itok_rng 0 j.toNat)⟩
    · cases e2
  · cases e2
def sForL (t : Tg) (g : DS) : List D → DS
  | [] => fun ρ μ => .nx ρ μ
  | d :: ds => fun ρ μ => match bindT t d ρ μ with
    | none => .bad
    | some ρ1 => match g ρ1 μ with
      | .nx ρ2 μ2 => sForL t g ds ρ2 μ2
      | .ct ρ2 μ2 => sForL t g ds ρ2 μ2
      | .bk ρ2 μ2 => .nx ρ2 μ2
      | o => o
def sFor (t : Tg) (f : DI) (g : DS) : DS := fun ρ μ => (f ρ μ).out fun xs μ1 => sForL t g xs ρ μ1
theorem ds_for {body : List Stmt} {fi : DI} {gt : TG} {tt : Tg} {g : DS} (hp : PassesOwn (model X.prog X.w) X.A X.env X.xe) (hc : X.calm = true) (hi : PI X tg iter (iS (zx X ct) fi)) (hg : PG X tg gt) (go : GOk (zx X ct) gt tt) (hb : PSs X body (tS (zx X ct) g))
    (hs : ∀ x, foldedSetIterable iter X.env x = pure x := by intro _; rfl) : PS X (.For tg iter body [] pos) (tS (zx X ct) (sFor tt fi g)) := by
  refine ps_imp (ps_for hp hc hi hg hb hs) fun D σ H q => ?_
  obtain ⟨F, m, ρ, μ, W, r, k⟩ := q
  unfold sFor at k
  cases e : fi ρ μ with
  | bad => rw [e] at k; exact k.elim
  | ok xs μ1 =>
    rw [e] at k
    refine ⟨F, m, ρ, μ, xs, μ1, W, r, e, fun J F1 m1 H1 x1 W1 ok => ?_⟩
    have k1 := AftS.weak x1 W1 k
    refine ⟨fun i n σ' H' => n = xs.length - i ∧ i ≤ xs.length ∧ ∃ F' m' ρ' μ', Gr F1 m1 F' m' ∧ Wd (zx X ct) F' m' μ' H' ∧ RlE (zx X ct) F' m' ρ' σ' ∧ AftS (zx X ct) F' m' H' D (sForL tt g (xs.drop i) ρ' μ'),
      ⟨xs.length, by simp, Nat.zero_le _, F1, m1, ρ, μ1, Gr.refl _ _, W1, r.gr x1.gr, by simpa using k1⟩, ?_⟩
    rintro i n σ' H' ⟨rfl, hi, F', m', ρ', μ', gr, W', r', k'⟩
    obtain ⟨st, goi⟩ := ok F' m' μ' H' gr W' i
    by_cases hlt : i < xs.length
    · obtain ⟨hgo, yl⟩ := goi xs[i] (List.getElem?_eq_getElem hlt)
      refine .inr ⟨hgo, fun σ2 H2 => i + 1 ≤ xs.length ∧ ∃ F2 m2 ρ2 μ2, Gr F1 m1 F2 m2 ∧ Wd (zx X ct) F2 m2 μ2 H2 ∧ RlE (zx X ct) F2 m2 ρ2 σ2 ∧ AftS (zx X ct) F2 m2 H2 D (sForL tt g (xs.drop (i + 1)) ρ2 μ2), fun σ2 H2 h => ⟨xs.length - (i + 1), by omega, rfl, h⟩, fun x H2 y => ?_⟩
      obtain ⟨F2, m2, x2, W2, rx⟩ := yl x H2 y
      have k2 := AftS.weak x2 W2 k'
      rw [List.drop_eq_getElem_cons hlt] at k2
      unfold sForL at k2
      cases eb : bindT tt xs[i] ρ' μ' with
      | none => rw [eb] at k2; exact k2.elim
      | some ρ2 =>
        rw [eb] at k2
        simp only at k2
        refine go F2 m2 μ' H2 ρ' σ' xs[i] x ρ2 _ W2 (r'.gr x2.gr) rx eb fun σ2 r2 _ => ?_
        refine ⟨F2, m2, ρ2, μ', W2, r2, ?_⟩
        have nxt : ∀ (ρ3 : Ev) (μ3 : Mu), AftS (zx X ct) F2 m2 H2 D (sForL tt g (xs.drop (i + 1)) ρ3 μ3) → ∀ σ3 F3 m3 H3, Xt F2 m2 H2 F3 m3 H3 → Wd (zx X ct) F3 m3 μ3 H3 → RlE (zx X ct) F3 m3 ρ3 σ3 →
            i + 1 ≤ xs.length ∧ ∃ F2 m2 ρ2 μ2, Gr F1 m1 F2 m2 ∧ Wd (zx X ct) F2 m2 μ2 H3 ∧ RlE (zx X ct) F2 m2 ρ2 σ3 ∧ AftS (zx X ct) F2 m2 H3 D (sForL tt g (xs.drop (i + 1)) ρ2 μ2) :=
          fun ρ3 μ3 k3 σ3 F3 m3 H3 x3 W3 r3 => ⟨hlt, F3, m3, ρ3, μ3, (gr.trans x2.gr).trans x3.gr, W3, r3, AftS.weak x3 W3 k3⟩
        cases eg : g ρ2 μ' with
        | nx ρ3 μ3 => rw [eg] at k2; exact nxt ρ3 μ3 k2
        | ct ρ3 μ3 => rw [eg] at k2; exact nxt ρ3 μ3 k2
        | bk ρ3 μ3 => rw [eg] at k2; exact k2
        | rt d μ3 => rw [eg] at k2; exact k2
        | bad => rw [eg] at k2; exact k2
    · have ei : i = xs.length := by omega
      subst ei
      rw [List.drop_length] at k'
      exact .inl ⟨st (Nat.le_refl _), k' σ' F' m' H' (Xt.refl _ _ _) W' r'⟩
end
end SB
set_option Elab.async false
set_option linter.all false
set_option maxRecDepth 100000
namespace SB
open PySem L2
def wipeD (ρ : Ev) : List Nat → Ev
  | [] => ρ
  | v :: vs => (wipeD ρ vs).set v none
def compL (own : List Nat) (tt : Tg) (c : DT) (f : DE) : List D → Ev → Mu → Res (List D)
  | [], _, μ => .ok [] μ
  | d :: ds, ρ, μ => match bindT tt d (wipeD ρ own) μ with
    | none => .bad
    | some ρ1 => (c ρ1 μ).bind fun b μ1 => if b then (f ρ1 μ1).bind fun y μ2 => (compL own tt c f ds ρ μ2).bind fun ys μ3 => .ok (y :: ys) μ3 else compL own tt c f ds ρ μ1
def dComp (b : Bool) (own : List Nat) (tt : Tg) (fi : DI) (c : DT) (f : DE) : DE := fun ρ μ => (fi ρ μ).bind fun xs μ1 => (compL own tt c f xs ρ μ1).bind fun ys μ2 => mkL b ys μ2
def dYes : DT := fun _ μ => .ok true μ
theorem wipe_at (σ : St) (j : Nat) : ∀ vs : List Nat, (wipe σ vs)[j]? = if j ∈ vs then (if j < σ.length then some none else none) else σ[j]?
  | [] => by simp [wipe]
  | v :: vs => by
    unfold wipe
    have ih := wipe_at σ j vs
    by_cases hj : v = j
    · subst hj
      rw [if_pos (List.mem_cons_self)]
      by_cases hl : v < σ.length
      · rw [if_pos hl, List.getElem?_set_self (by rw [wipe_length]; exact hl)]
      · rw [if_neg hl, List.getElem?_eq_none (by rw [List.length_set, wipe_length]; omega)]
    · rw [List.getElem?_set_ne hj, ih]
      by_cases hm : j ∈ vs
      · rw [if_pos hm, if_pos (List.mem_cons_of_mem _ hm)]
      · rw [if_neg hm, if_neg (by simp only [List.mem_cons, not_or]; exact ⟨fun e => hj e.symm, hm⟩)]
theorem wipe_eq {σ σ' : St} {is vs : List Nat} (h : SameOut is (wipe σ vs) σ') (hs : ∀ i ∈ is, i ∈ vs) : wipe σ' vs = wipe σ vs := by
  apply List.ext_getElem?
  intro j
  have hl : σ'.length = σ.length := h.1.trans (wipe_length _ _)
  rw [wipe_at, wipe_at, hl]
  by_cases hj : j ∈ vs
  · rw [if_pos hj, if_pos hj]
  · rw [if_neg hj, if_neg hj, h.2 j fun z => hj (hs j z), wipe_at, if_neg hj]
theorem wipeD_at (ρ : Ev) (j : Nat) (d : D) : ∀ vs : List Nat, (wipeD ρ vs)[j]? = some (some d) → ρ[j]? = some (some d) ∧ j ∉ vs
  | [], h => ⟨h, by simp⟩
  | v :: vs, h => by
    unfold wipeD at h
    by_cases hj : v = j
    · subst hj
      by_cases hl : v < (wipeD ρ vs).length
      · rw [List.getElem?_set_self hl] at h; cases h
      · rw [List.getElem?_eq_none (by simpa using hl)] at h; cases h
    · rw [List.getElem?_set_ne hj] at h
      obtain ⟨a, b⟩ := wipeD_at ρ j d vs h
      exact ⟨a, by simp only [List.mem_cons, not_or]; exact ⟨fun e => hj e.symm, b⟩⟩
theorem wipeD_length (ρ : Ev) : ∀ vs : List Nat, (wipeD ρ vs).length = ρ.length
  | [] => rfl
  | v :: vs => by unfold wipeD; rw [List.length_set, wipeD_length]
theorem RlE.wipe {Z : Zx} {F : Hp} {m : List Addr} {ρ : Ev} {σ : St} (h : RlE Z F m ρ σ) (vs : List Nat) : RlE Z F m (wipeD ρ vs) (L2.wipe σ vs) := by
  refine ⟨by rw [wipeD_length, wipe_length]; exact h.1, fun j d e => ?_⟩
  obtain ⟨a, b⟩ := wipeD_at ρ j d vs e
  obtain ⟨v, e1, r⟩ := h.2 j d a
  exact ⟨v, by rw [wipe_at, if_neg b]; exact e1, r⟩
section
variable {Z : Zx} {F F0 H H0 : Hp} {m m0 : List Addr} {μ : Mu} {D : Addr}
theorem Wd.hidden (W : Wd Z F m μ H) (hm : D ∉ m) (hF : F D = none) (o : HO) : Wd Z F m μ (upd H D o) := by
  refine ⟨fun a u e => ?_, W.len, W.nd, fun n a c e1 e2 => ?_⟩
  · rw [upd_ne (ne_of_none e hF)]; exact W.le _ _ e
  · have ha : a ≠ D := fun z => hm (z ▸ List.mem_of_getElem? e1)
    exact (W.cell n a c e1 e2).mono (Gr.refl _ _) (fun z => z) fun u z => by rw [upd_ne ha]; exact z
theorem Xt.hidden (x : Xt F0 m0 H0 F m H) (n : H0 D = none) (o : HO) : Xt F0 m0 H0 F m (upd H D o) := ⟨x.ff, x.mm, fun a u e h => by rw [upd_ne (ne_of_none e n)]; exact x.fr a u e h, x.fn⟩
/-- what was hidden is told, as it is for good -/
theorem Wd.adopt (W : Wd Z F m μ H) (hm : D ∉ m) (hF : F D = none) {o : HO} (e : H D = some o) : Wd Z (upd F D o) m μ H := by
  refine ⟨fun a u q => ?_, W.len, W.nd, fun n a c e1 e2 => ?_⟩
  · by_cases h : a = D
    · subst h; rw [upd_same] at q; cases q; exact e
    · rw [upd_ne h] at q; exact W.le _ _ q
  · have ha : a ≠ D := fun z => hm (z ▸ List.mem_of_getElem? e1)
    exact (W.cell n a c e1 e2).mono (upd_gr hF) (fun z => by rw [upd_ne ha]; exact z) fun u z => z
theorem Xt.adopt (x : Xt F0 m0 H0 F m H) (hF : F D = none) (n : H0 D = none) (o : HO) : Xt F0 m0 H0 (upd F D o) m H := by
  refine ⟨fun a u e => (upd_gr (m := m) hF).ff _ _ (x.ff a u e), x.mm, x.fr, fun a u e => ?_⟩
  by_cases h : a = D
  · subst h; exact .inr (.inl n)
  · rw [upd_ne h] at e; exact x.fn a u e
/-- .. as a cell -/
theorem Wd.adoptM (W : Wd Z F m μ H) (hm : D ∉ m) (c : Cell) (k : CellOk Z F (m ++ [D]) H D c) : Wd Z F (m ++ [D]) (μ ++ [c]) H := by
  have g : Gr F m F (m ++ [D]) := ⟨fun _ _ e => e, fun i a e => by rw [List.getElem?_append_left (List.getElem?_eq_some_iff.mp e).1]; exact e⟩
  refine ⟨W.le, by simp [W.len], ?_, fun i a c' e1 e2 => ?_⟩
  · rw [List.nodup_append]
    refine ⟨W.nd, by simp, fun a h b h2 e => hm ?_⟩
    rw [List.mem_singleton.mp h2] at e
    exact e ▸ h
  · by_cases hi : i < m.length
    · rw [List.getElem?_append_left hi] at e1
      rw [List.getElem?_append_left (by rw [← W.len]; exact hi)] at e2
      exact (W.cell i a c' e1 e2).mono g (fun z => z) fun u z => z
    · have h1 : i = m.length := by
        have := (List.getElem?_eq_some_iff.mp e1).1
        simp at this
        omega
      subst h1
      simp at e1
      rw [W.len] at e2
      simp at e2
      subst e1 e2
      exact k
theorem Xt.adoptM (x : Xt F0 m0 H0 F m H) (n : H0 D = none) : Xt F0 m0 H0 F (m ++ [D]) H := by
  obtain ⟨t, e, h⟩ := x.mm
  refine ⟨x.ff, ⟨t ++ [D], by rw [e, List.append_assoc], fun a ha => ?_⟩, x.fr, x.fn⟩
  rcases List.mem_append.mp ha with z | z
  · exact h a z
  · rw [List.mem_singleton.mp z]; exact n
theorem Xt.out (x : Xt F0 m0 H0 F m H) (hD : D ∉ m0) (hF : F0 D = none) {o : HO} (e : H0 D = some o) : D ∉ m ∧ F D = none ∧ H D = some o := by
  obtain ⟨t, e1, h⟩ := x.mm
  refine ⟨fun z => ?_, ?_, x.fr _ _ e hD⟩
  · rw [e1] at z
    rcases List.mem_append.mp z with y | y
    · exact hD y
    · rw [h D y] at e; cases e
  · cases q : F D with
    | none => rfl
    | some u =>
      rcases x.fn D u q with z | z | z
      · rw [hF] at z; cases z
      · rw [e] at z; cases z
      · exact absurd z hD
end
section
variable {X : Cx} {ct : Nat → Addr × List Str} {tg iter elt : Expr} {ifs : List Expr} {pos : Pos} {fi : DI} {c : DT} {f : DE} {tt : Tg} {gt : TG} {scope : Scope} {own : List (Str × Nat)}
/-- the comprehension's reading, by data -/
theorem comp_read (bb : Bool) (go : GOk (zx X ct) gt tt) (hs : ∀ i ∈ slotsT tt, i ∈ own.map (·.2)) (σ : St) (H : Hp) (Q : VK) (q : tE (zx X ct) (dComp bb (own.map (·.2)) tt fi c f) σ H Q) :
    tLc (iS (zx X ct) fi) gt (tT (zx X ct) c) (tE (zx X ct) f) (own.map (·.2)) σ H Q := by
  obtain ⟨F, m, ρ, μ, d, μ', W, r, e, k⟩ := q
  obtain ⟨xs, μ1, e1, e2⟩ := bind_inv e
  obtain ⟨ys, μ2, e3, e4⟩ := bind_inv e2
  refine ⟨F, m, ρ, μ, xs, μ1, W, r, e1, fun J F1 m1 H1 x1 W1 ok D nD => ?_⟩
  have k1 := k.weak x1 W1
  have r1 := r.gr x1.gr
  have hDm : D ∉ m1 := fun z => W1.there D z nD
  have hDF : F1 D = none := by
    cases q : F1 D with
    | none => rfl
    | some u => rw [W1.le _ _ q] at nD; cases nD
  refine ⟨fun i n H' => n = xs.length - i ∧ i ≤ xs.length ∧ ∃ F' m' μ' acc accD rest, Xt F1 m1 H1 F' m' H' ∧ Wd (zx X ct) F' m' μ' H' ∧ H' D = some (.lst acc) ∧ D ∉ m' ∧ F' D = none ∧ Rls (zx X ct) F' m' accD acc ∧
      compL (own.map (·.2)) tt c f (xs.drop i) ρ μ' = .ok rest μ2 ∧ accD ++ rest = ys, ?_, ?_⟩
  · exact ⟨xs.length, by simp, Nat.zero_le _, F1, m1, μ1, [], [], ys, (Xt.refl _ _ _).hidden nD _, W1.hidden hDm hDF _, upd_same, hDm, hDF, .nil, by simpa using e3, rfl⟩
  · rintro i n H' ⟨rfl, hi, F2, m2, μ3, acc, accD, rest, x2, W2, hD, hm2, hF2, ra, ec, ey⟩
    obtain ⟨st, goi⟩ := ok F2 m2 μ3 H' x2.gr W2 i
    by_cases hlt : i < xs.length
    · obtain ⟨hgo, yl⟩ := goi xs[i] (List.getElem?_eq_getElem hlt)
      refine .inr ⟨hgo, fun H3 => i + 1 ≤ xs.length ∧ ∃ F' m' μ' acc accD rest, Xt F1 m1 H1 F' m' H3 ∧ Wd (zx X ct) F' m' μ' H3 ∧ H3 D = some (.lst acc) ∧ D ∉ m' ∧ F' D = none ∧ Rls (zx X ct) F' m' accD acc ∧
        compL (own.map (·.2)) tt c f (xs.drop (i + 1)) ρ μ' = .ok rest μ2 ∧ accD ++ rest = ys, fun H3 h => ⟨xs.length - (i + 1), by omega, rfl, h⟩, fun x H3 y => ?_⟩
      obtain ⟨F3, m3, x3, W3, rx⟩ := yl x H3 y
      obtain ⟨hm3, hF3, hD3⟩ := x3.out hm2 hF2 hD
      rw [List.drop_eq_getElem_cons hlt] at ec
      unfold compL at ec
      split at ec
      · cases ec
      · rename_i ρ1 eb
        have r3 : RlE (zx X ct) F3 m3 (wipeD ρ (own.map (·.2))) (wipe σ (own.map (·.2))) := ((r1.gr x2.gr).gr x3.gr).wipe _
        refine go F3 m3 μ3 H3 _ _ xs[i] x ρ1 _ W3 r3 rx eb fun σ2 r4 so => ⟨wipe_eq so hs, ?_⟩
        obtain ⟨b, μ4, e5, e6⟩ := bind_inv ec
        refine ⟨F3, m3, ρ1, μ3, b, μ4, W3, r4, e5, fun F4 m4 H4 x4 W4 => ?_⟩
        obtain ⟨hm4, hF4, hD4⟩ := x4.out hm3 hF3 hD3
        have x14 := (x2.trans x3 W2.there).trans x4 W3.there
        have ra4 := Rls.gr x4.gr _ _ (Rls.gr x3.gr _ _ ra)
        cases b with
        | false =>
          rw [if_neg (by decide)] at e6 ⊢
          exact ⟨hlt, F4, m4, μ4, acc, accD, rest, x14, W4, hD4, hm4, hF4, ra4, e6, ey⟩
        | true =>
          rw [if_pos rfl] at e6 ⊢
          obtain ⟨y, μ5, e7, e8⟩ := bind_inv e6
          obtain ⟨rest', μ6, e9, e10⟩ := bind_inv e8
          cases e10
          refine ⟨F4, m4, ρ1, μ4, y, μ5, W4, r4.gr x4.gr, e7, fun v F5 m5 H5 x5 W5 ry => ?_⟩
          obtain ⟨hm5, hF5, hD5⟩ := x5.out hm4 hF4 hD4
          have ra5 := Rls.gr x5.gr _ _ ra4
          have hz : acc.length < sizeLine := by
            have hy : ys.length ≤ sizeLine := by
              unfold mkL at e4
              split at e4
              · assumption
              · cases e4
            have l1 := ra5.length
            rw [← ey] at hy
            simp at hy
            omega
          exact ⟨acc, hD5, hz, hlt, F5, m5, μ5, acc ++ [v], accD ++ [y], rest', (x14.trans x5 W4.there).hidden nD _, W5.hidden hm5 hF5 _, upd_same, hm5, hF5, ra5.append (.one ry), e9, by rw [← ey]; simp⟩
    · have ei : i = xs.length := by omega
      subst ei
      rw [List.drop_length] at ec
      unfold compL at ec
      cases ec
      rw [List.append_nil] at ey
      subst ey
      refine .inl ⟨st (Nat.le_refl _), ?_⟩
      unfold mkL at e4
      split at e4
      · cases bb with
        | true =>
          rw [if_pos rfl] at e4
          cases e4
          have g : Gr F2 m2 F2 (m2 ++ [D]) := ⟨fun _ _ e => e, fun i a e => by rw [List.getElem?_append_left (List.getElem?_eq_some_iff.mp e).1]; exact e⟩
          refine k1 _ _ _ _ (x2.adoptM nD) (W2.adoptM hm2 (.lst accD) ⟨hF2, acc, hD, Rls.gr g _ _ ra⟩) ?_
          simp only [Rl]
          exact ⟨D, rfl, by rw [← W2.len]; simp⟩
        | false =>
          rw [if_neg (by decide)] at e4
          cases e4
          refine k1 _ _ _ _ (x2.adopt hF2 nD (.lst acc)) (W2.adopt hm2 hF2 hD) ?_
          simp only [Rl]
          exact ⟨D, acc, rfl, upd_same, Rls.gr (upd_gr hF2) _ _ ra⟩
      · cases e4
theorem dpts_nil : PTs X [] (tT (zx X ct) dYes) := by
  refine ⟨fun pins s σ H Q I q => pts_nil.run pins s σ H Q I ?_⟩
  obtain ⟨F, m, ρ, μ, d, μ', W, r, e, k⟩ := q
  cases e
  exact k F m H (Xt.refl _ _ _) W
theorem de_lc (bb : Bool) (hc : X.calm = true) (hN : X.N.Nodup) (hi : PI X tg iter (iS (zx X ct) fi)) (ok : BlkOk X.N X.env.scope scope own) (go : GOk (zx X ct) gt tt) (hsl : ∀ i ∈ slotsT tt, i ∈ own.map (·.2))
    (hg : ∀ (s : Shared) (H : Hp) (C : Addr) (cl : List (Str × Addr)) (fp : List Addr), PG (X.blk s H scope (compEnvC scope cl C X.env) fp) tg gt) (ht : ∀ (s : Shared) (H : Hp) (C : Addr) (cl : List (Str × Addr)) (fp : List Addr), PTs (X.blk s H scope (compEnvC scope cl C X.env) fp) ifs (tT (zx X ct) c))
    (he : ∀ (s : Shared) (H : Hp) (C : Addr) (cl : List (Str × Addr)) (fp : List Addr), PE (X.blk s H scope (compEnvC scope cl C X.env) fp) elt (tE (zx X ct) f)) (hs : ∀ x, foldedSetIterable iter X.env x = pure x := by intro _; rfl) :
    PE X (.ListComp elt [⟨tg, iter, ifs, 0⟩] scope pos) (tE (zx X ct) (dComp bb (own.map (·.2)) tt fi c f)) :=
  pe_imp (pe_lc hc hN hi ok hg ht he hs) fun σ H Q q => comp_read bb go hsl σ H Q q
theorem ds_lc {i : Nat} {y : Str} {py spos : Pos} (bb : Bool) (hc : X.calm = true) (hN : X.N.Nodup) (hy : X.N[i]? = some y) (hyl : X.env.scope.names.lookup y = some .local)
    (hsw : swapsWith (.ListComp elt [⟨tg, iter, ifs, 0⟩] scope pos) (some (.Name y py)) spos.line X.env = pure true) (hi : PI X tg iter (iS (zx X ct) fi)) (ok : BlkOk X.N X.env.scope scope own) (go : GOk (zx X ct) gt tt) (hsl : ∀ i ∈ slotsT tt, i ∈ own.map (·.2))
    (hg : ∀ (s : Shared) (H : Hp) (C : Addr) (cl : List (Str × Addr)) (fp : List Addr), PG (X.blk s H scope (compEnvC scope cl C X.env) fp) tg gt) (ht : ∀ (s : Shared) (H : Hp) (C : Addr) (cl : List (Str × Addr)) (fp : List Addr), PTs (X.blk s H scope (compEnvC scope cl C X.env) fp) ifs (tT (zx X ct) c))
    (he : ∀ (s : Shared) (H : Hp) (C : Addr) (cl : List (Str × Addr)) (fp : List Addr), PE (X.blk s H scope (compEnvC scope cl C X.env) fp) elt (tE (zx X ct) f)) (hs : ∀ x, foldedSetIterable iter X.env x = pure x := by intro _; rfl) :
    PS X (.Assign [.Name y py] (.ListComp elt [⟨tg, iter, ifs, 0⟩] scope pos) spos) (tS (zx X ct) (sSet i (dComp bb (own.map (·.2)) tt fi c f))) := by
  refine ps_imp (ps_setLc hc hN hy hyl hsw hi ok hg ht he hs) fun D σ H q => ?_
  obtain ⟨F, m, ρ, μ, W, r, k⟩ := q
  refine comp_read bb go hsl σ H _ (tE_out W r k fun x μ1 v F1 m1 H1 k1 x1 W1 r1 rx => ?_)
  exact k1 _ F1 m1 H1 (Xt.refl _ _ _) W1 (r1.set i rx)
end
end SB
set_option Elab.async false
set_option linter.all false
set_option maxRecDepth 100000
namespace SB
open PySem L2
abbrev Fn := List D → Mu → Res D
/-- the promise of a def with n parameters whose meaning is Φ -/
def spG (Z : Zx) (n : Nat) (Φ : Fn) : Sp := fun vs H Q _ => vs.length = n ∧ ∃ F m μ ds d μ', Wd Z F m μ H ∧ Rls Z F m ds vs ∧ Φ ds μ = .ok d μ' ∧ Aft Z F m H d μ' Q
def startD (n : Nat) (ds : List D) : Ev := ds.map some ++ List.replicate (n - ds.length) none
/-- a body's meaning as a def's -/
def callG (n : Nat) (f : DS) : Fn := fun ds μ => match f (startD n ds) μ with
  | .rt d μ' => .ok d μ'
  | .nx _ μ' => .ok .non μ'
  | _ => .bad
theorem rlE_start {Z : Zx} {F : Hp} {m : List Addr} {N : List Str} {ds : List D} {vs : List V} (r : Rls Z F m ds vs) : RlE Z F m (startD N.length ds) (L2.start N vs) := by
  have hl := r.length
  refine ⟨by simp [startD, L2.start, hl], fun i d e => ?_⟩
  unfold startD at e
  by_cases hi : i < ds.length
  · rw [List.getElem?_append_left (by simpa using hi), List.getElem?_map, List.getElem?_eq_getElem hi] at e
    simp only [Option.map_some, Option.some.injEq] at e
    obtain ⟨v, hv, rv⟩ := r.get (List.getElem?_eq_getElem hi)
    refine ⟨v, ?_, by rw [← e]; exact rv⟩
    unfold L2.start
    rw [List.getElem?_append_left (by simpa [hl] using hi), List.getElem?_map, hv]
    rfl
  · rw [List.getElem?_append_right (by simpa using hi), List.getElem?_replicate] at e
    split at e <;> cases e
section
variable {P : Program} {w : World} {K : PySem.W.Frag} {mg : Str → Option Value} {base : Heap} {ct : Nat → Addr × List Str}
theorem fn_ok {x qual : Str} {st : Stmt} {f : Addr} {fd : FuncData} {N ps : List Str} {k : Nat} {g : DS} (F : Fun K x qual st f fd) (S : FnScope N ps (defScope st))
    (body : ∀ (cdv : Value) (A : Around) (outer : List Env) (s : Shared) (H : Hp) (E : XK), Room k (A.deeper (PyProof.Rows.envOfC qual (defScope st) s.heap.objs.size f cdv)) → PSs (cxOf CX0 P w K mg base N qual (defScope st) f cdv A outer s H E).nox (defBody st) (tS ⟨P, w, K, ct⟩ g)) :
    FnOk P w K mg base CX0 (k + 1) f fd ps (spG ⟨P, w, K, ct⟩ ps.length (callG N.length g)) := by
  refine F.ok S (fun vs H Q E h => h.1) (fun cdv A outer s H vs Q E hr h => ?_)
  obtain ⟨_, F, m, μ, ds, d, μ', W, rs, e, kk⟩ := h
  refine ⟨_, body cdv A outer s H E hr, F, m, startD N.length ds, μ, W, rlE_start rs, ?_⟩
  unfold callG at e
  cases eo : g (startD N.length ds) μ with
  | rt d' μ2 => rw [eo] at e; cases e; exact kk
  | nx ρ μ2 => rw [eo] at e; cases e; exact fun σ F' m' H' x W' _ => kk .non F' m' H' x W' (by simp only [Rl])
  | bk ρ μ2 => rw [eo] at e; cases e
  | ct ρ μ2 => rw [eo] at e; cases e
  | bad => rw [eo] at e; cases e
end
mutual
def closed : D → Bool
  | .non | .bl _ | .int _ | .str _ | .scr _ => true
  | .tup xs => closeds xs
  | .lst xs => closeds xs
  | .dic es => closede es
  | .ins _ fs => closeds fs
  | .exc _ fs => closeds fs
  | .ref _ => false
def closeds : List D → Bool
  | [] => true
  | d :: ds => closed d && closeds ds
def closede : List (D × D) → Bool
  | [] => true
  | (k, d) :: es => closed k && closed d && closede es
end
section
variable {Z : Zx} {F : Hp} {m m' : List Addr}
mutual
theorem Rl.cl : ∀ (d : D) (v : V), closed d = true → Rl Z F m d v → Rl Z F m' d v
  | .non, v, c, h => by simp only [Rl] at h ⊢; exact h
  | .bl b, v, c, h => by simp only [Rl] at h ⊢; exact h
  | .int b, v, c, h => by simp only [Rl] at h ⊢; exact h
  | .str b, v, c, h => by simp only [Rl] at h ⊢; exact h
  | .tup xs, v, c, h => by
    simp only [Rl, closed] at h c ⊢
    obtain ⟨a, vs, e, f, r⟩ := h
    exact ⟨a, vs, e, f, Rls.cl xs vs c r⟩
  | .lst xs, v, c, h => by
    simp only [Rl, closed] at h c ⊢
    obtain ⟨a, vs, e, f, r⟩ := h
    exact ⟨a, vs, e, f, Rls.cl xs vs c r⟩
  | .dic es, v, c, h => by
    simp only [Rl, closed] at h c ⊢
    obtain ⟨a, o, u, e, f, r⟩ := h
    refine ⟨a, o, u, e, f, ?_⟩
    rcases r with ⟨ks, e, r⟩ | ⟨ks, e, r⟩
    · exact .inl ⟨ks, e, Rlk.cl es ks c r⟩
    · exact .inr ⟨ks, e, Rln.cl es ks c r⟩
  | .ins k fs, v, c, h => by
    simp only [Rl, closed] at h c ⊢
    obtain ⟨a, dx, vs, e, f, r, l⟩ := h
    exact ⟨a, dx, vs, e, f, Rls.cl fs vs c r, l⟩
  | .ref n, v, c, h => by simp only [closed] at c; cases c
  | .scr ns, v, c, h => by simp only [Rl] at h ⊢; exact h
  | .exc k fs, v, c, h => by
    simp only [Rl, closed] at h c ⊢
    obtain ⟨a, dx, vs, e, f, x, r, l⟩ := h
    exact ⟨a, dx, vs, e, f, x, Rls.cl fs vs c r, l⟩
theorem Rls.cl : ∀ (ds : List D) (vs : List V), closeds ds = true → Rls Z F m ds vs → Rls Z F m' ds vs
  | [], vs, c, h => by simp only [Rls] at h ⊢; exact h
  | d :: ds, vs, c, h => by
    simp only [Rls, closeds, Bool.and_eq_true] at h c ⊢
    obtain ⟨v, r, e, h1, h2⟩ := h
    exact ⟨v, r, e, Rl.cl d v c.1 h1, Rls.cl ds r c.2 h2⟩
theorem Rlk.cl : ∀ (es : List (D × D)) (ks : List (Key × V)), closede es = true → Rlk Z F m es ks → Rlk Z F m' es ks
  | [], ks, c, h => by simp only [Rlk] at h ⊢; exact h
  | (k, d) :: es, ks, c, h => by
    simp only [Rlk, closede, Bool.and_eq_true] at h c ⊢
    obtain ⟨q, v, r, e, e2, h1, h2⟩ := h
    exact ⟨q, v, r, e, e2, Rl.cl d v c.1.2 h1, Rlk.cl es r c.2 h2⟩
theorem Rln.cl : ∀ (es : List (D × D)) (ks : List (NestedKey × Addr × V)), closede es = true → Rln Z F m es ks → Rln Z F m' es ks
  | [], ks, c, h => by simp only [Rln] at h ⊢; exact h
  | (k, d) :: es, ks, c, h => by
    simp only [Rln, closede, Bool.and_eq_true] at h c ⊢
    obtain ⟨q, b, v, r, e, e2, h0, h1, h2⟩ := h
    exact ⟨q, b, v, r, e, e2, Rl.cl k _ c.1.1 h0, Rl.cl d v c.1.2 h1, Rln.cl es r c.2 h2⟩
end
end
/-- a body's meaning, from nothing that may change to nothing that may change -/
def pureR (f : DS) (n : Nat) (ds : List D) : Option D := if closeds ds then (match f (startD n ds) [] with
  | .rt d _ => if closed d then some d else none
  | .nx _ _ => some .non
  | _ => none) else none
def callP (n : Nat) (f : DS) : Fn := fun ds μ => Res.of (pureR f n ds) μ
theorem Wd.none {Z : Zx} {F H : Hp} {m : List Addr} {μ : Mu} (W : Wd Z F m μ H) : Wd Z F [] [] H := ⟨W.le, rfl, List.nodup_nil, fun n a c e => by simp at e⟩
/-- what a pure def leaves -/
theorem Wd.back {Z : Zx} {F H F' H' : Hp} {m m' : List Addr} {μ μ' : Mu} (W : Wd Z F m μ H) (x : Xt F [] H F' m' H') (W' : Wd Z F' m' μ' H') : Wd Z F' m μ H' ∧ Xt F m H F' m H' := by
  have g : Gr F m F' m := ⟨x.ff, fun _ _ e => e⟩
  refine ⟨⟨W'.le, W.len, W.nd, fun n a c e1 e2 => (W.cell n a c e1 e2).mono g (fun z => ?_) fun o z => x.fr a o z (by simp)⟩, ⟨x.ff, ⟨[], by simp, by simp⟩, fun a o e _ => x.fr a o e (by simp), fun a o e => ?_⟩⟩
  · cases q : F' a with
    | none => rfl
    | some o =>
      rcases x.fn a o q with y | y | y
      · rw [z] at y; cases y
      · exact absurd y (W.there a (List.mem_of_getElem? e1))
      · simp at y
  · rcases x.fn a o e with y | y | y
    · exact .inl y
    · exact .inr (.inl y)
    · simp at y
theorem FnOk.pure {P : Program} {w : World} {K : PySem.W.Frag} {mg : Str → Option Value} {base : Heap} {ct : Nat → Addr × List Str} {k : Nat} {f : Addr} {fd : FuncData} {ps : List Str} {n : Nat} {g : DS}
    (h : FnOk P w K mg base CX0 k f fd ps (spG ⟨P, w, K, ct⟩ ps.length (callG n g))) : FnOk P w K mg base CX0 k f fd ps (spG ⟨P, w, K, ct⟩ ps.length (callP n g)) := by
  refine h.imp fun vs H Q E q => ?_
  obtain ⟨hl, F, m, μ, ds, d, μ', W, rs, e, kk⟩ := q
  obtain ⟨e1, rfl⟩ := of_inv e
  unfold pureR at e1
  split at e1
  · rename_i hc
    have go : ∀ d' μ2, callG n g ds [] = .ok d' μ2 → d = d' → closed d = true → spG ⟨P, w, K, ct⟩ ps.length (callG n g) vs H Q E := by
      rintro d' μ2 ec rfl cd
      refine ⟨hl, F, [], [], ds, d, μ2, W.none, Rls.cl ds vs hc rs, ec, fun v F' m' H' x W' rv => ?_⟩
      obtain ⟨W2, x2⟩ := W.back x W'
      exact kk v F' m H' x2 W2 (Rl.cl d v cd rv)
    cases eg : g (startD n ds) [] with
    | rt d' μ2 =>
      rw [eg] at e1
      simp only at e1
      split at e1
      · rename_i cd
        cases e1
        exact go d μ2 (by unfold callG; rw [eg]) rfl cd
      · cases e1
    | nx ρ μ2 =>
      rw [eg] at e1
      cases e1
      exact go .non μ2 (by unfold callG; rw [eg]) rfl rfl
    | bk ρ μ2 => rw [eg] at e1; cases e1
    | ct ρ μ2 => rw [eg] at e1; cases e1
    | bad => rw [eg] at e1; cases e1
  · cases e1
/-- a def's meaning told otherwise where it is defined -/
theorem FnOk.as {P : Program} {w : World} {K : PySem.W.Frag} {mg : Str → Option Value} {base : Heap} {Z : Zx} {k n : Nat} {f : Addr} {fd : FuncData} {ps : List Str} {Φ Ψ : Fn}
    (h : FnOk P w K mg base CX0 k f fd ps (spG Z n Φ)) (e : ∀ ds μ d μ', Ψ ds μ = .ok d μ' → Φ ds μ = .ok d μ') : FnOk P w K mg base CX0 k f fd ps (spG Z n Ψ) := by
  refine h.imp fun vs H Q E q => ?_
  obtain ⟨hl, F, m, μ, ds, d, μ', W, rs, e1, kk⟩ := q
  exact ⟨hl, F, m, μ, ds, d, μ', W, rs, e _ _ _ _ e1, kk⟩
section
variable {X : Cx} {ct : Nat → Addr × List Str} {pos p : Pos} {x : Str} {e o : Expr} {es : List Expr} {f : DE} {fs : DEs} {Φ : Fn} {fa : Addr} {fd : FuncData} {ps : List Str} {k n : Nat}
theorem de_call (G : FnOk X.prog X.w X.K X.mg X.base CX0 k fa fd ps (spG (zx X ct) n Φ)) (hn : ps.length = n) (hl : (e :: es).length = n) (hr : Room k X.A) (hm : X.mg x = some (.ref fa)) (hk : PySem.W.keepIn X.K (.ref fa) = true) (hb : Binds X.K fd ps []) (ha : PA X (e :: es) (tA (zx X ct) fs))
    (hfs : ∀ ρ μ xs μ', fs ρ μ = .ok xs μ' → xs.length = (e :: es).length) (hg : Gl X x := by rfl)
    (hdb : (x == ("__debug__" : Str)) = false := by decide) (he : starEach (e :: es) X.env = (false, eval e X.env) :: starEach es X.env := by rfl) (hpl : (backTo pos (starEach es X.env)).any (·.1) = false := by rfl) : PE X (.Call (.Name x p) (e :: es) [] pos) (tE (zx X ct) (dCall fs Φ)) := by
  refine pe_imp (pe_call (E := E0) G hr hg hm hk hb .nil pass0 ha hdb he hpl) fun σ H Q q => ?_
  obtain ⟨F, m, ρ, μ, d, μ', W, r, e1, kk⟩ := q
  obtain ⟨xs, μ1, e2, e3⟩ := bind_inv e1
  refine ⟨F, m, ρ, μ, xs, μ1, W, r, e2, fun vs F1 m1 H1 x1 W1 rs => ?_⟩
  show spG _ _ _ (vs ++ []) _ _ _
  rw [List.append_nil]
  exact ⟨by rw [rs.length, hfs _ _ _ _ e2, hl], F1, m1, μ1, xs, d, μ', W1, rs, e3, kk.weak x1 W1⟩
end
theorem len_nil {ρ : Ev} {μ : Mu} {xs : List D} {μ' : Mu} (h : dNil ρ μ = .ok xs μ') : xs.length = 0 := by cases h; rfl
theorem len_cons {f : DE} {fs : DEs} {n : Nat} (h : ∀ ρ μ xs μ', fs ρ μ = .ok xs μ' → xs.length = n) : ∀ ρ μ xs μ', dCons f fs ρ μ = .ok xs μ' → xs.length = n + 1 := fun ρ μ xs μ' e => by
  obtain ⟨x, μ1, e1, e2⟩ := bind_inv e
  obtain ⟨ys, μ2, e3, e4⟩ := bind_inv e2
  cases e4
  simp [h _ _ _ _ e3]
structure ClsD (K : PySem.W.Frag) (ct : Nat → Addr × List Str) (c : Nat) : Prop where
  cl : Cls K (ct c).1
  no : ∀ f ∈ (ct c).2, NoAttr K (ct c).1 f
  nd : (ct c).2.Nodup
  few : (ct c).2.length < 1000
theorem zip_lookup : ∀ {ns : List Str} {vs : List V} {i : Nat} {f : Str} {v : V}, ns.Nodup → ns[i]? = some f → vs[i]? = some v → (ns.zip vs).lookup f = some v
  | [], vs, i, f, v, h, e, e2 => by simp at e
  | a :: ns, [], i, f, v, h, e, e2 => by simp at e2
  | a :: ns, b :: vs, 0, f, v, h, e, e2 => by simp at e e2; subst e e2; simp [List.lookup_cons]
  | a :: ns, b :: vs, i + 1, f, v, h, e, e2 => by
    simp at e e2
    have hm : f ∈ ns := List.mem_of_getElem? e
    have hne : f ≠ a := fun z => (List.nodup_cons.mp h).1 (z ▸ hm)
    rw [List.zip_cons_cons, List.lookup_cons, show (f == a) = false from by simpa using hne]
    exact zip_lookup (List.nodup_cons.mp h).2 e e2
theorem zip_none : ∀ {ns : List Str} {vs : List V} {f : Str}, f ∉ ns → (ns.zip vs).lookup f = none
  | [], vs, f, h => by simp
  | a :: ns, [], f, h => by simp
  | a :: ns, b :: vs, f, h => by
    simp only [List.mem_cons, not_or] at h
    rw [List.zip_cons_cons, List.lookup_cons, show (f == a) = false from by simpa using h.1]
    exact zip_none h.2
theorem zip_put : ∀ {ns : List Str} {vs : List V} {i : Nat} {f : Str} {v : V}, ns.Nodup → ns[i]? = some f → i < vs.length → putF f v (ns.zip vs) = ns.zip (vs.set i v)
  | [], vs, i, f, v, h, e, e2 => by simp at e
  | a :: ns, [], i, f, v, h, e, e2 => by simp at e2
  | a :: ns, b :: vs, 0, f, v, h, e, e2 => by simp at e; subst e; simp [putF]
  | a :: ns, b :: vs, i + 1, f, v, h, e, e2 => by
    simp at e e2
    have hm : f ∈ ns := List.mem_of_getElem? e
    have hne : a ≠ f := fun z => (List.nodup_cons.mp h).1 (z ▸ hm)
    simp only [List.zip_cons_cons, putF, if_neg hne, List.set_cons_succ, zip_put (List.nodup_cons.mp h).2 e e2]
theorem zip_new : ∀ {ns : List Str} {vs : List V} {f : Str} {v : V}, ns.Nodup → ns[vs.length]? = some f → putF f v (ns.zip vs) = ns.zip (vs ++ [v])
  | [], vs, f, v, h, e => by simp at e
  | a :: ns, [], f, v, h, e => by simp at e; subst e; simp [putF]
  | a :: ns, b :: vs, f, v, h, e => by
    simp at e
    have hm : f ∈ ns := List.mem_of_getElem? e
    have hne : a ≠ f := fun z => (List.nodup_cons.mp h).1 (z ▸ hm)
    simp only [List.zip_cons_cons, putF, if_neg hne, List.cons_append, zip_new (List.nodup_cons.mp h).2 e]
/-- o.f, the k-th attribute of the class c -/
def dFld (c k : Nat) (f : DE) : DE := fun ρ μ => (f ρ μ).bind fun x μ1 => match vw μ1 x with
  | .ins c' fs => if c' = c then Res.of fs[k]? μ1 else .bad
  | _ => .bad
/-- o.f = v -/
def sFldD (c k : Nat) (o f : DE) : DS := fun ρ μ => (f ρ μ).out fun d μ1 => (o ρ μ1).out fun x μ2 => match x with
  | .ref n => match μ2[n]? with
    | some (.ins c' fs) => if c' = c then (if k < fs.length then .nx ρ (μ2.set n (.ins c (fs.set k d))) else if k = fs.length then .nx ρ (μ2.set n (.ins c (fs ++ [d]))) else .bad) else .bad
    | _ => .bad
  | _ => .bad
def dMeth (c : Nat) (f : DE) (fs : DEs) (Φ : Fn) : DE := fun ρ μ => (f ρ μ).bind fun x μ1 => match vw μ1 x with
  | .ins c' _ => if c' = c then (fs ρ μ1).bind fun xs μ2 => Φ (x :: xs) μ2 else .bad
  | _ => .bad
/-- C(..): the new cell; b: it may change from then on -/
def dMake (b : Bool) (c : Nat) (fs : DEs) (Φ : Fn) : DE := fun ρ μ => (fs ρ μ).bind fun xs μ1 => (Φ (.ref μ1.length :: xs) (μ1 ++ [.ins c []])).bind fun d μ2 => match d with
  | .non => if b then .ok (.ref μ1.length) μ2 else (match μ2[μ1.length]? with
    | some (.ins c' fs') => .ok (.ins c' fs') (μ2.set μ1.length (.fz (.ins c' fs')))
    | _ => .bad)
  | _ => .bad
section
variable {X : Cx} {ct : Nat → Addr × List Str} {pos p : Pos} {x nm : Str} {e o value : Expr} {es : List Expr} {f h : DE} {fs : DEs} {Φ : Fn} {fa : Addr} {fd : FuncData} {ps : List Str} {k n c : Nat}
theorem de_fld (C : ClsD X.K ct c) (hk : (ct c).2[k]? = some nm) (he : PE X o (tE (zx X ct) f)) (hb : attributeBase o nm X.env (eval o X.env) = eval o X.env := by rfl) : PE X (.Attribute o nm pos) (tE (zx X ct) (dFld c k f)) := by
  refine pe_imp (pe_fld he hb) fun σ H Q q => ?_
  obtain ⟨F, m, ρ, μ, d, μ', W, r, e1, kk⟩ := q
  refine tE_bind W r e1 fun x μ1 v F1 m1 H1 e2 x1 W1 r1 rx => ?_
  split at e2
  · rename_i c' fs hc
    split at e2
    · rename_i hcc
      subst hcc
      obtain ⟨e3, rfl⟩ := of_inv e2
      obtain ⟨a, dx, vs, rfl, hH, rs, hl⟩ := vw_ins W1 rx hc
      obtain ⟨u, hu, ru⟩ := rs.get e3
      exact ⟨a, _, dx, _, u, rfl, hH, C.cl, C.no _ (List.mem_of_getElem? hk), zip_lookup C.nd hk hu, (kk.weak x1 W1).here W1 ru⟩
    · cases e2
  · cases e2
theorem ds_fld {pos' : Pos} (C : ClsD X.K ct c) (hk : (ct c).2[k]? = some nm) (ho : PE X o (tE (zx X ct) h)) (hv : PE X value (tE (zx X ct) f)) (hs : swapsWith value (some (.Attribute o nm pos')) pos.line X.env = pure false := by rfl) : PS X (.Assign [.Attribute o nm pos'] value pos) (tS (zx X ct) (sFldD c k h f)) := by
  refine ps_imp (ps_fld ho hv hs) fun D σ H q => ?_
  obtain ⟨F, m, ρ, μ, W, r, kk⟩ := q
  refine tE_out W r kk fun d μ1 v F1 m1 H1 k1 x1 W1 r1 rd => ?_
  refine tE_out W1 r1 k1 fun y μ2 u F2 m2 H2 k2 x2 W2 r2 ry => ?_
  split at k2
  · rename_i n
    obtain ⟨a, cl, rfl, h1, h2, ck⟩ := W2.at ry
    rw [h2] at k2
    cases cl with
    | ins c' fs =>
      simp only at k2
      split at k2
      · rename_i hcc
        subst hcc
        obtain ⟨nF, dx, vs, hH, rs, hl⟩ := ck
        have hlen := rs.length
        have rd2 := Rl.gr x2.gr _ _ rd
        have few : ((ct c').2.zip vs).length < 1000 := by
          have := C.few
          rw [List.length_zip]
          omega
        refine ⟨a, _, dx, _, rfl, hH, C.cl, C.no _ (List.mem_of_getElem? hk), few, ?_⟩
        split at k2
        · rename_i hlt
          rw [zip_put C.nd hk (by omega)]
          obtain ⟨W3, x3⟩ := W2.write (o := .ins (ct c').1 dx ((ct c').2.zip (vs.set k v))) (.ins c' (fs.set k d)) h1 nF ⟨nF, dx, _, upd_same, rs.set k rd2, by rw [List.length_set]; exact hl⟩
          exact k2 σ F2 m2 _ x3 W3 r2
        · split at k2
          · rename_i heq
            have hkl : k < (ct c').2.length := (List.getElem?_eq_some_iff.mp hk).1
            rw [zip_new C.nd (by rw [hlen, ← heq]; exact hk)]
            obtain ⟨W3, x3⟩ := W2.write (o := .ins (ct c').1 dx ((ct c').2.zip (vs ++ [v]))) (.ins c' (fs ++ [d])) h1 nF ⟨nF, dx, _, upd_same, rs.append (.one rd2), by rw [List.length_append, List.length_singleton, hlen]; show fs.length + 1 ≤ (ct c').2.length; omega⟩
            exact k2 σ F2 m2 _ x3 W3 r2
          · exact k2.elim
      · exact k2.elim
    | _ => exact k2.elim
  · exact k2.elim
theorem de_meth {pl : Sem Bool} {apos : Pos} (C : ClsD X.K ct c) (hm : Meth X.K (ct c).1 nm fa) (hno : nm ∉ (ct c).2) (G : FnOk X.prog X.w X.K X.mg X.base CX0 k fa fd ps (spG (zx X ct) n Φ)) (hl : (e :: es).length + 1 = n) (hr : Room k X.A) (hb : Binds X.K fd ps [])
    (ho : PE X o (tE (zx X ct) f)) (ha : PA X (e :: es) (tA (zx X ct) fs)) (hfs : ∀ ρ μ xs μ', fs ρ μ = .ok xs μ' → xs.length = (e :: es).length)
    (hst : starEach (e :: es) X.env = (false, eval e X.env) :: starEach es X.env := by rfl) (hpl : (backTo pos (starEach es X.env)).any (·.1) = false := by rfl)
    (ht : eval (.Call (.Attribute o nm apos) (e :: es) [] pos) X.env = (do
      let ov ← eval o X.env
      standAt apos.atName
      let (f, first) ← holding [ov] (getMethod ov nm pl)
      callWith pos f first (backTo pos (starEach (e :: es) X.env)) (backToKw pos (keywordEach [] X.env))) := by rfl) : PE X (.Call (.Attribute o nm apos) (e :: es) [] pos) (tE (zx X ct) (dMeth c f fs Φ)) := by
  refine pe_imp (pe_meth (E := E0) ho C.cl hm G hr hb .nil pass0 ha hst hpl ht) fun σ H Q q => ?_
  obtain ⟨F, m, ρ, μ, d, μ', W, r, e1, kk⟩ := q
  refine tE_bind W r e1 fun x μ1 v F1 m1 H1 e2 x1 W1 r1 rx => ?_
  split at e2
  · rename_i c' fs' hc
    split at e2
    · rename_i hcc
      subst hcc
      obtain ⟨xs, μ2, e3, e4⟩ := bind_inv e2
      obtain ⟨a, dx, vs, rfl, hH, rs, _⟩ := vw_ins W1 rx hc
      refine ⟨a, dx, _, rfl, hH, zip_none hno, F1, m1, ρ, μ1, xs, μ2, W1, r1, e3, fun us F2 m2 H2 x2 W2 ru => ?_⟩
      show spG _ _ _ (_ :: (us ++ [])) _ _ _
      rw [List.append_nil]
      exact ⟨by simp only [List.length_cons]; rw [ru.length, hfs _ _ _ _ e3]; exact hl, F2, m2, μ2, _, d, μ', W2, .cons (Rl.gr x2.gr _ _ rx) ru, e4, (kk.weak x1 W1).weak x2 W2⟩
    · cases e2
  · cases e2
theorem de_meth0 {pl : Sem Bool} {apos : Pos} (C : ClsD X.K ct c) (hm : Meth X.K (ct c).1 nm fa) (hno : nm ∉ (ct c).2) (G : FnOk X.prog X.w X.K X.mg X.base CX0 k fa fd ps (spG (zx X ct) 1 Φ)) (hr : Room k X.A) (hb : Binds X.K fd ps [])
    (ho : PE X o (tE (zx X ct) f))
    (ht : eval (.Call (.Attribute o nm apos) [] [] pos) X.env = (do
      let ov ← eval o X.env
      standAt apos.atName
      let (f, first) ← holding [ov] (getMethod ov nm pl)
      callWith pos f first (backTo pos (starEach [] X.env)) (backToKw pos (keywordEach [] X.env))) := by rfl) : PE X (.Call (.Attribute o nm apos) [] [] pos) (tE (zx X ct) (dMeth c f dNil Φ)) := by
  refine pe_imp (pe_meth0 (E := E0) ho C.cl hm G hr hb .nil pass0 ht) fun σ H Q q => ?_
  obtain ⟨F, m, ρ, μ, d, μ', W, r, e1, kk⟩ := q
  refine tE_bind W r e1 fun x μ1 v F1 m1 H1 e2 x1 W1 r1 rx => ?_
  split at e2
  · rename_i c' fs' hc
    split at e2
    · rename_i hcc
      subst hcc
      obtain ⟨xs, μ2, e3, e4⟩ := bind_inv e2
      cases e3
      obtain ⟨a, dx, vs, rfl, hH, rs, _⟩ := vw_ins W1 rx hc
      exact ⟨a, dx, _, rfl, hH, zip_none hno, rfl, F1, m1, μ1, _, d, μ', W1, .one rx, e4, kk.weak x1 W1⟩
    · cases e2
  · cases e2
theorem de_make (bb : Bool) (C : ClsD X.K ct c) (M : Mk X.K (ct c).1 fa) (G : FnOk X.prog X.w X.K X.mg X.base CX0 k fa fd ps (spG (zx X ct) n Φ)) (hl : (e :: es).length + 1 = n) (hr : Room (k + 1) X.A) (hm : X.mg x = some (.ref (ct c).1)) (hb : Binds X.K fd ps [])
    (ha : PA X (e :: es) (tA (zx X ct) fs)) (hfs : ∀ ρ μ xs μ', fs ρ μ = .ok xs μ' → xs.length = (e :: es).length) (hg : Gl X x := by rfl) (hdb : (x == ("__debug__" : Str)) = false := by decide)
    (he : starEach (e :: es) X.env = (false, eval e X.env) :: starEach es X.env := by rfl) (hpl : (backTo pos (starEach es X.env)).any (·.1) = false := by rfl) : PE X (.Call (.Name x p) (e :: es) [] pos) (tE (zx X ct) (dMake bb c fs Φ)) := by
  refine pe_imp (pe_make (E := E0) M G hr hg hm hb .nil pass0 ha hdb he hpl) fun σ H Q q => ?_
  obtain ⟨F, m, ρ, μ, d, μ', W, r, e1, kk⟩ := q
  obtain ⟨xs, μ1, e2, e3⟩ := bind_inv e1
  refine ⟨F, m, ρ, μ, xs, μ1, W, r, e2, fun vs F1 m1 H1 x1 W1 rs => ?_⟩
  intro y dx ny ndx ne
  show spG _ _ _ (_ :: (vs ++ [])) _ _ _
  rw [List.append_nil]
  obtain ⟨z, μ2, e4, e5⟩ := bind_inv e3
  have nd' : (upd H1 dx (.own y)) y = none := by rw [upd_ne (Ne.symm ne)]; exact ny
  -- the dict of the instance is told of by nobody
  have nF : F1 dx = none := by
    cases q : F1 dx with
    | none => rfl
    | some u => rw [W1.le _ _ q] at ndx; cases ndx
  have W1' := W1.hidden (fun z => W1.there dx z ndx) nF (.own y)
  have xd : Xt F1 m1 H1 F1 m1 (upd H1 dx (.own y)) := (Xt.refl _ _ _).hidden ndx _
  have nFy : F1 y = none := by
    cases q : F1 y with
    | none => rfl
    | some u => rw [W1.le _ _ q] at ny; cases ny
  obtain ⟨W2, x2⟩ := W1'.cellNew (p := y) (o := .ins (ct c).1 dx []) (.ins c []) nd' ⟨nFy, dx, [], by rw [upd_same]; simp, .nil, Nat.zero_le _⟩
  have hy : (m1 ++ [y])[μ1.length]? = some y := by rw [← W1.len]; simp
  refine ⟨by simp only [List.length_cons]; rw [rs.length, hfs _ _ _ _ e2]; exact hl, F1, m1 ++ [y], μ1 ++ [.ins c []], _, z, μ2, W2, .cons (by simp only [Rl]; exact ⟨y, rfl, hy⟩) (Rls.gr x2.gr _ _ rs), e4, fun v F3 m3 H3 x3 W3 r3 => ?_⟩
  have xall := (xd.trans x2 W1'.there).trans x3 W2.there
  split at e5
  · simp only [Rl] at r3
    refine ⟨r3, ?_⟩
    have hy3 : m3[μ1.length]? = some y := x3.gr.mm _ _ hy
    split at e5
    · cases e5
      exact (kk.weak x1 W1) _ _ _ _ xall W3 (by simp only [Rl]; exact ⟨y, rfl, hy3⟩)
    · split at e5
      · rename_i c' fs' hc'
        cases e5
        have ck := W3.cell _ _ _ hy3 hc'
        obtain ⟨nF3, dx3, us, hH3, ru, hl3⟩ := ck
        have rI : Rl (zx X ct) (upd F3 y (.ins (ct c').1 dx3 ((ct c').2.zip us))) m3 (.ins c' fs') (.ref y) := by
          simp only [Rl]
          exact ⟨y, dx3, us, rfl, upd_same, Rls.gr (upd_gr nF3) _ _ ru, hl3⟩
        obtain ⟨W4, x4⟩ := W3.freeze (H' := H3) (.ins c' fs') hy3 nF3 rfl (fun _ _ _ e => e) (fun _ _ _ e => e) hH3 rI
        exact (kk.weak x1 W1) _ _ _ _ (xall.trans x4 W3.there) W4 rI
      · cases e5
  · cases e5
end
end SB
set_option Elab.async false
set_option linter.all false
set_option maxRecDepth 100000
namespace SB
open PySem L2
def setIxD (o i v : D) (μ : Mu) : Option Mu := match o with
  | .ref n => match μ[n]? with
    | some (.lst xs) => match vw μ i with
      | .int k => (ixN xs.length k).map fun j => μ.set n (.lst (xs.set j v))
      | _ => none
    | some (.dic es) => if kfits es i && decide (es.length < sizeLine) then some (μ.set n (.dic (dput es i v))) else none
    | _ => none
  | _ => none
/-- o[i] = e: the value first -/
def sSub (o i f : DE) : DS := fun ρ μ => (f ρ μ).out fun v μ1 => (o ρ μ1).out fun x μ2 => (i ρ μ2).out fun y μ3 => match setIxD x y v μ3 with
  | some μ4 => .nx ρ μ4
  | none => .bad
def rSetDic (X : Cx) (ct : Nat → Addr × List Str) : TSet := fun o i v H Q => ∃ F m μ es k d a u, Wd (zx X ct) F m μ H ∧ o = .ref a ∧ H a = some u ∧ Mut (some u) ∧ Rlu (zx X ct) F m a es u ∧ Rl (zx X ct) F m k i ∧ Rl (zx X ct) F m d v ∧ kfits es k = true ∧ es.length < sizeLine ∧
  ∀ u', Mut (some u') → Rlu (zx X ct) F m a (dput es k d) u' → Q (upd H a u')
theorem set_dic {X : Cx} (ct : Nat → Addr × List Str) (hu : X.A.units + 9 < cLine) : PSet X (rSetDic X ct) := by
  intro pins s σ H o i v ov iv u Q I ro ri rv h
  obtain ⟨F, m, μ, es, k, d, a, w, W, rfl, e, mu, rw', rk, rd, ft, hl, q⟩ := h
  cases ro
  exact D_setItem hu I W e mu rw' rk ri rd rv ft hl fun u' s' I' mu' r' => ⟨_, I', q u' mu' r'⟩
theorem pset_or {X : Cx} {r r' : TSet} (h : PSet X r) (h' : PSet X r') : PSet X (fun o i v H Q => r o i v H Q ∨ r' o i v H Q) := by
  intro pins s σ H o i v ov iv u Q I ro ri rv q
  rcases q with q | q
  · exact h pins s σ H o i v ov iv u Q I ro ri rv q
  · exact h' pins s σ H o i v ov iv u Q I ro ri rv q
theorem mut_of {Z : Zx} {F : Hp} {m : List Addr} {a : Addr} {es : List (D × D)} {u : HO} (r : Rlu Z F m a es u) : Mut (some u) := by
  rcases r with ⟨ks, rfl, _⟩ | ⟨ns, rfl, _⟩
  · exact True.intro
  · exact True.intro
section
variable {X : Cx} {ct : Nat → Addr × List Str} {pos p2 : Pos} {e o i value : Expr} {f fo fi : DE}
theorem ds_sub (hu : X.A.units + 9 < cLine) (ho : PE X o (tE (zx X ct) fo)) (hi : PE X i (tE (zx X ct) fi)) (hv : PE X value (tE (zx X ct) f))
    (ha : ∀ v, assign (.Subscript o i p2) X.env v = (do
      let ov ← holding [v] (eval o X.env)
      let iv ← holding [v, ov] (eval i X.env)
      standAt p2
      holding [v, ov, iv] (setItem ov iv v)
      release [v, ov, iv] []) := by intro _; rfl)
    (hs : swapsWithSole [.Subscript o i p2] value pos.line X.env = pure false := by rfl) (hw : swappedStores [.Subscript o i p2] value X.env = pure none := by rfl)
    (h1 : (assignEach [.Subscript o i p2] X.env).map (·.2) = [assign (.Subscript o i p2) X.env] := by rfl) : PS X (.Assign [.Subscript o i p2] value pos) (tS (zx X ct) (sSub fo fi f)) := by
  refine ps_imp (ps_asg hv (pg_sub ho hi (pset_or set_list (set_dic ct hu)) ha) hs hw h1) fun D σ H q => ?_
  obtain ⟨F, m, ρ, μ, W, r, k⟩ := q
  refine tE_out W r k fun v μ1 vv F1 m1 H1 k1 x1 W1 r1 rv => ?_
  refine tE_out W1 r1 k1 fun x μ2 xv F2 m2 H2 k2 x2 W2 r2 rx => ?_
  refine tE_out W2 r2 k2 fun y μ3 yv F3 m3 H3 k3 x3 W3 r3 ry => ?_
  have rv3 := Rl.gr x3.gr _ _ (Rl.gr x2.gr _ _ rv)
  have rx3 := Rl.gr x3.gr _ _ rx
  cases e : setIxD x y v μ3 with
  | none => rw [e] at k3; exact k3.elim
  | some μ4 =>
    rw [e] at k3
    simp only at k3
    unfold setIxD at e
    split at e
    · rename_i n
      obtain ⟨a, c, rfl, h1, h2, ck⟩ := W3.at rx3
      rw [h2] at e
      cases c with
      | lst xs =>
        simp only at e
        split at e
        · rename_i kk hk
          obtain ⟨j, hj, rfl⟩ := Option.map_eq_some_iff.mp e
          obtain ⟨nF, vs, hH, rs⟩ := ck
          obtain ⟨W4, x4⟩ := W3.write (o := .lst (vs.set j vv)) (.lst (xs.set j v)) h1 nF ⟨nF, _, upd_same, rs.set j rv3⟩
          exact .inl ⟨a, vs, kk, j, rfl, vw_int W3 ry hk, hH, by rw [rs.length]; exact hj, k3 σ F3 m3 _ x4 W4 r3⟩
        · cases e
      | dic es =>
        simp only at e
        split at e
        · rename_i hc
          cases e
          simp only [Bool.and_eq_true, decide_eq_true_eq] at hc
          obtain ⟨nF, u, hH, ru⟩ := ck
          refine .inr ⟨F3, m3, μ3, es, y, v, a, u, W3, rfl, hH, mut_of ru, ru, ry, rv3, hc.1, hc.2, fun u' mu' r' => ?_⟩
          obtain ⟨W4, x4⟩ := W3.write (o := u') (.dic (dput es y v)) h1 nF ⟨nF, u', upd_same, r'⟩
          exact k3 σ F3 m3 _ x4 W4 r3
        · cases e
      | _ => cases e
    · cases e
theorem de_met {T id : String} {nm : Str} {apos : Pos} {es : List Expr} {fs : DEs} {g : D → List D → Mu → Res D} {kd : D → Mu → Bool} {r : V → List V → Hp → VK → Prop} (pa : PlainAttrs T) (slot : Slot T nm id) (hty : typeOf (.builtin id) = pure (.type "method_descriptor")) (hm : MtR X id r)
    (ty : ∀ F m μ H a x, Wd (zx X ct) F m μ H → Rl (zx X ct) F m a x → kd a μ = true → tyV X.K T x H) (s : MetS X ct T r g) (ho : PE X o (tE (zx X ct) fo)) (ha : PA X (e :: es) (tA (zx X ct) fs))
    (hbase : attributeBase o nm X.env (eval o X.env) = eval o X.env := by rfl)
    (hfew : ((backTo pos (starEach (e :: es) X.env)).all (fun x => !x.1) && (backToKw pos (keywordEach [] X.env)).all (fun x => x.1.isSome)
      && decide ((e :: es).length + ([] : List Keyword).length + (if ([] : List Keyword).isEmpty then 0 else 1) < 30)) = true := by rfl)
    (hline : (apos.endLine == pos.line) = true := by rfl) (hs : starEach (e :: es) X.env = (false, eval e X.env) :: starEach es X.env := by rfl) (hplain : (backTo pos (starEach es X.env)).any (·.1) = false := by rfl) :
    PE X (.Call (.Attribute o nm apos) (e :: es) [] pos) (tE (zx X ct) (dMet fo kd fs g)) := by
  refine pe_imp (pe_bm pa slot hty hm ho ha hbase hfew hline hs hplain) fun σ H Q q => ?_
  obtain ⟨F, m, ρ, μ, d, μ', W, r0, e1, k⟩ := q
  refine tE_bind W r0 e1 fun x μ1 v F1 m1 H1 e2 x1 W1 r1 rx => ?_
  split at e2
  · rename_i hk
    refine ⟨ty _ _ _ _ _ _ W1 rx hk, ?_⟩
    refine tA_bind W1 r1 e2 fun xs μ2 vs F2 m2 H2 e3 x2 W2 r2 rs => ?_
    exact s F2 m2 μ2 H2 x xs v vs d μ' Q W2 (Rl.gr x2.gr _ _ rx) rs e3 ((k.weak x1 W1).weak x2 W2)
  · cases e2
theorem ty_list : ∀ F m μ H a x, Wd (zx X ct) F m μ H → Rl (zx X ct) F m a x → isLst a μ = true → tyV X.K "list" x H := by
  intro F m μ H a x W r h
  unfold isLst at h
  cases q : seqL (vw μ a) with
  | none => rw [q] at h; cases h
  | some xs =>
    obtain ⟨l, vs, rfl, hl, _⟩ := vw_seq W r q
    exact .inl ⟨rfl, vs, hl⟩
/-- xs.append(y) -/
def meApp (x : D) (ds : List D) (μ : Mu) : Res D := match x, ds with
  | .ref n, [d] => match μ[n]? with
    | some (.lst xs) => if xs.length < sizeLine then .ok .non (μ.set n (.lst (xs ++ [d]))) else .bad
    | _ => .bad
  | _, _ => .bad
theorem ms_app : MetS X ct "list" rAppend meApp := by
  intro F m μ H a ds x vs d μ' Q W ra rs e k
  unfold meApp at e
  split at e
  · rename_i n d0
    obtain ⟨l, c, rfl, h1, h2, ck⟩ := W.at ra
    rw [h2] at e
    cases c with
    | lst xs =>
      simp only at e
      split at e
      · rename_i hl
        cases e
        obtain ⟨nF, us, hH, ru⟩ := ck
        simp only [Rls] at rs
        obtain ⟨v, _, rfl, rv, rfl⟩ := rs
        refine ⟨l, us, v, rfl, rfl, hH, by rw [ru.length]; exact hl, ?_⟩
        obtain ⟨W2, x2⟩ := W.write (o := .lst (us ++ [v])) (.lst (xs ++ [d0])) h1 nF ⟨nF, _, upd_same, ru.append (.one rv)⟩
        exact k _ _ _ _ x2 W2 (by simp only [Rl])
      · cases e
    | _ => cases e
  · cases e
/-- xs.pop() -/
def mePop (x : D) (ds : List D) (μ : Mu) : Res D := match x, ds with
  | .ref n, [] => match μ[n]? with
    | some (.lst xs) => match xs[xs.length - 1]? with
      | some d => .ok d (μ.set n (.lst xs.dropLast))
      | none => .bad
    | _ => .bad
  | _, _ => .bad
/-- xs.clear() -/
def meClear (x : D) (ds : List D) (μ : Mu) : Res D := match x, ds with
  | .ref n, [] => match μ[n]? with
    | some (.lst _) => .ok .non (μ.set n (.lst []))
    | _ => .bad
  | _, _ => .bad
def frz1 (d : D) (μ : Mu) : Res D := match d with
  | .ref n => match μ[n]? with
    | some (.lst xs) => .ok (.lst xs) (μ.set n (.fz (.lst xs)))
    | some (.dic es) => .ok (.dic es) (μ.set n (.fz (.dic es)))
    | some (.ins c fs) => .ok (.ins c fs) (μ.set n (.fz (.ins c fs)))
    | some (.fz d) => .ok d μ
    | none => .bad
  | d => .ok d μ
def dFrz (f : DE) : DE := fun ρ μ => (f ρ μ).bind frz1
def dDnil : DE := fun _ μ => .ok (.ref μ.length) (μ ++ [.dic []])
theorem de_dnil : PE X (.Dict [] [] pos) (tE (zx X ct) dDnil) := by
  refine pe_imp pe_dnewK fun σ H Q q => ?_
  obtain ⟨F, m, ρ, μ, d, μ', W, r, e1, k⟩ := q
  cases e1
  intro p n
  have nF : F p = none := by
    cases q : F p with
    | none => rfl
    | some u => rw [W.le _ _ q] at n; cases n
  obtain ⟨W2, x2⟩ := W.cellNew (o := .dK []) (.dic []) n ⟨nF, _, upd_same, .inl ⟨[], rfl, by simp only [Rlk]⟩⟩
  exact k _ _ _ _ x2 W2 (by simp only [Rl]; exact ⟨p, rfl, by rw [← W.len]; simp⟩)
/-- d.get(k) -/
def dGet (f g : DE) : DE := fun ρ μ => (f ρ μ).bind fun x μ1 => if isDic x μ1 then (g ρ μ1).bind fun y μ2 => match vw μ2 x with
  | .dic es => if kfits es y then .ok ((dget es y).getD .non) μ2 else .bad
  | _ => .bad else .bad
theorem de_get {apos : Pos} {a : Expr} (hu : X.A.units + 9 < cLine) (ho : PE X o (tE (zx X ct) fo)) (ha : PE X a (tE (zx X ct) fi)) (m1 : M1 X o "get" apos a pos) : PE X (.Call (.Attribute o "get" apos) [a] [] pos) (tE (zx X ct) (dGet fo fi)) := by
  refine ⟨fun pins s σ H Q I q => ?_⟩
  obtain ⟨F, m, ρ, μ, d, μ', W, r, e1, k⟩ := q
  obtain ⟨x, μ1, e2, e3⟩ := bind_inv e1
  refine wpAny_Call_method m1.base m1.few m1.line PySem.F.plainAttrs_dict PySem.F.slot_dict_get PySem.F.type_dict_get ?_
  refine thn (ho.run pins s σ H (fun v H1 => ∃ F1 m1, Xt F m H F1 m1 H1 ∧ Wd (zx X ct) F1 m1 μ1 H1 ∧ Rl (zx X ct) F1 m1 x v) I ⟨F, m, ρ, μ, x, μ1, W, r, e2, fun v F1 m1 H1 x1 W1 rx => ⟨F1, m1, x1, W1, rx⟩⟩) fun u s1 ⟨v, H1, I1, rv, F1, m2, x1, W1, rx⟩ => ?_
  split at e3
  · rename_i hd
    obtain ⟨y, μ2, e4, e5⟩ := bind_inv e3
    have hes : ∃ es, vw μ1 x = .dic es := by
      unfold isDic at hd
      split at hd
      · rename_i es h; exact ⟨es, h⟩
      · cases hd
    obtain ⟨es, hes⟩ := hes
    obtain ⟨l, w, rfl, hR, ru⟩ := vw_dic W1 rx hes
    cases rv
    obtain ⟨t1, t2⟩ := rd_dict I1 W1 hR ru
    refine ⟨t1, t2, ?_⟩
    rw [m1.trees]
    refine Calls.callWith_builtin rfl (Calls.evalArgs_plain (Calls.spliced_cons (thn (ha.run pins s1 σ H1 (fun v H2 => ∃ F2 m3, Xt F1 m2 H1 F2 m3 H2 ∧ Wd (zx X ct) F2 m3 μ2 H2 ∧ Rl (zx X ct) F2 m3 y v) I1 ⟨F1, m2, ρ, μ1, y, μ2, W1, r.gr x1.gr, e4, fun v F2 m3 H2 x2 W2 ry => ⟨F2, m3, x2, W2, ry⟩⟩) fun iv s2 ⟨yv, H2, I2, ryv, F2, m3, x2, W2, ry⟩ => Calls.spliced_nil ?_)))
    split at e5
    · rename_i es2 hes2
      split at e5
      · rename_i ft
        cases e5
        obtain ⟨l2, w2, hl2, hR2, ru2⟩ := vw_dic W2 (Rl.gr x2.gr _ _ rx) hes2
        cases hl2
        exact D_get1 hu I2 W2 hR2 ru2 ry ryv ft fun v w' s3 I3 rw' rl => ⟨v, H2, I3, rw', ((k.weak x1 W1).weak x2 W2).here W2 rl⟩
      · cases e5
    · cases e5
  · cases e3
end
end SB
set_option Elab.async false
set_option linter.all false
set_option maxRecDepth 100000
namespace SB
open PySem L2
def sAug (i : Nat) (f : DE) (k : D → D → Mu → Res D) : DS := fun ρ μ => match ρ[i]? with
  | some (some x) => (f ρ μ).out fun y μ1 => (k x y μ1).out fun z μ2 => .nx (ρ.set i (some z)) μ2
  | _ => .bad
def opAddI (x y : D) (μ : Mu) : Res D := match vw μ x, vw μ y with
  | .int i, .int j => .ok (.int (i + j)) μ
  | _, _ => .bad
def sBad : DS := fun _ _ => .bad
/-- * of ints; of a list and an int -/
def opMulA (b : Bool) (x y : D) (μ : Mu) : Res D := match vw μ x with
  | .lst _ => opRep b x y μ
  | _ => opMul x y μ
def rMulA : R2 := fun x y H Q => (rI CMulX fun i j => .int (i * j)) x y H Q ∨ rRep x y H Q
theorem op_mulA {X : Cx} : OpR X (binaryOp .Mult) rMulA := op_mulX.or op_rep
theorem os_mulA {Z : Zx} (bb : Bool) : OpS Z rMulA (opMulA bb) := by
  intro F m μ H a b x y d μ' Q W ra rb e k
  unfold opMulA at e
  split at e
  · exact .inr (os_rep bb F m μ H a b x y d μ' Q W ra rb e k)
  · exact .inl (os_mul F m μ H a b x y d μ' Q W ra rb e k)
def tyName : D → Option String
  | .non => some "NoneType"
  | .bl _ => some "bool"
  | .int _ => some "int"
  | .str _ => some "str"
  | .tup _ => some "tuple"
  | .lst _ => some "list"
  | _ => none
def isTy (T : String) (d : D) : Option Bool := (tyName d).bind fun a => kitB a T
def dIsi (T : String) (f : DE) : DE := fun ρ μ => (f ρ μ).bind fun x μ1 => match isTy T (vw μ1 x) with
  | some b => .ok (.bl b) μ1
  | none => .bad
section
variable {X : Cx} {ct : Nat → Addr × List Str} {pos p p2 : Pos} {e a : Expr} {f fo fi : DE} {st : Stmt}
theorem ds_never {g : DS} (h : ∀ ρ μ, g ρ μ = .bad) : PS X st (tS (zx X ct) g) := ps_imp ps_never fun D σ H q => by
  obtain ⟨F, m, ρ, μ, W, r, k⟩ := q
  rw [h] at k
  exact k
theorem ds_aug {i : Nat} {x : Str} (hN : X.N.Nodup) (hi : X.N[i]? = some x) (hx : Loc X.env.scope x) (he : PE X e (tE (zx X ct) f)) (hf : X.fn x = true ∨ X.env.scope.names.lookup x = some .local := by first | exact .inl rfl | exact .inr rfl | assumption) :
    PS X (.AugAssign (.Name x p) .Add e pos) (tS (zx X ct) (sAug i f opAddI)) := by
  refine ps_imp (ps_aug hN hi hx he ip_add hf) fun D σ H q => ?_
  obtain ⟨F, m, ρ, μ, W, r, k⟩ := q
  unfold sAug at k
  split at k
  · rename_i d hd
    obtain ⟨v, hv, rv⟩ := r.2 i d hd
    refine ⟨v, hv, tE_out W r k fun y μ1 u F1 m1 H1 k1 x1 W1 r1 ry => ?_⟩
    have rv1 := Rl.gr x1.gr _ _ rv
    cases ek : opAddI d y μ1 with
    | bad => rw [ek] at k1; exact k1.elim
    | ok z μ2 =>
      rw [ek] at k1
      unfold opAddI at ek
      split at ek
      · rename_i p q hp hq
        cases ek
        exact ⟨p, q, vw_int W1 rv1 hp, vw_int W1 ry hq, k1 _ F1 m1 H1 (Xt.refl _ _ _) W1 (r1.set i (by simp only [Rl]))⟩
      · cases ek
  · exact k.elim
def strsOf : List D → Option (List Str)
  | [] => some []
  | .str b :: r => (strsOf r).map (b :: ·)
  | _ => none
theorem strsOf_rls {Z : Zx} {F : Hp} {m : List Addr} : ∀ {xs : List D} {bs : List Str} {vs : List V}, strsOf xs = some bs → Rls Z F m xs vs → vs = bs.map V.str
  | [], bs, vs, e, r => by simp only [strsOf] at e; cases e; simpa only [Rls, List.map_nil] using r
  | d :: xs, bs, vs, e, r => by
    simp only [Rls] at r
    obtain ⟨v, r', rfl, h1, h2⟩ := r
    cases d <;> simp only [strsOf] at e <;> first | (cases e; done) | skip
    rename_i b
    obtain ⟨bs', e', rfl⟩ := Option.map_eq_some_iff.mp e
    simp only [Rl] at h1
    rw [h1, strsOf_rls e' h2]
    rfl
def dJoin (fo fi : DE) : DE := fun ρ μ => (fo ρ μ).bind fun x μ1 => match vw μ1 x with
  | .str a => (fi ρ μ1).bind fun y μ2 => match seqL (vw μ2 y) with
    | some ds => match strsOf ds with
      | some ys => if (ys.map (·.length)).sum + ys.length * a.length ≤ 16777216 then .ok (.str (Txt.join a ys)) μ2 else .bad
      | none => .bad
    | none => .bad
  | _ => .bad
theorem de_join {apos : Pos} (ho : PE X e (tE (zx X ct) fo)) (ha : PE X a (tE (zx X ct) fi)) (hs : starEach [a] X.env = [(false, eval a X.env)] := by rfl) (hbase : attributeBase e "join" X.env (eval e X.env) = eval e X.env := by rfl) (hline : (apos.endLine == pos.line) = true := by rfl) :
    PE X (.Call (.Attribute e "join" apos) [a] [] pos) (tE (zx X ct) (dJoin fo fi)) := by
  refine pe_imp (pe_join ho ha hs hbase hline) fun σ H Q q => ?_
  obtain ⟨F, m, ρ, μ, d, μ', W, r, e1, k⟩ := q
  refine tE_bind W r e1 fun x μ1 v F1 m1 H1 e2 x1 W1 r1 rx => ?_
  split at e2
  · rename_i sep hsep
    refine ⟨⟨sep, vw_str W1 rx hsep⟩, ?_⟩
    refine tE_bind W1 r1 e2 fun y μ2 u F2 m2 H2 e3 x2 W2 r2 ry => ?_
    split at e3
    · rename_i ds hds
      split at e3
      · rename_i ys hys
        split at e3
        · rename_i hl
          cases e3
          obtain ⟨l, vs, rfl, hq, rs⟩ := vw_seq W2 ry hds
          rw [strsOf_rls hys rs] at hq
          exact ⟨sep, l, ys, vw_str W1 rx hsep, rfl, .inl hq, hl, ((k.weak x1 W1).weak x2 W2).here W2 (by simp only [Rl])⟩
        · cases e3
      · cases e3
    · cases e3
  · cases e2
end
structure Cal (P : Program) (w : World) (K : PySem.W.Frag) (mg : Str → Option Value) (base : Heap) (Z : Zx) (x : Str) (k n : Nat) (Φ : Fn) : Prop where
  ex : ∃ (fa : Addr) (fd : FuncData) (ps : List Str), FnOk P w K mg base CX0 k fa fd ps (spG Z n Φ) ∧ ps.length = n ∧ mg x = some (.ref fa) ∧ PySem.W.keepIn K (.ref fa) = true ∧ Binds K fd ps []
/-- a method -/
structure CalM (P : Program) (w : World) (K : PySem.W.Frag) (mg : Str → Option Value) (base : Heap) (Z : Zx) (c : Nat) (x : Str) (k n : Nat) (Φ : Fn) : Prop where
  ex : ∃ (fa : Addr) (fd : FuncData) (ps : List Str), FnOk P w K mg base CX0 k fa fd ps (spG Z n Φ) ∧ Meth K (Z.ct c).1 x fa ∧ Binds K fd ps []
  no : x ∉ (Z.ct c).2
/-- a class made -/
structure CalK (P : Program) (w : World) (K : PySem.W.Frag) (mg : Str → Option Value) (base : Heap) (Z : Zx) (c : Nat) (x : Str) (k n : Nat) (Φ : Fn) : Prop where
  ex : ∃ (fa : Addr) (fd : FuncData) (ps : List Str), FnOk P w K mg base CX0 k fa fd ps (spG Z n Φ) ∧ Mk K (Z.ct c).1 fa ∧ mg x = some (.ref (Z.ct c).1) ∧ Binds K fd ps []
section
variable {X : Cx} {ct : Nat → Addr × List Str} {pos p : Pos} {x nm : Str} {e o : Expr} {es : List Expr} {f : DE} {fs : DEs} {Φ : Fn} {k j n c : Nat}
theorem de_cal (C : Cal X.prog X.w X.K X.mg X.base (zx X ct) x k n Φ) (hr : Room j X.A) (hj : k ≤ j) (hl : (e :: es).length = n) (ha : PA X (e :: es) (tA (zx X ct) fs)) (hfs : ∀ ρ μ xs μ', fs ρ μ = .ok xs μ' → xs.length = (e :: es).length) (hg : Gl X x := by rfl)
    (hdb : (x == ("__debug__" : Str)) = false := by decide) (he : starEach (e :: es) X.env = (false, eval e X.env) :: starEach es X.env := by rfl) (hpl : (backTo pos (starEach es X.env)).any (·.1) = false := by rfl) : PE X (.Call (.Name x p) (e :: es) [] pos) (tE (zx X ct) (dCall fs Φ)) := by
  obtain ⟨fa, fd, ps, G, h1, h2, h3, h4⟩ := C.ex
  exact de_call G h1 hl (hr.mono hj) h2 h3 h4 ha hfs hg hdb he hpl
theorem de_calM {pl : Sem Bool} {apos : Pos} (D : ClsD X.K ct c) (C : CalM X.prog X.w X.K X.mg X.base (zx X ct) c nm k n Φ) (hr : Room j X.A) (hj : k ≤ j) (hl : (e :: es).length + 1 = n) (ho : PE X o (tE (zx X ct) f)) (ha : PA X (e :: es) (tA (zx X ct) fs)) (hfs : ∀ ρ μ xs μ', fs ρ μ = .ok xs μ' → xs.length = (e :: es).length)
    (hst : starEach (e :: es) X.env = (false, eval e X.env) :: starEach es X.env := by rfl) (hpl : (backTo pos (starEach es X.env)).any (·.1) = false := by rfl)
    (ht : eval (.Call (.Attribute o nm apos) (e :: es) [] pos) X.env = (do
      let ov ← eval o X.env
      standAt apos.atName
      let (f, first) ← holding [ov] (getMethod ov nm pl)
      callWith pos f first (backTo pos (starEach (e :: es) X.env)) (backToKw pos (keywordEach [] X.env))) := by rfl) : PE X (.Call (.Attribute o nm apos) (e :: es) [] pos) (tE (zx X ct) (dMeth c f fs Φ)) := by
  obtain ⟨fa, fd, ps, G, h1, h2⟩ := C.ex
  exact de_meth D h1 C.no G hl (hr.mono hj) h2 ho ha hfs hst hpl ht
theorem de_calM0 {pl : Sem Bool} {apos : Pos} (D : ClsD X.K ct c) (C : CalM X.prog X.w X.K X.mg X.base (zx X ct) c nm k 1 Φ) (hr : Room j X.A) (hj : k ≤ j) (ho : PE X o (tE (zx X ct) f))
    (ht : eval (.Call (.Attribute o nm apos) [] [] pos) X.env = (do
      let ov ← eval o X.env
      standAt apos.atName
      let (f, first) ← holding [ov] (getMethod ov nm pl)
      callWith pos f first (backTo pos (starEach [] X.env)) (backToKw pos (keywordEach [] X.env))) := by rfl) : PE X (.Call (.Attribute o nm apos) [] [] pos) (tE (zx X ct) (dMeth c f dNil Φ)) := by
  obtain ⟨fa, fd, ps, G, h1, h2⟩ := C.ex
  exact de_meth0 D h1 C.no G (hr.mono hj) h2 ho ht
theorem de_calK (bb : Bool) (D : ClsD X.K ct c) (C : CalK X.prog X.w X.K X.mg X.base (zx X ct) c x k n Φ) (hr : Room j X.A) (hj : k + 1 ≤ j) (hl : (e :: es).length + 1 = n) (ha : PA X (e :: es) (tA (zx X ct) fs)) (hfs : ∀ ρ μ xs μ', fs ρ μ = .ok xs μ' → xs.length = (e :: es).length) (hg : Gl X x := by rfl)
    (hdb : (x == ("__debug__" : Str)) = false := by decide) (he : starEach (e :: es) X.env = (false, eval e X.env) :: starEach es X.env := by rfl) (hpl : (backTo pos (starEach es X.env)).any (·.1) = false := by rfl) : PE X (.Call (.Name x p) (e :: es) [] pos) (tE (zx X ct) (dMake bb c fs Φ)) := by
  obtain ⟨fa, fd, ps, G, h1, h2, h3⟩ := C.ex
  exact de_make bb D h1 G hl (hr.mono hj) h2 h3 ha hfs hg hdb he hpl
end
end SB
set_option Elab.async false
set_option linter.all false
set_option maxRecDepth 100000
namespace SB
open PySem L2 PySem.Spec PyProof.Rows
theorem perm_back {α β : Type} (f : α → β) {l m : List β} (p : l.Perm m) : ∀ L : List α, m = L.map f → ∃ L' : List α, l = L'.map f ∧ L'.Perm L := by
  induction p with
  | nil => intro L e; cases L with
    | nil => exact ⟨[], rfl, .nil⟩
    | cons x L => cases e
  | @cons x l1 l2 p ih =>
    intro L e
    cases L with
    | nil => cases e
    | cons y L =>
      rw [List.map_cons] at e
      obtain ⟨e1, e2⟩ := List.cons.inj e
      obtain ⟨L', q1, q2⟩ := ih L e2
      exact ⟨y :: L', by rw [List.map_cons, e1, q1], q2.cons y⟩
  | swap x y l =>
    intro L e
    match L, e with
    | [], e => cases e
    | [z], e => cases e
    | a :: b :: L, e =>
      rw [List.map_cons, List.map_cons] at e
      obtain ⟨e1, e2⟩ := List.cons.inj e
      obtain ⟨e2, e3⟩ := List.cons.inj e2
      exact ⟨b :: a :: L, by rw [List.map_cons, List.map_cons, e1, e2, e3], .swap a b L⟩
  | trans p q ih1 ih2 =>
    intro L e
    obtain ⟨L1, e1, p1⟩ := ih2 L e
    obtain ⟨L2, e2, p2⟩ := ih1 L1 e1
    exact ⟨L2, e2, p2.trans p1⟩
abbrev newSetObj (w : World) : Obj := { cls := .type "set", dict := none, data := .set #[] 0 (.fresh 0 0 (!w.params.followText "set-order")) }
abbrev isSetObj (o : Obj) : Prop := ∃ es ep t, o.data = .set es ep t
/-- how things come to stand in a set -/
structure Adr (P : Program) (w : World) (κ : Type) [DecidableEq κ] where
  is : Heap → κ → Value → Prop
  hash : κ → Int
  draws : κ → Nat
  Ok : Heap → Addr → List (κ × Value) → Prop
  keepIs : ∀ {h h' : Heap} {k : κ} {v : Value}, is h k v → (∀ b o, h.get? b = some o → ¬ isSetObj o → h'.get? b = some o) → is h' k v
  keepOk : ∀ {h h' : Heap} {a : Addr} {L : List (κ × Value)}, Ok h a L → (∀ o, h.get? a = some o → h'.get? a = some o) → Ok h' a L
  hashes : ∀ {A : Around} {E : Value → Shared → Prop} {s : Shared} {k : κ} {v : Value} {Q : Int → Shared → Prop}, is s.heap k v → A.units < cLine → Q (hash k) { s with toks := s.toks + draws k } → wpAny (model P w) A (pyHash v) Q E s
  inj : ∀ {h : Heap} {k k' : κ} {v : Value}, is h k v → is h k' v → k = k'
  fresh : ∀ {h : Heap} {a : Addr}, h.get? a = some (newSetObj w) → Ok h a []
  sees : ∀ {h : Heap} {a : Addr} {L : List (κ × Value)}, Ok h a L → L.length < 64 → ∃ es ep t, SetAt h a es ep t ∧ es.toList.map (·.2) = L.map (·.2) ∧ t.fits es.size = true ∧ Ris t.place.toList ∧ (w.params.followText "set-order" = true ∨ t.led = true) ∧ es.size < scanBound
  add : ∀ {A : Around} {E : Value → Shared → Prop} {s : Shared} {a : Addr} {L : List (κ × Value)} {k : κ} {v : Value} {Q : Bool → Shared → Prop}, Ok s.heap a L → (∀ p ∈ L, is s.heap p.1 p.2) → (L.map (·.1)).Nodup → is s.heap k v → A.units < cLine → L.length + 1 < 64 →
    (∀ (b : Bool) (h' : Heap) (L' : List (κ × Value)), Heap.SameBut a s.heap h' → Ok h' a L' → (k ∈ L.map (·.1) → L' = L) → (k ∉ L.map (·.1) → L'.Perm ((k, v) :: L)) → Q b { s with heap := h' }) → wpAny (model P w) A (setAddHashed a v (hash k)) Q E s
section
variable {P : Program} {w : World} {κ : Type} [DecidableEq κ] (knd : KeyKind P w κ)
def lfRow (p : κ × Value) : Int × Value := (knd.hash p.1, p.2)
def LfOk (h : Heap) (a : Addr) (L : List (κ × Value)) : Prop := (∀ p ∈ L, knd.is p.1 p.2 = true) ∧ (L.length < 64) ∧
  ∃ o es ep t, h.get? a = some o ∧ o.ExactSet ∧ o.data = .set es ep t ∧ es.toList = L.map (lfRow knd) ∧ t.fits es.size = true ∧ Ris t.place.toList ∧ (w.params.followText "set-order" = true ∨ t.led = true)
variable {knd}
theorem lf_size {L : List (κ × Value)} {es : Array (Int × Value)} (e : es.toList = L.map (lfRow knd)) : es.size = L.length := by
  have h := congrArg List.length e
  rwa [Array.length_toList, List.length_map] at h
theorem lf_elems (sc : ∀ k v, knd.is k v = true → v.scannable = true) {L : List (κ × Value)} (hL : ∀ p ∈ L, knd.is p.1 p.2 = true) : ElemsOf knd (L.map (lfRow knd)) := fun e he => by
  obtain ⟨p, hp, rfl⟩ := List.mem_map.mp he
  exact ⟨⟨p.1, hL p hp, rfl⟩, sc _ _ (hL p hp)⟩
variable {A : Around} {E : Value → Shared → Prop} {s : Shared} {a : Addr}
theorem lf_tail {g : Bool → Sem Unit} (hg : ∀ (b : Bool) (s1 : Shared) (Q' : Unit → Shared → Prop), Q' () s1 → wpAny (model P w) A (g b) Q' E s1) {o : Obj} {es : Array (Int × Value)} {ep : Nat} {t : SetTable} (ho : s.heap.get? a = some o) (hex : o.ExactSet) (hd : o.data = .set es ep t)
    {es1 : Array (Int × Value)} {t2 : SetTable} {L : List (κ × Value)} (hr : es1.toList = L.map (lfRow knd)) (hL : ∀ p ∈ L, knd.is p.1 p.2 = true) (few : L.length < 64) (hf : t2.fits es1.size = true) (ri : Ris t2.place.toList) (ld : w.params.followText "set-order" = true ∨ t2.led = true) {wd : Bool} {R : Option Bool → Shared → Prop}
    (hR : ∀ (h' : Heap) (L' : List (κ × Value)), Heap.SameBut a s.heap h' → LfOk knd h' a L' → L'.Perm L → R (some true) { s with heap := h' }) :
    wpAny (model P w) A (do
        storeSet a es1 t2
        if (!wd && t2.tooFull) = true then do
            g (relayAll t2 es1 (SetTable.grown es1.size)).2.2
            storeSet a (relayAll t2 es1 (SetTable.grown es1.size)).1 (relayAll t2 es1 (SetTable.grown es1.size)).2.1
            pure (some true)
          else pure (some true)) R E s := by
  have hb : es1.size < scanBound := by have := lf_size hr; unfold scanBound; omega
  refine wpAny_bind (wpAny_storeSet_of ho hd ?_ (fits_of_scanBound hb))
  have ho1 := L2.store_at (es' := es1) (t' := t2) ho hd
  have sb1 := Heap.SameBut.update s.heap a (Obj.putSet es1 t2)
  split
  · have pm := relayAll_perm t2 es1 (SetTable.grown es1.size)
    have hf3 := relayAll_fits t2 es1 (SetTable.grown es1.size)
    have hr3 := relayAll_ris t2 es1 (SetTable.grown es1.size)
    have hl3 := relayAll_led t2 es1 (SetTable.grown es1.size)
    generalize relayAll t2 es1 (SetTable.grown es1.size) = Z at pm hf3 hr3 hl3 ⊢
    obtain ⟨es2, t3, gave⟩ := Z
    dsimp only at pm hf3 hr3 hl3 ⊢
    obtain ⟨Lb, e2, p2⟩ := perm_back (lfRow knd) pm L hr
    have hb2 : es2.size < scanBound := by
      have h1 := lf_size e2
      have h2 := p2.length_eq
      unfold scanBound
      omega
    refine wpAny_bind (hg _ _ _ (wpAny_bind (wpAny_storeSet_of ho1 rfl (wpAny_pure (hR _ Lb (sb1.trans (Heap.SameBut.update _ a _)) ?_ p2)) (fits_of_scanBound hb2))))
    exact ⟨fun p hp => hL p (p2.mem_iff.mp hp), by rw [p2.length_eq]; exact few, _, es2, _, t3, L2.store_at (es' := es2) (t' := t3) ho1 rfl, hex, rfl, e2, hf3, hr3, ld.imp id fun z => by rw [hl3]; exact z⟩
  · exact wpAny_pure (hR _ L sb1 ⟨hL, few, _, es1, _, t2, ho1, hex, rfl, hr, hf, ri, ld⟩ (.refl _))
theorem lf_add (sc : ∀ k v, knd.is k v = true → v.scannable = true) {L : List (κ × Value)} {k : κ} {v : Value} {Q : Bool → Shared → Prop} (R : LfOk knd s.heap a L) (hk : knd.is k v = true) (few : L.length + 1 < 64)
    (hQ : ∀ (b : Bool) (h' : Heap) (L' : List (κ × Value)), Heap.SameBut a s.heap h' → LfOk knd h' a L' → (k ∈ L.map (·.1) → L' = L) → (k ∉ L.map (·.1) → L'.Perm ((k, v) :: L)) → Q b { s with heap := h' }) : wpAny (model P w) A (setAddHashed a v (knd.hash k)) Q E s := by
  have ⟨hL, _, o, es, ep, t, ho, hex, hd, hr, hf, ri, ld⟩ := R
  have hsc := sc k v hk
  have hsz := lf_size hr
  have hb : es.size < scanBound := by unfold scanBound; omega
  have hel : ElemsOf knd es.toList := by rw [hr]; exact lf_elems sc hL
  have mem : k ∈ L.map (·.1) ↔ ∃ e ∈ es.toList, knd.is k e.2 = true := by
    rw [hr]
    constructor
    · intro h
      obtain ⟨p, hp, e⟩ := List.mem_map.mp h
      exact ⟨_, List.mem_map.mpr ⟨p, hp, rfl⟩, by show knd.is k p.2 = true; rw [← e]; exact hL p hp⟩
    · rintro ⟨e, he, h⟩
      obtain ⟨p, hp, rfl⟩ := List.mem_map.mp he
      exact List.mem_map.mpr ⟨p, hp, knd.inj p.2 _ _ (hL p hp) h⟩
  unfold setAddHashed setAddHashedIn
  refine wpAny_holding (wpAny_bind (wpAny_setState_of ho hd hf ?_))
  dsimp only
  rw [byScan_of hsc hb hel]
  simp only [↓reduceIte]
  unfold setAddByScan
  refine wpAny_bind (wpAny_bind (wpAny_rule (wpAny_bind (wpAny_setScan_of hk ho hd hf hel ?_))))
  cases hfi : List.findIdx? (fun e => knd.is k e.2) es.toList with
  | some j =>
    dsimp only
    obtain ⟨hj, pj, _⟩ := List.findIdx?_eq_some_iff_getElem.mp hfi
    have hm : k ∈ L.map (·.1) := mem.2 ⟨es.toList[j], List.getElem_mem hj, pj⟩
    exact wpAny_pure (wpAny_pure (hQ false s.heap L (Heap.SameBut.refl a s.heap) R (fun _ => rfl) fun z => absurd hm z))
  | none =>
    dsimp only
    have hm : k ∉ L.map (·.1) := fun z => by
      obtain ⟨e, he, q⟩ := mem.1 z
      have c := List.findIdx?_eq_none_iff.mp hfi e he
      rw [q] at c
      cases c
    have hgw : ∀ (b : Bool) {s1 : Shared} {Q' : Unit → Shared → Prop}, Q' () s1 → wpAny (model P w) A (match b with | true => rule "set.scan.the-table-gave-way" | false => pure ()) Q' E s1 :=
      fun b s1 Q' q => by cases b <;> first | exact wpAny_pure q | exact wpAny_rule q
    have pm := layNew_perm t es (knd.hash k) v
    have hf1 := layNew_fits t es (knd.hash k) v
    have hr1 := layNew_ris t es (knd.hash k) v ri
    have hl1 := layNew_led t es (knd.hash k) v
    generalize layNew t es (knd.hash k) v = Z at pm hf1 hr1 hl1 ⊢
    obtain ⟨es1, t1, wd, gave⟩ := Z
    dsimp only at pm hf1 hr1 hl1 ⊢
    rw [Array.toList_push] at pm
    obtain ⟨L1, e1, p1⟩ := perm_back (lfRow knd) (pm.trans (List.perm_append_singleton _ _)) ((k, v) :: L) (by rw [List.map_cons, hr]; rfl)
    have hL1 : ∀ p ∈ L1, knd.is p.1 p.2 = true := fun p hp => by
      rcases List.mem_cons.mp (p1.mem_iff.mp hp) with z | z
      · rw [z]; exact hk
      · exact hL p z
    have few1 : L1.length < 64 := by rw [p1.length_eq]; exact few
    have ld1 : w.params.followText "set-order" = true ∨ t1.led = true := ld.imp id fun z => by rw [hl1]; exact z
    have fin : ∀ (h' : Heap) (L' : List (κ × Value)), Heap.SameBut a s.heap h' → LfOk knd h' a L' → L'.Perm L1 → Q true { s with heap := h' } := fun h' L' sb r q => hQ true h' L' sb r (fun z => absurd z hm) fun _ => q.trans p1
    refine wpAny_bind (hgw _ ?_)
    split
    · refine wpAny_bind ?_
      rw [hashByValue_scannable 8 hsc]
      refine wpAny_pure ?_
      refine lf_tail ?_ ho hex hd e1 hL1 few1 ?_ ?_ ?_ ?_
      · intro b s1 Q' q; cases b <;> first | exact wpAny_pure q | exact wpAny_rule q
      · first | (split <;> first | exact hf1 | exact SetTable.fits_plain_off hf1) | exact hf1
      · first | (split <;> exact hr1) | exact hr1
      · first | (split <;> exact ld1) | exact ld1
      · intro h' L' sb r q; dsimp only; exact wpAny_pure (fin h' L' sb r q)
    · refine wpAny_bind (wpAny_pure ?_)
      simp only [↓reduceIte]
      refine lf_tail ?_ ho hex hd e1 hL1 few1 hf1 hr1 ld1 ?_
      · intro b s1 Q' q; cases b <;> first | exact wpAny_pure q | exact wpAny_rule q
      · intro h' L' sb r q; dsimp only; exact wpAny_pure (fin h' L' sb r q)
end
theorem fresh_led (w : World) : w.params.followText "set-order" = true ∨ (SetTable.fresh 0 0 (!w.params.followText "set-order")).led = true := by
  show _ ∨ (!w.params.followText "set-order") = true
  cases w.params.followText "set-order"
  · exact .inr rfl
  · exact .inl rfl
def lfAdr {P : Program} {w : World} {κ : Type} [DecidableEq κ] (knd : KeyKind P w κ) (sc : ∀ k v, knd.is k v = true → v.scannable = true) : Adr P w κ where
  is := fun _ k v => knd.is k v = true
  hash := knd.hash
  draws := fun _ => 1
  Ok := LfOk knd
  keepIs := fun h _ => h
  keepOk := fun ⟨h1, h2, o, es, ep, t, ho, r⟩ k => ⟨h1, h2, o, es, ep, t, k o ho, r⟩
  hashes := fun hk _ q => knd.pyHash hk q
  inj := fun h1 h2 => knd.inj _ _ _ h1 h2
  fresh := fun ho => ⟨(fun p hp => absurd hp (by simp)), (by show (0 : Nat) < 64; decide), _, #[], 0, _, ho, ⟨rfl, rfl, rfl⟩, rfl, rfl, rfl, List.Pairwise.nil, fresh_led w⟩
  sees := fun ⟨_, h2, o, es, ep, t, ho, hex, hd, hr, hf, ri, ld⟩ _ => ⟨es, ep, t, ⟨o, ho, hex.1, hd⟩, by rw [hr, List.map_map]; rfl, hf, ri, ld, by have := lf_size hr; unfold scanBound; omega⟩
  add := fun R _ _ hk _ few hQ => lf_add sc R hk few hQ
end SB
set_option Elab.async false
set_option linter.all false
set_option maxRecDepth 100000
namespace SB
open PySem L2 PySem.Spec PyProof.Rows
section
variable {P : Program} {w : World} {κ : Type} [DecidableEq κ] (knd : KeyKind P w κ)
abbrev tpHash (k : List κ) : Int := tupleKeyHash knd k
def tpRow (p : List κ × Value) : Int × Value := (tpHash knd p.1, p.2)
def TpIs (h : Heap) (k : List κ) (v : Value) : Prop := ∃ b, v = .ref b ∧ IsTupleKey knd h k b
/-- the set at a with its table -/
structure TpTab (h : Heap) (a : Addr) (L : List (List κ × Value)) (o : Obj) (es : Array (Int × Value)) (ep : Nat) (t : SetTable) : Prop where
  at_ : h.get? a = some o
  ex : o.ExactSet
  dat : o.data = .set es ep t
  rows : es.toList = L.map (tpRow knd)
  tab : TabOk t (L.map fun p => tpHash knd p.1)
  led : w.params.followText "set-order" = true ∨ t.led = true
  room : L.length * 5 < t.mask * 3
  few : L.length < 64
def TpOk (h : Heap) (a : Addr) (L : List (List κ × Value)) : Prop := ∃ o es ep t, TpTab knd h a L o es ep t
/-- the leafs have no class statement behind them, and their hash is their value's -/
structure Leafy : Prop where
  cl : ∀ (n : Nat) k v, knd.is k v = true → ofAClassStatement n v = pure false
  hv : ∀ (n : Nat) k v, knd.is k v = true → ∃ b, hashByValue n v = pure b
variable {knd}
variable {A : Around} {E : Value → Shared → Prop} {s : Shared} {a : Addr} {L : List (List κ × Value)} {o : Obj} {es : Array (Int × Value)} {ep : Nat} {t : SetTable}
theorem items_mem {k : List κ} {vs : List Value} (h : ItemsAre knd k vs) : ∀ v ∈ vs, ∃ i, knd.is i v = true := by
  induction h with
  | nil => intro v hv; cases hv
  | @cons k0 v' ks vs h1 _ ih =>
    intro v hv
    rcases List.mem_cons.mp hv with e | hv
    · exact ⟨k0, by rw [e]; exact h1⟩
    · exact ih v hv
theorem tp_class (lf : Leafy knd) {k : List κ} {b : Addr} {Q : Bool → Shared → Prop} (hk : IsTupleKey knd s.heap k b) (h : Q false s) : wpAny (model P w) A (ofAClassStatement 8 (.ref b)) Q E s := by
  have hT := hk.typeIs
  obtain ⟨o, items, n, ho, _, hd, hi⟩ := hk
  unfold ofAClassStatement
  refine wpAny_bind (wpAny_typeOf hT ?_)
  dsimp only
  have e : (("tuple" : String) == "tuple") = true := by decide
  simp only [e, if_true, Bool.not_true, Bool.false_eq_true, if_false]
  try refine wpAny_bind (wpAny_pure ?_)
  try simp only [Bool.not_true, Bool.false_eq_true, if_false]
  show wpAny _ _ (seqItems? (.ref b) >>= _) _ _ s
  refine wpAny_bind (wpAny_seqItems ho hd ?_)
  dsimp only
  refine wpAny_bind ?_
  show wpAny _ _ (forIn items _ _) _ _ s
  rw [← Array.forIn_toList]
  refine wpAny_forIn_list _ (fun rest r s' => (r.1 = none ∧ s' = s) ∧ ∀ v ∈ rest, ∃ i, knd.is i v = true) _ (fun v rest r s' q => ?_) (fun r s' q => ?_) _ _ ⟨⟨rfl, rfl⟩, items_mem hi⟩
  · obtain ⟨⟨hr, rfl⟩, hall⟩ := q
    obtain ⟨i, hv⟩ := hall v List.mem_cons_self
    rw [lf.cl _ i v hv]
    refine wpAny_bind (wpAny_pure ?_)
    simp only [Bool.false_eq_true, if_false]
    exact wpAny_pure ⟨⟨rfl, rfl⟩, fun u hu => hall u (List.mem_cons_of_mem _ hu)⟩
  · obtain ⟨⟨hr, rfl⟩, _⟩ := q
    obtain ⟨r1, r2⟩ := r
    simp only at hr
    subst hr
    exact wpAny_pure h
theorem tp_hashBy (lf : Leafy knd) {k : List κ} {b : Addr} {Q : Bool → Shared → Prop} (hk : IsTupleKey knd s.heap k b) (h : ∀ b, Q b s) : wpAny (model P w) A (hashByValue 8 (.ref b)) Q E s := by
  have hT := hk.typeIs
  obtain ⟨o, items, n, ho, _, hd, hi⟩ := hk
  unfold hashByValue
  refine wpAny_bind (wpAny_specialOf hT F.slot_tuple_hash.lookup ?_)
  show wpAny _ _ (seqItems? (.ref b) >>= _) _ _ s
  refine wpAny_bind (wpAny_seqItems ho hd ?_)
  refine wpAny_bind ?_
  show wpAny _ _ (forIn items _ _) _ _ s
  rw [← Array.forIn_toList]
  refine wpAny_forIn_list _ (fun rest r s' => (r.1 = none ∧ s' = s) ∧ ∀ v ∈ rest, ∃ i, knd.is i v = true) _ (fun v rest r s' q => ?_) (fun r s' q => ?_) _ _ ⟨⟨rfl, rfl⟩, items_mem hi⟩
  · obtain ⟨⟨hr, rfl⟩, hall⟩ := q
    obtain ⟨i, hv⟩ := hall v List.mem_cons_self
    obtain ⟨b, eb⟩ := lf.hv 7 i v hv
    rw [eb]
    refine wpAny_bind (wpAny_pure ?_)
    cases b with
    | true =>
      simp only [Bool.not_true, Bool.false_eq_true, if_false]
      exact wpAny_pure ⟨⟨rfl, rfl⟩, fun u hu => hall u (List.mem_cons_of_mem _ hu)⟩
    | false =>
      simp only [Bool.not_false, if_true]
      first
        | exact wpAny_pure (wpAny_pure (h false))
        | exact wpAny_bind (wpAny_pure (wpAny_pure (wpAny_pure (h false))))
  · obtain ⟨⟨hr, rfl⟩, _⟩ := q
    obtain ⟨r1, r2⟩ := r
    simp only at hr
    subst hr
    exact wpAny_pure (h true)
theorem tp_seen (lf : Leafy knd) {k : List κ} {b : Addr} {Q : Bool → Shared → Prop} (hk : IsTupleKey knd s.heap k b) {ys : List Value} (hy : ∀ y ∈ ys, ∃ k', TpIs knd s.heap k' y) (h : Q false s) : wpAny (model P w) A (searchCouldBeSeen (.ref b) ys) Q E s := by
  unfold searchCouldBeSeen
  refine wpAny_bind ?_
  refine wpAny_forIn_list _ (fun rest r s' => (r.1 = none ∧ s' = s) ∧ ∀ y ∈ rest, ∃ k', TpIs knd s.heap k' y) _ (fun v rest r s' q => ?_) (fun r s' q => ?_) _ _ ⟨⟨rfl, rfl⟩, hy⟩
  · obtain ⟨⟨hr, rfl⟩, hall⟩ := q
    obtain ⟨k', c, rfl, hc⟩ := hall v List.mem_cons_self
    have more : ∀ y ∈ rest, ∃ k', TpIs knd s'.heap k' y := fun u hu => hall u (List.mem_cons_of_mem _ hu)
    dsimp only
    by_cases hv : (b == c || (carriedByValue (.ref b) && carriedByValue (.ref c))) = true
    · exact wp_if_pos hv (wpAny_pure ⟨⟨rfl, rfl⟩, more⟩)
    · refine wp_if_neg hv ?_
      refine wpAny_bind (wpAny_eqIsQuiet_tuple hk ?_)
      simp only [Bool.not_true, Bool.false_eq_true, if_false]
      refine wpAny_bind (wpAny_eqIsQuiet_tuple hc ?_)
      simp only [Bool.not_true, Bool.false_eq_true, if_false]
      refine wpAny_bind (tp_class lf hk ?_)
      simp only [Bool.false_eq_true, if_false]
      refine wpAny_bind (tp_class lf hc ?_)
      simp only [Bool.false_eq_true, if_false]
      exact wpAny_pure ⟨⟨rfl, rfl⟩, more⟩
  · obtain ⟨⟨hr, rfl⟩, _⟩ := q
    obtain ⟨r1, r2⟩ := r
    simp only at hr
    subst hr
    exact wpAny_pure h
theorem TpTab.size {h : Heap} (R : TpTab knd h a L o es ep t) : es.size = L.length := by
  have h := congrArg List.length R.rows
  rwa [Array.length_toList, List.length_map] at h
theorem TpTab.fits {h : Heap} (R : TpTab knd h a L o es ep t) : t.fits es.size = true := by
  have h1 := R.tab.sz
  rw [List.length_map] at h1
  have h2 := R.size
  have h3 := R.room
  unfold SetTable.fits SetTable.fill
  rw [R.tab.dm, Bool.and_eq_true, beq_iff_eq, decide_eq_true_eq]
  show t.place.size = es.size ∧ t.place.size + 0 ≤ t.mask
  omega
theorem TpTab.row {h0 : Heap} (R : TpTab knd h0 a L o es ep t) {i : Nat} {p : List κ × Value} (h : L[i]? = some p) : es[i]? = some (tpHash knd p.1, p.2) := by
  rw [← Array.getElem?_toList, R.rows, List.getElem?_map, h]; rfl
abbrev wy (t : SetTable) (k : List κ) (c : Nat) : Nat := way t.mask (tpHash knd k) c
theorem nth_dm (m : Nat) : ∀ (n : Nat) (p : SetTable.Probe), p.dummy = none → (nth m p n).dummy = none
  | 0, p, h => h
  | n + 1, p, h => nth_dm m n (adv m p) (by unfold adv; split <;> exact h)
/-- the search, from the c-th step of its way on -/
theorem tp_from (lf : Leafy knd) (R : TpTab knd s.heap a L o es ep t) (tup : ∀ p ∈ L, TpIs knd s.heap p.1 p.2) {x : Addr} {k : List κ} (hx : IsTupleKey knd s.heap k x) (hu : A.units < cLine) {K : Nat} (hKf : K < 10 * SetTable.turns t.mask)
    (hK : wy (knd := knd) t k K ∉ t.place.toList) (hKb : ∀ c, c < K → wy (knd := knd) t k c ∈ t.place.toList) {Q : SetFound → Shared → Prop} (hin : k ∈ L.map (·.1) → Q (.there none) s) (hout : k ∉ L.map (·.1) → Q (.free (wy (knd := knd) t k K) false) s) :
    ∀ (f c : Nat) (stand : Option SetTable.Probe), stand.getD (t.probeStart (tpHash knd k)) = nth t.mask (runAt t.mask (SetTable.bits (tpHash knd k) % (t.mask + 1)) (SetTable.bits (tpHash knd k))) c → c ≤ K → K - c < f →
      (∀ (i : Nat) p, L[i]? = some p → p.1 = k → ∃ c', c ≤ c' ∧ c' < K ∧ t.place.toList[i]? = some (wy (knd := knd) t k c')) → wpAny (model P w) A (setSearchFrom a (.ref x) (tpHash knd k) true f stand) Q E s
  | 0, c, stand, _, _, hf, _ => absurd hf (Nat.not_lt_zero _)
  | f + 1, c, stand, hst, hc, hf, hre => by
    have gw : ¬ t.gaveWay = true := by unfold SetTable.gaveWay; rw [mask_odd R.tab.mok]; decide
    rw [setSearchFrom_succ]
    refine wpAny_bind (wpAny_setState_of R.at_ R.dat R.fits ?_)
    dsimp only
    refine wp_if_neg gw ?_
    try refine wpAny_bind (wpAny_pure ?_)
    have hnd := nth_dm t.mask c (runAt t.mask (SetTable.bits (tpHash knd k) % (t.mask + 1)) (SetTable.bits (tpHash knd k))) rfl
    have sh := fun q => (nth_add t.mask c (runAt t.mask (SetTable.bits (tpHash knd k) % (t.mask + 1)) (SetTable.bits (tpHash knd k))) q).symm
    have e1 : ∀ q, (nth t.mask (nth t.mask (runAt t.mask (SetTable.bits (tpHash knd k) % (t.mask + 1)) (SetTable.bits (tpHash knd k))) c) q).j = wy (knd := knd) t k (c + q) := fun q => congrArg SetTable.Probe.j (sh q)
    have hAt : ∀ (i : Nat) p, L[i]? = some p → (fun i => (es[i]?.map (·.1)).getD 0) i = tpHash knd p.1 := fun i p hp => by
      show (es[i]?.map (·.1)).getD 0 = _
      rw [R.row hp]; rfl
    rcases go_spec t R.tab.ris R.tab.dm (fun i => (es[i]?.map (·.1)).getD 0) (tpHash knd k) (10 * SetTable.turns t.mask) (K - c) _ hnd (by omega) (fun q hq => by rw [e1]; exact hKb (c + q) (by omega)) (by rw [e1, show c + (K - c) = K by omega]; exact hK) with ⟨q, i, hq, hi, hh, hno, hpr⟩ | ⟨hno, hpr⟩
    · have hpr' : t.probe (fun i => (es[i]?.map (·.1)).getD 0) (tpHash knd k) (stand.getD (t.probeStart (tpHash knd k))) = some (.candidate (wy (knd := knd) t k (c + q)) i (nth t.mask (runAt t.mask (SetTable.bits (tpHash knd k) % (t.mask + 1)) (SetTable.bits (tpHash knd k))) (c + (q + 1)))) := by
        rw [hst, ← e1, ← sh]; exact hpr
      rw [hpr']
      dsimp only
      rw [e1] at hi
      have hil : i < L.length := by
        have h1 : i < t.place.toList.length := (List.getElem?_eq_some_iff.mp hi).1
        have h2 := R.tab.sz
        rw [List.length_map] at h2
        rw [Array.length_toList] at h1
        omega
      have hp : L[i]? = some L[i] := List.getElem?_eq_getElem hil
      generalize hpe : L[i] = p at hp
      have hmem : p ∈ L := List.mem_of_getElem? hp
      obtain ⟨y, ey, hpt⟩ := tup p hmem
      have rest : wpAny (model P w) A (searchRest a (.ref x) (tpHash knd k) true f es t (wy (knd := knd) t k (c + q)) i (nth t.mask (runAt t.mask (SetTable.bits (tpHash knd k) % (t.mask + 1)) (SetTable.bits (tpHash knd k))) (c + (q + 1)))) Q E s := by
        unfold searchRest
        rw [R.row hp]
        dsimp only
        rw [ey]
        refine wpAny_bind (wpAny_holding (wpAny_eqBool_tuple hu hpt hx ?_))
        refine wpAny_bind (wpAny_setState_of R.at_ R.dat R.fits ?_)
        dsimp only
        by_cases hkk : p.1 = k
        · exact wp_if_pos (by simp [hkk]) (wpAny_pure (hin (List.mem_map.mpr ⟨p, hmem, hkk⟩)))
        · refine wp_if_neg (by simp [hkk]) ?_
          try refine wpAny_bind (wpAny_pure ?_)
          rw [L2.sameMem]
          dsimp only
          have hsl : t.slot (wy (knd := knd) t k (c + q)) = .live i := slot_live R.tab.ris hi
          have rw2 : es[i]? = some (tpHash knd p.1, Value.ref y) := by rw [R.row hp, ey]
          simp only [if_true, hsl, rw2]
          refine wpAny_bind (wpAny_isSame_ref_self (wpAny_bind (wpAny_pure ?_)))
          simp only [if_true]
          refine wp_if_neg (by simp [hkk]) ?_
          refine tp_from lf R tup hx hu hKf hK hKb hin hout f (c + (q + 1)) _ rfl (by omega) (by omega) fun i0 p0 h0 hk0 => ?_
          obtain ⟨c', a1, a2, a3⟩ := hre i0 p0 h0 hk0
          refine ⟨c', ?_, a2, a3⟩
          rcases Nat.lt_trichotomy c' (c + q) with z | z | z
          · exact absurd ((hAt i0 p0 h0).trans (congrArg (tpHash knd) hk0)) (hno (c' - c) i0 (by omega) (by rw [e1, show c + (c' - c) = c' by omega]; exact a3))
          · exfalso
            rw [z] at a3
            have s0 := slot_live R.tab.ris a3
            rw [hsl] at s0
            injection s0 with s0
            rw [← s0, hp] at h0
            exact hkk ((congrArg Prod.fst (Option.some.inj h0)).trans hk0)
          · omega
      by_cases hl : t.led = true
      · refine wp_if_neg (by simp [hl]) ?_
        try refine wpAny_bind (wpAny_pure ?_)
        exact rest
      · refine wp_if_pos (by simp [hl]) ?_
        refine wpAny_bind (tp_seen lf hx (fun y hy => ?_) ?_)
        · obtain ⟨e, he, ee⟩ := List.mem_map.mp hy
          have he1 : e ∈ es ∧ e.1 = tpHash knd k := by simpa using he
          have he2 : e ∈ es.toList := by simpa using he1.1
          rw [R.rows] at he2
          obtain ⟨p2, hp2, e2⟩ := List.mem_map.mp he2
          refine ⟨p2.1, ?_⟩
          rw [← ee, ← e2]
          exact tup p2 hp2
        · refine wp_if_neg (by decide) ?_
          try refine wpAny_bind (wpAny_pure ?_)
          exact rest
    · have hpr' : t.probe (fun i => (es[i]?.map (·.1)).getD 0) (tpHash knd k) (stand.getD (t.probeStart (tpHash knd k))) = some (.empty (wy (knd := knd) t k K) none) := by
        have e2 : wy (knd := knd) t k K = (nth t.mask (nth t.mask (runAt t.mask (SetTable.bits (tpHash knd k) % (t.mask + 1)) (SetTable.bits (tpHash knd k))) c) (K - c)).j := by
          rw [e1, show c + (K - c) = K by omega]
        rw [hst, e2]; exact hpr
      rw [hpr']
      dsimp only
      refine wpAny_pure (hout fun hm => ?_)
      obtain ⟨p0, h0, hk0⟩ := List.mem_map.mp hm
      obtain ⟨i0, hi0, e0⟩ := List.getElem_of_mem h0
      have h00 : L[i0]? = some p0 := by rw [List.getElem?_eq_getElem hi0, e0]
      obtain ⟨c', a1, a2, a3⟩ := hre i0 p0 h00 hk0
      exact hno (c' - c) i0 (by omega) (by rw [e1, show c + (c' - c) = c' by omega]; exact a3) ((hAt i0 p0 h00).trans (congrArg (tpHash knd) hk0))
theorem tp_search (lf : Leafy knd) (R : TpTab knd s.heap a L o es ep t) (tup : ∀ p ∈ L, TpIs knd s.heap p.1 p.2) {x : Addr} {k : List κ} (hx : IsTupleKey knd s.heap k x) (hu : A.units < cLine) {Q : SetFound → Shared → Prop} (hin : k ∈ L.map (·.1) → Q (.there none) s)
    (hout : ∀ K, k ∉ L.map (·.1) → wy (knd := knd) t k K ∉ t.place.toList → (∀ c, c < K → wy (knd := knd) t k c ∈ t.place.toList) → Q (.free (wy (knd := knd) t k K) false) s) : wpAny (model P w) A (setSearch a (.ref x) (tpHash knd k) true) Q E s := by
  have hroom := R.room
  obtain ⟨K, hKf, hK, hKb⟩ := R.tab.first (by rw [List.length_map]; omega) (tpHash knd k)
  have hbig : K < 100000 := by
    have : 10 * SetTable.turns t.mask ≤ 1420 := by
      unfold SetTable.turns
      rcases R.tab.mok with e | e | e <;> omega
    omega
  unfold setSearch
  refine tp_from lf R tup hx hu hKf hK hKb hin (fun hn => hout K hn hK hKb) 100000 0 none rfl (Nat.zero_le _) (by omega) fun i p hp hk => ?_
  have hi : (L.map fun p => tpHash knd p.1)[i]? = some (tpHash knd k) := by rw [List.getElem?_map, hp, ← hk]; rfl
  have hil : i < t.place.toList.length := by
    have h1 : i < L.length := (List.getElem?_eq_some_iff.mp hp).1
    have h2 := R.tab.sz
    rw [List.length_map] at h2
    rw [Array.length_toList]
    omega
  have hj := List.getElem?_eq_getElem hil
  obtain ⟨c, hc, e⟩ := R.tab.before hK hi hj
  exact ⟨c, Nat.zero_le _, hc, hj.trans (congrArg some e.symm)⟩
end
end SB
set_option Elab.async false
set_option linter.all false
set_option maxRecDepth 100000
namespace SB
open PySem L2 PySem.Spec PyProof.Rows
theorem pick_map {α β : Type} (f : α → β) (L : List α) (l : List Nat) : l.filterMap (fun i => (L.map f)[i]?) = (l.filterMap fun i => L[i]?).map f := by
  rw [List.map_filterMap]
  refine congrArg (fun g => l.filterMap g) (funext fun i => ?_)
  rw [List.getElem?_map]
theorem pick_getD {α : Type} (L : List α) (d : α) : ∀ l : List Nat, (∀ i ∈ l, i < L.length) → l.filterMap (fun i => L[i]?) = l.map fun i => L.getD i d
  | [], _ => rfl
  | i :: l, h => by
    have hi := h i List.mem_cons_self
    rw [List.filterMap_cons_some (List.getElem?_eq_getElem hi), List.map_cons, pick_getD L d l fun j hj => h j (List.mem_cons_of_mem _ hj), List.getD_eq_getElem?_getD, List.getElem?_eq_getElem hi]; rfl
theorem pick_range {α : Type} (L : List α) : ∀ n, n ≤ L.length → (List.range n).filterMap (fun i => L[i]?) = L.take n
  | 0, _ => rfl
  | n + 1, h => by
    rw [List.range_succ, List.filterMap_append, pick_range L n (Nat.le_of_lt h), List.take_succ, List.getElem?_eq_getElem h, List.filterMap_cons_some (List.getElem?_eq_getElem h)]; rfl
theorem ins_perm {α : Type} (L : List α) (p : Nat) (x : α) : (L.take p ++ x :: L.drop p).Perm (x :: L) := by
  have h : (L.take p ++ x :: L.drop p).Perm (x :: (L.take p ++ L.drop p)) := List.perm_middle
  rwa [List.take_append_drop] at h
section
variable {P : Program} {w : World} {κ : Type} [DecidableEq κ] {knd : KeyKind P w κ}
variable {A : Around} {E : Value → Shared → Prop} {s : Shared} {a : Addr} {L : List (List κ × Value)} {o : Obj} {es : Array (Int × Value)} {ep : Nat} {t : SetTable}
theorem tp_same {h h' : Heap} {k : List κ} {v : Value} (x : TpIs knd h k v) (hk : ∀ b o, h.get? b = some o → ¬ isSetObj o → h'.get? b = some o) : TpIs knd h' k v := by
  obtain ⟨b, e, o, items, n, ho, hc, hd, hi⟩ := x
  refine ⟨b, e, o, items, n, hk b o ho ?_, hc, hd, hi⟩
  rintro ⟨es, ep, t, e2⟩
  rw [hd] at e2
  cases e2
/-- a larger table -/
theorem tp_relay (ho : s.heap.get? a = some o) (hex : o.ExactSet) (hd : o.data = .set es ep t) (hrows : es.toList = L.map (tpRow knd)) (hsz : t.place.size = es.size) (hdm : t.dummies = #[]) (hfl : es.size ≤ t.mask)
    (ld : w.params.followText "set-order" = true ∨ t.led = true) (few : L.length < 64) {wanted M : Nat} (hw : SetTable.sizeAbove wanted - 1 = M) (hM : MaskOk M) (hw2 : SetTable.sizeAbove wanted ≤ 128) (hn : L.length * 5 < M * 3) {Q : Unit → Shared → Prop}
    (hQ : ∀ (h' : Heap) (L' : List (List κ × Value)), Heap.SameBut a s.heap h' → TpOk knd h' a L' → L'.Perm L → Q () { s with heap := h' }) : wpAny (model P w) A (setRelay a wanted) Q E s := by
  have hsl : es.size = L.length := by
    have h := congrArg List.length hrows
    rwa [Array.length_toList, List.length_map] at h
  have hfits : t.fits es.size = true := by
    unfold SetTable.fits SetTable.fill
    rw [hdm, Bool.and_eq_true, beq_iff_eq, decide_eq_true_eq]
    show t.place.size = es.size ∧ t.place.size + 0 ≤ t.mask
    omega
  obtain ⟨t', order, e, hp, T, em, el, ep', ed⟩ := relaid_ok t (hs := es.map (·.1)) (wanted := wanted) hw hM (by rw [Array.size_map, hsl]; omega)
  rw [Array.size_map, hsl] at hp
  have hlt : ∀ i ∈ order.toList, i < L.length := fun i hi => List.mem_range.mp (hp.mem_iff.mp hi)
  have r1 : (order.filterMap (es[·]?)).toList = (order.toList.filterMap fun i => L[i]?).map (tpRow knd) := by
    rw [← pick_map, ← hrows]
    have z : (order.filterMap (es[·]?)).toList = order.toList.filterMap (es[·]?) := by first | exact Array.toList_filterMap | simp
    rw [z]
    exact congrArg (fun g => order.toList.filterMap g) (funext fun i => (Array.getElem?_toList ..).symm)
  have r2 : (order.toList.filterMap fun i => L[i]?).Perm L := by
    have h1 := hp.filterMap fun i => L[i]?
    rwa [pick_range L L.length (Nat.le_refl _), List.take_length] at h1
  have r3 : ((order.toList.filterMap fun i => L[i]?).map fun p => tpHash knd p.1) = order.toList.map fun i => (es.map (·.1)).getD i 0 := by
    have hl : (L.map fun p => tpHash knd p.1) = (es.map (·.1)).toList := by rw [Array.toList_map, hrows, List.map_map]; rfl
    rw [← pick_map, hl, pick_getD _ 0 _ (fun i hi => by rw [← hl, List.length_map]; exact hlt i hi)]
    refine List.map_congr_left fun i _ => ?_
    rw [List.getD_eq_getElem?_getD, Array.getD_eq_getD_getElem?, Array.getElem?_toList]
  generalize (order.toList.filterMap fun i => L[i]?) = Lb at r1 r2 r3
  rw [← r3] at T
  have hs2 : (order.filterMap (es[·]?)).size = es.size := by
    have h := congrArg List.length r1
    rw [Array.length_toList, List.length_map, r2.length_eq] at h
    rw [h, hsl]
  rw [setRelay_eq]
  refine wpAny_bind (wpAny_setState_of ho hd hfits ?_)
  dsimp only
  refine wp_if_neg (by rw [sizeLine_eq]; omega) ?_
  try refine wpAny_bind (wpAny_pure ?_)
  rw [e]
  dsimp only
  refine wpAny_bind ?_
  refine wp_if_neg (by rw [hs2]; simp) ?_
  try refine wpAny_bind (wpAny_pure ?_)
  refine wpAny_pure ?_
  dsimp only
  refine wpAny_storeSet_of ho hd ?_ (by rw [hs2, hsl, sizeLine_eq]; omega)
  exact hQ _ Lb (Heap.SameBut.update ..) ⟨_, order.filterMap (es[·]?), ep + 1, t', L2.store_at ho hd, ⟨hex.1, hex.2.1, hex.2.2⟩, rfl, r1, T, by rw [el]; exact ld, by rw [r2.length_eq, em]; exact hn, by rw [r2.length_eq]; exact few⟩ r2
theorem _root_.L2.TabOk.off {t : SetTable} {hs : List Int} (T : TabOk t hs) : TabOk { t with plain := false } hs := ⟨T.ris, T.dm, T.sz, T.mok, T.bd, T.reach⟩
/-- laid down, and all anew where it gets too full -/
theorem tp_tail (T : TpTab knd s.heap a L o es ep t) (hsl : es.size = L.length) (hroom : L.length * 5 < t.mask * 3) {k : List κ} {x : Addr} (hm : k ∉ L.map (·.1)) {es1 : Array (Int × Value)} {L1 : List (List κ × Value)} (hin : es1.toList = L1.map (tpRow knd)) (hes : es1.size = L.length + 1)
    (pm : L1.Perm ((k, Value.ref x) :: L)) (hlen : L1.length = L.length + 1) (hfew : L.length + 1 < 64) {t1 : SetTable} (q3 : TabOk t1 (L1.map fun p => tpHash knd p.1)) (q4 : t1.mask = t.mask) (q5 : t1.led = t.led) (q9 : t1.fill = (L.map fun p => tpHash knd p.1).length + 1) {Q : Bool → Shared → Prop}
    (hQ : ∀ (b : Bool) (h' : Heap) (L' : List (List κ × Value)), Heap.SameBut a s.heap h' → TpOk knd h' a L' → (k ∈ L.map (·.1) → L' = L) → (k ∉ L.map (·.1) → L'.Perm ((k, Value.ref x) :: L)) → Q b { s with heap := h' }) :
    wpAny (model P w) A (do
      storeSet a es1 t1
      if !false && t1.tooFull then setRelay a (SetTable.grown (es.size + 1))
      return true) Q E s := by
  refine wpAny_bind (wpAny_storeSet_of T.at_ T.dat ?_ (by rw [hes, sizeLine_eq]; omega))
  have sb : Heap.SameBut a s.heap (s.heap.update a (Obj.putSet es1 t1)) := Heap.SameBut.update ..
  have ho1 := L2.store_at (es' := es1) (t' := t1) T.at_ T.dat
  generalize s.heap.update a (Obj.putSet es1 t1) = h1 at sb ho1 ⊢
  have ex1 : o.ExactSet := T.ex
  have ld1 : w.params.followText "set-order" = true ∨ t1.led = true := by rw [q5]; exact T.led
  by_cases hf : t1.tooFull = true
  · first
      | (refine wpAny_bind ?_; refine wp_if_pos (by simp [hf]) ?_)
      | (refine wp_if_pos (by simp [hf]) ?_; refine wpAny_bind ?_)
    have hfull : (L.length + 1) * 5 ≥ t1.mask * 3 := by
      have h := hf
      unfold SetTable.tooFull at h
      rwa [decide_eq_true_eq, q9, List.length_map] at h
    rw [hsl]
    have hsz1 : t1.place.size = es1.size := by
      have h := q3.sz
      rw [List.length_map, hlen] at h
      rw [h, hes]
    have cases2 : (t.mask = 7 ∧ L.length = 4) ∨ (t.mask = 31 ∧ L.length = 18) := by
      rcases T.tab.mok with e | e | e
      · left; rw [q4, e] at hfull; rw [e] at hroom; exact ⟨e, by omega⟩
      · right; rw [q4, e] at hfull; rw [e] at hroom; exact ⟨e, by omega⟩
      · exfalso; rw [q4, e] at hfull; omega
    have go : ∀ M, SetTable.sizeAbove (SetTable.grown (L.length + 1)) - 1 = M → MaskOk M → SetTable.sizeAbove (SetTable.grown (L.length + 1)) ≤ 128 → (L.length + 1) * 5 < M * 3 →
        wpAny (model P w) A (setRelay a (SetTable.grown (L.length + 1))) (fun _ s' => wpAny (model P w) A (pure true) Q E s') E { s with heap := h1 } := fun M g1 g2 g3 g4 => by
      refine tp_relay (s := { s with heap := h1 }) ho1 ⟨ex1.1, ex1.2.1, ex1.2.2⟩ rfl hin hsz1 q3.dm (by rw [hes, q4]; rcases cases2 with ⟨e, e2⟩ | ⟨e, e2⟩ <;> omega) ld1 (by rw [hlen]; exact hfew) g1 g2 g3 (by rw [hlen]; exact g4) fun h2 L2 sb2 R2 pm2 => ?_
      exact wpAny_pure (hQ true h2 L2 (sb.trans sb2) R2 (fun z => absurd z hm) fun _ => pm2.trans pm)
    rcases cases2 with ⟨_, e2⟩ | ⟨_, e2⟩
    · exact go 31 (by rw [e2, size_20]) (.inr (.inl rfl)) (by rw [e2, size_20]; decide) (by omega)
    · exact go 127 (by rw [e2, size_76]) (.inr (.inr rfl)) (by rw [e2, size_76]; decide) (by omega)
  · first
      | refine wp_if_neg (by simp [hf]) ?_
      | (refine wpAny_bind ?_; refine wp_if_neg (by simp [hf]) ?_; refine wpAny_pure ?_)
    refine wpAny_pure (hQ true h1 L1 sb ⟨_, es1, ep + 1, t1, ho1, ⟨ex1.1, ex1.2.1, ex1.2.2⟩, rfl, hin, q3, ld1, ?_, by rw [hlen]; exact hfew⟩ (fun z => absurd z hm) fun _ => pm)
    have h := hf
    unfold SetTable.tooFull at h
    rw [decide_eq_true_eq, q9, List.length_map] at h
    rw [hlen]
    omega
theorem tp_add (lf : Leafy knd) (R : TpOk knd s.heap a L) (tup : ∀ p ∈ L, TpIs knd s.heap p.1 p.2) {v : Value} {k : List κ} (hv : TpIs knd s.heap k v) (hu : A.units < cLine) (hfew : L.length + 1 < 64) {Q : Bool → Shared → Prop}
    (hQ : ∀ (b : Bool) (h' : Heap) (L' : List (List κ × Value)), Heap.SameBut a s.heap h' → TpOk knd h' a L' → (k ∈ L.map (·.1) → L' = L) → (k ∉ L.map (·.1) → L'.Perm ((k, v) :: L)) → Q b { s with heap := h' }) : wpAny (model P w) A (setAddHashed a v (tpHash knd k)) Q E s := by
  obtain ⟨o, es, ep, t, T⟩ := id R
  obtain ⟨x, rfl, hx⟩ := hv
  have hsl := T.size
  have hroom := T.room
  unfold setAddHashed
  refine wpAny_holding ?_
  rw [show (100000 : Nat) = 99999 + 1 from rfl, setAddHashedIn_succ]
  refine wpAny_bind (wpAny_setState_of T.at_ T.dat T.fits ?_)
  dsimp only
  refine wp_if_neg (by simp [byScan, Value.scannable]) ?_
  try refine wpAny_bind (wpAny_pure ?_)
  refine wpAny_bind (tp_search lf T tup hx hu (fun hm => ?_) fun K hm hK hb => ?_)
  · dsimp only
    exact wpAny_pure (hQ false s.heap L (Heap.SameBut.refl a s.heap) R (fun _ => rfl) fun z => absurd hm z)
  · dsimp only
    refine wpAny_bind (wpAny_setState_of T.at_ T.dat T.fits ?_)
    dsimp only
    obtain ⟨q1, q2, q3, q4, q5, q6, q7, q8, q9⟩ := T.tab.put hK hb
    generalize hpt : t.put (wy (knd := knd) t k K) = pt at q1 q3 q4 q5 q6 q7 q8 q9 ⊢
    obtain ⟨t1, p⟩ := pt
    dsimp only at q1 q3 q4 q5 q6 q7 q8 q9 ⊢
    subst q1
    have hin : (SetTable.insertAt es (SetTable.below t.place (wy (knd := knd) t k K)) (tpHash knd k, Value.ref x)).toList = (L.take (SetTable.below t.place (wy (knd := knd) t k K)) ++ (k, Value.ref x) :: L.drop (SetTable.below t.place (wy (knd := knd) t k K))).map (tpRow knd) := by
      rw [SetTable.toList_insertAt, List.map_append, List.map_cons, List.map_take, List.map_drop, T.rows]; rfl
    generalize hpp : SetTable.below t.place (wy (knd := knd) t k K) = p at q2 q3 hin ⊢
    have pm := ins_perm L p (k, Value.ref x)
    have hlen : (L.take p ++ (k, Value.ref x) :: L.drop p).length = L.length + 1 := pm.length_eq
    have hhs : (L.take p ++ (k, Value.ref x) :: L.drop p).map (fun p => tpHash knd p.1) = (L.map fun p => tpHash knd p.1).take p ++ tpHash knd k :: (L.map fun p => tpHash knd p.1).drop p := by
      rw [List.map_append, List.map_cons, List.map_take, List.map_drop]
    rw [← hhs] at q3
    have hes : (SetTable.insertAt es p (tpHash knd k, Value.ref x)).size = L.length + 1 := by
      have h := congrArg List.length hin
      rwa [Array.length_toList, List.length_map, hlen] at h
    generalize SetTable.insertAt es p (tpHash knd k, Value.ref x) = es1 at hin hes ⊢
    generalize L.take p ++ (k, Value.ref x) :: L.drop p = L1 at pm hlen q3 hin
    have q3' := q3.off
    have q9' : ({ t1 with plain := false } : SetTable).fill = _ := q9
    have q4' : ({ t1 with plain := false } : SetTable).mask = _ := q4
    have q5' : ({ t1 with plain := false } : SetTable).led = _ := q5
    clear hpt
    by_cases hp1 : t1.plain = true
    · first
        | (refine wpAny_bind ?_; refine wp_if_pos hp1 ?_; refine tp_hashBy lf hx fun b => ?_)
        | refine wp_if_pos hp1 (wpAny_bind (tp_hashBy lf hx fun b => ?_))
      cases b with
      | true =>
        simp only [if_true]
        exact tp_tail T hsl hroom hm hin hes pm hlen hfew q3 q4 q5 q9 hQ
      | false =>
        simp only [Bool.false_eq_true, if_false]
        exact tp_tail T hsl hroom hm hin hes pm hlen hfew q3' q4' q5' q9' hQ
    · first
        | (refine wpAny_bind ?_; refine wp_if_neg hp1 ?_; refine wpAny_pure ?_)
        | refine wp_if_neg hp1 (wpAny_bind (wpAny_pure ?_))
      simp only [if_true]
      exact tp_tail T hsl hroom hm hin hes pm hlen hfew q3 q4 q5 q9 hQ
end
def tpAdr {P : Program} {w : World} {κ : Type} [DecidableEq κ] (knd : KeyKind P w κ) (lf : Leafy knd) : Adr P w (List κ) where
  is := TpIs knd
  hash := tpHash knd
  draws := fun k => k.length + 1
  Ok := TpOk knd
  keepIs := fun x k => tp_same x k
  keepOk := fun ⟨o, es, ep, t, T⟩ k => ⟨o, es, ep, t, k o T.at_, T.ex, T.dat, T.rows, T.tab, T.led, T.room, T.few⟩
  hashes := fun ⟨b, e, x⟩ hu q => by subst e; exact wpAny_pyHash_tuple hu x q
  inj := fun ⟨b, e, x⟩ ⟨b', e', x'⟩ => by subst e; cases e'; exact x.inj x'
  fresh := fun ho => ⟨_, #[], 0, _, ho, ⟨rfl, rfl, rfl⟩, rfl, rfl, ⟨List.Pairwise.nil, rfl, rfl, .inl rfl, (fun x hx => absurd hx (by simp [SetTable.fresh])), (fun i h j hi => by simp at hi)⟩, fresh_led w, (by show 0 * 5 < 7 * 3; decide), (by show 0 < 64; decide)⟩
  sees := fun ⟨o, es, ep, t, T⟩ few => ⟨es, ep, t, ⟨o, T.at_, T.ex.1, T.dat⟩, by rw [T.rows, List.map_map]; rfl, T.fits, T.tab.ris, T.led, by have h := congrArg List.length T.rows; rw [Array.length_toList, List.length_map] at h; unfold scanBound; omega⟩
  add := fun R tup _ hk hu few hQ => tp_add lf R tup hk hu few hQ
end SB
set_option Elab.async false
set_option linter.all false
set_option maxRecDepth 100000
namespace SB
open PySem L2 PySem.Spec PyProof.Rows
section
variable {P : Program} {w : World} {κ : Type} [DecidableEq κ] {Z : Adr P w κ}
variable {A : Around} {E : Value → Shared → Prop} {s : Shared}
/-- what the first i have left -/
structure GotK (ks : List (κ × Value)) (i : Nat) (L : List (κ × Value)) : Prop where
  sub : ∀ p ∈ L, p ∈ ks.take i
  all : ∀ p ∈ ks.take i, p.1 ∈ L.map (·.1)
  nd : (L.map (·.1)).Nodup
  len : L.length ≤ i
theorem GotK.zero (ks : List (κ × Value)) : GotK ks 0 [] := ⟨(fun p h => absurd h (by simp)), (fun p h => absurd h (by simp)), List.nodup_nil, Nat.le_refl _⟩
theorem take_up {α : Type} {l : List α} {i : Nat} {x : α} (h : l[i]? = some x) : l.take (i + 1) = l.take i ++ [x] := by rw [List.take_succ, h]; rfl
theorem GotK.step {ks L L' : List (κ × Value)} {i : Nat} {k : κ} {v : Value} (g : GotK ks i L) (h : ks[i]? = some (k, v)) (c1 : k ∈ L.map (·.1) → L' = L) (c2 : k ∉ L.map (·.1) → L'.Perm ((k, v) :: L)) : GotK ks (i + 1) L' := by
  rcases Classical.em (k ∈ L.map (·.1)) with c | c
  · rw [c1 c]
    refine ⟨fun p hp => ?_, fun p hp => ?_, g.nd, Nat.le_succ_of_le g.len⟩
    · rw [take_up h]; exact List.mem_append_left _ (g.sub p hp)
    · rw [take_up h] at hp
      rcases List.mem_append.mp hp with z | z
      · exact g.all p z
      · rw [List.mem_singleton.mp z]; exact c
  · have pm := c2 c
    refine ⟨fun p hp => ?_, fun p hp => ?_, ?_, ?_⟩
    · rw [take_up h]
      rcases List.mem_cons.mp (pm.mem_iff.mp hp) with e | z
      · rw [e]; exact List.mem_append_right _ (List.mem_singleton.mpr rfl)
      · exact List.mem_append_left _ (g.sub p z)
    · rw [(pm.map (·.1)).mem_iff, List.map_cons]
      rw [take_up h] at hp
      rcases List.mem_append.mp hp with z | z
      · exact List.mem_cons_of_mem _ (g.all p z)
      · rw [List.mem_singleton.mp z]; exact List.mem_cons_self
    · rw [(pm.map (·.1)).nodup_iff, List.map_cons]; exact List.nodup_cons.mpr ⟨c, g.nd⟩
    · rw [pm.length_eq, List.length_cons]; exact Nat.succ_le_succ g.len
/-- set.update's loop -/
theorem set_loop {I : Addr} {fp wr : List Addr} {G : Array GenState → Array GenState → Prop} {n : Nat} {Pv : Nat → Value → Prop} {St : Nat → Shared → Prop} {R : Result → Shared → Prop} (W : WalksS P w A.in1 I fp wr G n Pv St) (S : Addr) (hSf : S ∉ fp) (ks : List (κ × Value)) (hn : n = ks.length) (hfew : ks.length < 64)
    (hval : ∀ i v, Pv i v → ∃ p, ks[i]? = some p ∧ v = p.2) (h0 : Heap) (hk : ∀ p ∈ ks, Z.is h0 p.1 p.2) (hS0 : h0.get? S = none) (hw0 : ∀ b ∈ wr, h0.get? b = none) (hu : A.in1.units < cLine) :
    ∀ (k i : Nat) (s : Shared), n - i = k → i ≤ n → St i s → (∀ b o, h0.get? b = some o → s.heap.get? b = some o) → (∃ L, Z.Ok s.heap S L ∧ GotK ks i L) →
      (∀ s' L, Moved (S :: wr) G s s' → Z.Ok s'.heap S L → GotK ks n L → (∀ b o, h0.get? b = some o → s'.heap.get? b = some o) → R (.ok (.ret .none)) s') → codeAny (model P w) A (.builtin "set.update.loop" ⟨[.ref S, .ref I], []⟩) R s := by
  have hSw : S ∉ wr := fun h => hSf (W.sub _ h)
  have hsub : ∀ b ∈ wr, b ∈ S :: wr := fun b hb => List.mem_cons_of_mem _ hb
  have kM : ∀ {s s' : Shared}, Moved wr G s s' → (∀ b o, h0.get? b = some o → s.heap.get? b = some o) → ∀ b o, h0.get? b = some o → s'.heap.get? b = some o := fun hm hkp b o e => hm.heap b o (fun hb => by rw [hw0 b hb] at e; cases e) (hkp b o e)
  intro k
  induction k with
  | zero =>
    intro i s hk' hi hst hkp ⟨L, hS, g⟩ hR
    have hin : i = n := by omega
    subst hin
    refine codeAny_builtin F.entry_set_update_loop ?_
    rw [Around.under_plainId F.plain_set_update_loop _]
    show wpAny _ A.in1 (pyNext (.ref I) >>= _) _ _ s
    refine wpAny_bind (W.done s _ _ hst fun s' hm => ?_)
    show wpAny _ A.in1 (ret Value.none) _ _ s'
    exact wpAny_pure (hR s' L (hm.mono hsub) (Z.keepOk hS fun o e => hm.heap S o hSw e) g (kM hm hkp))
  | succ k ih =>
    intro i s hk' hi hst hkp ⟨L, hS, g⟩ hR
    have hlt : i < n := by omega
    refine codeAny_builtin F.entry_set_update_loop ?_
    rw [Around.under_plainId F.plain_set_update_loop _]
    show wpAny _ A.in1 (pyNext (.ref I) >>= _) _ _ s
    refine wpAny_bind (W.item i s _ _ hlt hst fun v s' hP hst' hm => ?_)
    obtain ⟨⟨kk, v1⟩, hp, ev⟩ := hval i v hP
    obtain rfl : v = v1 := ev
    have hkp' := kM hm hkp
    have all : ∀ {h' : Heap}, (∀ b o, h0.get? b = some o → h'.get? b = some o) → ∀ p ∈ ks, Z.is h' p.1 p.2 := fun hh p hp => Z.keepIs (hk p hp) fun b o e _ => hh b o e
    show wpAny _ A.in1 (holding [v] (setAdd S v) >>= _) _ _ s'
    refine wpAny_bind (wpAny_holding ?_)
    unfold setAdd
    refine wpAny_holding ?_
    refine wpAny_bind (Z.hashes (all hkp' _ (List.mem_of_getElem? hp)) hu ?_)
    refine Z.add (s := { s' with toks := s'.toks + Z.draws kk }) (Z.keepOk hS fun o e => hm.heap S o hSw e) (fun p hp => all hkp' p (List.mem_of_mem_take (g.sub p hp))) g.nd (all hkp' _ (List.mem_of_getElem? hp)) hu (by have := g.len; omega) fun b h' L' hsb hS2 c1 c2 => ?_
    have hkp2 : ∀ b o, h0.get? b = some o → h'.get? b = some o := fun b o e => (hsb.2 b (fun z => by rw [z, hS0] at e; cases e)).trans (hkp' b o e)
    refine wpAny_pure ⟨plainId_quiet F.plain_set_update_loop _, ih (i + 1) _ (by omega) hlt (W.frame _ s' _ _ hst' (Nat.le_add_right _ _) fun b hb o e => ?_) hkp2 ⟨L', hS2, g.step hp c1 c2⟩ fun s'' L2 hm'' hS'' g'' hkp'' => ?_⟩
    · rw [hsb.2 b (fun h : b = S => hSf (by rw [← h]; exact hb))]; exact e
    · refine hR s'' L2 (Moved.trans W.gtrans ((hm.mono hsub).then_heap (Nat.le_add_right _ _) fun b o hb e => ?_) hm'') hS'' g'' hkp''
      rw [hsb.2 b (fun h : b = S => hb (by rw [h]; exact List.mem_cons_self))]; exact e
set_option maxHeartbeats 3200000 in
theorem call_set {l : Addr} {items : Array Value} (ks : List (κ × Value)) {Q : Value → Shared → Prop} (hh : A.handled = none) (hl : s.heap.IsList l items) (hit : items.toList = ks.map (·.2)) (hk : ∀ p ∈ ks, Z.is s.heap p.1 p.2) (hfew : ks.length < 64) (hu : A.units + 3 < cLine)
    (h : ∀ (h' : Heap) (tk : Nat) (L : List (κ × Value)), Z.Ok h' s.heap.objs.size L → GotK ks ks.length L → (∀ b o, s.heap.get? b = some o → h'.get? b = some o) → Q (.ref s.heap.objs.size) { s with heap := h', toks := tk }) : wpAny (model P w) A (call (.type "set") [.ref l]) Q E s := by
  have hisz : items.size = ks.length := by
    have q := congrArg List.length hit
    rwa [Array.length_toList, List.length_map] at q
  obtain ⟨c, tl, hmro⟩ := F.called_set.mro
  have hmade := F.called_set.made
  have hsub := F.called_set.sub
  refine wpAny_call (codeAny_of_tree ?_)
  show wpAny _ _ (callAny (.type "set") _) _ _ _
  refine wpAny_pure ⟨Code.quiet_builtin _ (by decide +kernel), codeAny_builtin F.entry_type_call ?_⟩
  rw [Around.under_plain (weight_type_call_type "set" [.ref l] []) rfl]
  have h1 := F.called_set.notType
  have h2 := F.called_set.canCreate
  have hct := F.typeCall_set_1 (.ref l)
  repeat (any_goals (first | assumption | wp_step))
  refine codeAny_mono (code_set_led1 (.ref l) (E := E) (Q₁ := fun obj s1 => obj = .ref s.heap.objs.size ∧ s1 = { s with heap := s.heap.push (newSetObj w) }) ⟨rfl, rfl⟩) fun r s1 hr => ?_
  cases r with
  | error e => exact hr
  | ok fl =>
    cases fl with
    | ret obj =>
      obtain ⟨rfl, rfl⟩ := hr
      have hS : (s.heap.push (newSetObj w)).get? s.heap.objs.size = some (newSetObj w) := Heap.get?_push_size _ rfl
      have hT : Shared.TypeIs { s with heap := s.heap.push (newSetObj w) } (.ref s.heap.objs.size) "set" := ⟨_, hS, rfl⟩
      have hli := F.called_set.init.lookup
      have hbi := F.called_set.init.bind (.ref s.heap.objs.size)
      repeat (any_goals (first | assumption | wp_step))
      refine codeAny_mono (codeAny_call_builtin (R := wants (fun r s2 => r = .none ∧ ∃ h' tk L, s2 = { s with heap := h', toks := tk } ∧ Z.Ok h' s.heap.objs.size L ∧ GotK ks ks.length L ∧ (∀ b o, s.heap.get? b = some o → h'.get? b = some o)) E) F.called_set.init.plain F.entry_set_init (check_set_init_1 hT ?_)) fun r2 s2 hr2 => ?_
      · obtain ⟨ol, hol, hcl, nl, hdl⟩ := hl
        obtain ⟨ocls, odict, odata, oslots⟩ := ol
        simp only at hcl hdl
        subst hcl; subst hdl
        have hol' : (s.heap.push (newSetObj w)).get? l = some { cls := .type "list", dict := odict, data := .seq items nl, slots := oslots } := Heap.get?_push_of_some _ hol
        have hsls := F.sub_list_set
        have hslf := F.sub_list_frozenset
        have hne : (Value.type "list" == Value.type "dict") = false := by decide
        have hl1 : (s.heap.push (newSetObj w)).IsList l items := ⟨_, hol', rfl, nl, rfl⟩
        unfold Builtin.«set.__init__» noKeywords Builtin.Frozenset.updateFrom
        generalize hPI : pyIter = PI
        wp_walk
        subst hPI
        refine wpAny_pyIter_list hl1 (wpAny_bind (wpAny_runValue ?_))
        have hlS : l < s.heap.objs.size := Heap.lt_size hol
        have hz1 : (s.heap.push (newSetObj w)).objs.size = s.heap.objs.size + 1 := Heap.size_push ..
        have hh3 : A.in1.in1.in1.handled = none := by simp [hh]
        have hneI : l ≠ (s.heap.push (newSetObj w)).objs.size := by rw [hz1]; exact Nat.ne_of_lt (Nat.lt_succ_of_lt hlS)
        have hSf : s.heap.objs.size ∉ [(s.heap.push (newSetObj w)).objs.size, l] := by
          rw [hz1]; simp only [List.mem_cons, List.not_mem_nil, or_false, not_or]
          exact ⟨Nat.ne_of_lt (Nat.lt_succ_self _), Nat.ne_of_gt hlS⟩
        have hval : ∀ (i : Nat) (v : Value), items[i]? = some v → ∃ p, ks[i]? = some p ∧ v = p.2 := fun i v hv => by
          have q : items.toList[i]? = some v := by rw [Array.getElem?_toList]; exact hv
          rw [hit, List.getElem?_map] at q
          obtain ⟨p, hp, e⟩ := Option.map_eq_some_iff.mp q
          exact ⟨p, hp, e.symm⟩
        have nof : ∀ b, s.heap.objs.size ≤ b → s.heap.get? b = none := fun b hb => by
          cases q : s.heap.get? b with
          | none => rfl
          | some o => exact absurd (Nat.lt_of_lt_of_le (Heap.lt_size q) hb) (Nat.lt_irrefl _)
        refine set_loop (Z := Z) ((Walks.list hh3 _ l hneI items).toS) s.heap.objs.size hSf ks hisz hfew hval s.heap hk (nof _ (Nat.le_refl _)) (fun b hb => nof b (by rw [List.mem_singleton.mp hb, hz1]; exact Nat.le_succ _)) hu (items.size - 0) 0 _ (by omega) (Nat.zero_le _)
          ⟨⟨_, Heap.get?_push_size _ rfl, rfl, rfl⟩, (hl1.push _)⟩ (fun b o e => Heap.get?_push_of_some _ (Heap.get?_push_of_some _ e)) ⟨[], Z.fresh (Heap.get?_push_of_some _ hS), GotK.zero ks⟩ fun s' L hm hS' g' hkp => ?_
        obtain ⟨h', g2, d', tk', os'⟩ := s'
        have eg : g2 = s.gens := hm.gens
        have ed : d' = s.drawn := hm.drawn
        have eo : os' = s.os := hm.os
        subst eg; subst ed; subst eo
        show wpAny _ _ _ _ _ _
        refine wpAny_pure ?_
        show wpAny _ _ (ret Value.none) _ _ _
        rw [hisz] at g'
        exact wpAny_pure ⟨rfl, h', tk', L, rfl, hS', g', hkp⟩
      · cases r2 with
        | error e => exact hr2
        | ok fl2 =>
          cases fl2 with
          | ret r =>
            obtain ⟨rfl, h', tk, L, rfl, hS', g', hk'⟩ := hr2
            repeat (any_goals (first | assumption | wp_step))
            exact h _ _ _ hS' g' hk'
          | _ => exact hr2.elim
    | _ => exact hr.elim
/-- sorted(a set): the things in an order that they are told to have -/
theorem sorted_of {a : Addr} {L : List (κ × Value)} {ltv : Value → Value → Bool} {Q : Value → Shared → Prop} (O : SrtO.Swo ltv) (R : Z.Ok s.heap a L) (few : L.length < 64) (hh : A.handled = none)
    (hS : ∀ (vs : List Value) (s1 : Shared) (A' : Around) (b : Addr), 2 ≤ vs.length → (∀ v ∈ vs, v ∈ L.map (·.2)) → s.heap.get? b = none → (∀ c o, s.heap.get? c = some o → s1.heap.get? c = some o) → SrtO.SortableO P w A' s1 b vs ltv)
    (hQ : ∀ s' p (out : List Value) (c : Nat), (∀ b o, s.heap.get? b = some o → s'.heap.get? b = some o) → s'.gens = s.gens → s'.os = s.os → s.heap.objs.size ≤ p → s'.heap.get? p = some (seqObj "list" out.toArray c) → out.Perm (L.map (·.2)) → SrtO.Srtd ltv out → Q (.ref p) s') :
    wpAny (model P w) A (call (.builtin "sorted") [.ref a]) Q E s := by
  obtain ⟨es, ep, t, ha, hr, hf, ri, ld, hsc⟩ := Z.sees R few
  refine Calls.call_function_entry kind_sorted plain_sorted entry_sorted (args_sorted1 _) ?_
  unfold Builtin.«sorted»
  refine wpAny_bind (m := checkCount "sorted" 1 1 _) (wpAny_pure ?_)
  refine wpAny_bind (collect_set (A := A.in1) hh ha hf hsc ri ld fun s1 vs k1 hz g1 o1 pm => ?_)
  rw [hr] at pm
  have hvl : vs.length < 64 := by rw [pm.length_eq, List.length_map]; exact few
  refine wpAny_bind (wpAny_newList ?_ (by rw [sizeLine_eq]; omega))
  have hoL : (s1.heap.push (seqObj "list" vs.toArray 0)).get? s1.heap.objs.size = some (seqObj "list" vs.toArray 0) := Heap.get?_push_size _ rfl
  have nof : s.heap.get? s1.heap.objs.size = none := by
    cases q : s.heap.get? s1.heap.objs.size with
    | none => rfl
    | some o => exact absurd (Nat.lt_of_lt_of_le (Heap.lt_size q) hz) (Nat.lt_irrefl _)
  refine wpAny_bind (wpAny_holding (wpAny_call_entry slot_list_sort ⟨_, hoL, rfl⟩ entry_list_sort (SrtO.list_sort_ord O hoL (by rw [sizeLine_eq]; omega) (fun h2 h' keep => ?_) fun out h1 h2 => ⟨_, rfl, ?_⟩) (args_list_sort _)))
  · exact hS vs _ _ s1.heap.objs.size h2 (fun v hv => pm.mem_iff.mp hv) nof (fun b o e => Heap.get?_push_of_some _ (k1 b o e)) h' keep
  · obtain ⟨c, hc⟩ := sortedHeap_at (vs := vs) (out := out.toArray) hoL
    refine wpAny_pure ⟨_, rfl, hQ _ s1.heap.objs.size out c (fun b u e => ?_) g1 o1 hz hc (h2.perm.trans pm) h1⟩
    have q := k1 b u e
    have hlt := Heap.lt_size q
    show (sortedHeap (s1.heap.push (seqObj "list" vs.toArray 0)) s1.heap.objs.size vs out.toArray).get? b = some u
    rw [sortedHeap_old (Nat.ne_of_lt hlt) (by rw [size_push']; exact Nat.lt_succ_of_lt hlt)]
    exact Heap.get?_push_of_some _ q
end
end SB
set_option Elab.async false
set_option linter.all false
set_option maxRecDepth 100000
namespace SB
open PySem L2 PySem.Spec PyProof.Rows
abbrev klt (a b : SK) : Bool := lexLt itemOrd a b
def tupK : List Bool → List D → Option SK
  | [], [] => some []
  | false :: bs, .int i :: xs => (tupK bs xs).map (.inl i :: ·)
  | true :: bs, .str z :: xs => (tupK bs xs).map (.inr z.cps.toList :: ·)
  | _, _ => none
def keyS : Shp → D → Option SK
  | .i, .int i => some [.inl i]
  | .s, .str z => some [.inr z.cps.toList]
  | .b, .bl b => some [.inl (if b then 1 else 0)]
  | .ti (b :: bs), .tup xs => tupK (b :: bs) xs
  | .li, .lst xs => tupK (xs.map fun _ => false) xs
  | .ls, .lst xs => tupK (xs.map fun _ => true) xs
  | _, _ => none
def isTx : D → Bool
  | .str _ => true
  | _ => false
def shpOf : D → Option Shp
  | .int _ => some .i
  | .str _ => some .s
  | .bl _ => some .b
  | .tup xs => some (.ti (xs.map isTx))
  | .lst [] => some .li
  | .lst (.int _ :: _) => some .li
  | .lst (.str _ :: _) => some .ls
  | _ => none
def shpAll : List D → Option Shp
  | [] => some .i
  | x :: xs => match shpOf x with
    | some S => if (x :: xs).all fun y => (keyS S y).isSome then some S else none
    | none => none
abbrev keyD (S : Shp) (x : D) : SK := (keyS S x).getD []
abbrev ltS (S : Shp) (x y : D) : Bool := klt (keyD S x) (keyD S y)
def insS (S : Shp) (x : D) : List D → List D
  | [] => [x]
  | y :: ys => if ltS S y x then y :: insS S x ys else x :: y :: ys
def sortS (S : Shp) (xs : List D) : List D := xs.foldr (insS S) []
def nubS (S : Shp) : List D → List D
  | [] => []
  | x :: xs => if xs.any fun y => decide (keyS S y = keyS S x) then nubS S xs else x :: nubS S xs
theorem cps_inj {a b : Str} (h : a.cps.toList = b.cps.toList) : a = b := by
  obtain ⟨a⟩ := a
  obtain ⟨b⟩ := b
  simp only [Str.mk.injEq]
  exact Array.toList_inj.mp h
theorem tupK_inj : ∀ (bs : List Bool) (xs ys : List D) (k : SK), tupK bs xs = some k → tupK bs ys = some k → xs = ys
  | [], [], [], _, _, _ => rfl
  | [], [], y :: ys, k, h1, h2 => by simp only [tupK] at h2; cases h2
  | [], x :: xs, _, k, h1, h2 => by simp only [tupK] at h1; cases h1
  | b :: bs, [], _, k, h1, h2 => by cases b <;> simp only [tupK] at h1 <;> cases h1
  | b :: bs, x :: xs, [], k, h1, h2 => by cases b <;> simp only [tupK] at h2 <;> cases h2
  | false :: bs, x :: xs, y :: ys, k, h1, h2 => by
    cases x <;> simp only [tupK] at h1 <;> first | (cases h1; done) | skip
    cases y <;> simp only [tupK] at h2 <;> first | (cases h2; done) | skip
    obtain ⟨k1, e1, rfl⟩ := Option.map_eq_some_iff.mp h1
    obtain ⟨k2, e2, e⟩ := Option.map_eq_some_iff.mp h2
    injection e with e3 e4
    injection e3 with e3
    subst e3 e4
    rw [tupK_inj bs xs ys _ e1 e2]
  | true :: bs, x :: xs, y :: ys, k, h1, h2 => by
    cases x <;> simp only [tupK] at h1 <;> first | (cases h1; done) | skip
    cases y <;> simp only [tupK] at h2 <;> first | (cases h2; done) | skip
    obtain ⟨k1, e1, rfl⟩ := Option.map_eq_some_iff.mp h1
    obtain ⟨k2, e2, e⟩ := Option.map_eq_some_iff.mp h2
    injection e with e3 e4
    injection e3 with e3
    subst e4
    rw [cps_inj e3, tupK_inj bs xs ys _ e1 e2]
theorem tupK_len : ∀ (bs : List Bool) (xs : List D) (k : SK), tupK bs xs = some k → k.length = xs.length
  | [], [], k, h => by simp only [tupK] at h; cases h; rfl
  | [], x :: xs, k, h1 => by simp only [tupK] at h1; cases h1
  | b :: bs, [], k, h1 => by cases b <;> simp only [tupK] at h1 <;> cases h1
  | false :: bs, x :: xs, k, h1 => by
    cases x <;> simp only [tupK] at h1 <;> first | (cases h1; done) | skip
    obtain ⟨k1, e1, rfl⟩ := Option.map_eq_some_iff.mp h1
    simp [tupK_len bs xs _ e1]
  | true :: bs, x :: xs, k, h1 => by
    cases x <;> simp only [tupK] at h1 <;> first | (cases h1; done) | skip
    obtain ⟨k1, e1, rfl⟩ := Option.map_eq_some_iff.mp h1
    simp [tupK_len bs xs _ e1]
theorem keyS_inj : ∀ (S : Shp) (x y : D) (k : SK), keyS S x = some k → keyS S y = some k → x = y
  | .i, x, y, k, h1, h2 => by
    cases x <;> simp only [keyS] at h1 <;> first | (cases h1; done) | skip
    cases y <;> simp only [keyS] at h2 <;> first | (cases h2; done) | skip
    cases h1; cases h2; rfl
  | .s, x, y, k, h1, h2 => by
    cases x <;> simp only [keyS] at h1 <;> first | (cases h1; done) | skip
    cases y <;> simp only [keyS] at h2 <;> first | (cases h2; done) | skip
    cases h1
    injection h2 with h2
    injection h2 with h2
    injection h2 with h2
    rw [cps_inj h2]
  | .b, x, y, k, h1, h2 => by
    cases x <;> simp only [keyS] at h1 <;> first | (cases h1; done) | skip
    cases y <;> simp only [keyS] at h2 <;> first | (cases h2; done) | skip
    cases h1
    rename_i p q
    cases p <;> cases q <;> first | rfl | (injection h2 with h2; injection h2 with h2; injection h2 with h2; exact absurd h2 (by decide))
  | .ti [], x, y, k, h1, h2 => by simp only [keyS] at h1; cases h1
  | .ti (b :: bs), x, y, k, h1, h2 => by
    cases x <;> simp only [keyS] at h1 <;> first | (cases h1; done) | skip
    cases y <;> simp only [keyS] at h2 <;> first | (cases h2; done) | skip
    rw [tupK_inj _ _ _ _ h1 h2]
  | .li, x, y, k, h1, h2 => by
    cases x <;> simp only [keyS] at h1 <;> first | (cases h1; done) | skip
    cases y <;> simp only [keyS] at h2 <;> first | (cases h2; done) | skip
    rename_i xs ys
    have e : xs.map (fun _ => false) = ys.map (fun _ => false) := by
      rw [List.map_const', List.map_const', ← tupK_len _ _ _ h1, ← tupK_len _ _ _ h2]
    rw [e] at h1
    rw [tupK_inj _ _ _ _ h1 h2]
  | .ls, x, y, k, h1, h2 => by
    cases x <;> simp only [keyS] at h1 <;> first | (cases h1; done) | skip
    cases y <;> simp only [keyS] at h2 <;> first | (cases h2; done) | skip
    rename_i xs ys
    have e : xs.map (fun _ => true) = ys.map (fun _ => true) := by
      rw [List.map_const', List.map_const', ← tupK_len _ _ _ h1, ← tupK_len _ _ _ h2]
    rw [e] at h1
    rw [tupK_inj _ _ _ _ h1 h2]
theorem klt_tr {a b c : SK} (h1 : klt b a = false) (h2 : klt c b = false) : klt c a = false := (KeyOrd.kle_trans (O := listOrd itemOrd) (a := a) (b := b) (c := c) h1 h2)
theorem klt_as {a b : SK} (h : klt a b = true) : klt b a = false := (KeyOrd.klt_asymm (O := listOrd itemOrd) (a := a) (b := b) h)
theorem klt_eq {a b : SK} (h1 : klt a b = false) (h2 : klt b a = false) : a = b := (listOrd itemOrd).total a b h1 h2
theorem swo_key {α : Type} (f : α → SK) : SrtO.Swo fun x y => klt (f x) (f y) := ⟨fun x y h => klt_as h, fun x y z h1 h2 => klt_tr h1 h2⟩
theorem insS_perm (S : Shp) (x : D) : ∀ l : List D, (insS S x l).Perm (x :: l)
  | [] => .refl _
  | y :: ys => by
    unfold insS
    split
    · exact ((insS_perm S x ys).cons y).trans (.swap x y ys)
    · exact .refl _
theorem sortS_perm (S : Shp) : ∀ l : List D, (sortS S l).Perm l
  | [] => .refl _
  | x :: l => (insS_perm S x (sortS S l)).trans ((sortS_perm S l).cons x)
theorem insS_srt (S : Shp) (x : D) : ∀ l : List D, SrtO.Srtd (ltS S) l → SrtO.Srtd (ltS S) (insS S x l)
  | [], _ => List.pairwise_singleton _ _
  | y :: ys, h => by
    obtain ⟨h1, h2⟩ := List.pairwise_cons.mp h
    unfold insS
    split
    · rename_i c
      refine List.pairwise_cons.mpr ⟨fun z hz => ?_, insS_srt S x ys h2⟩
      rcases List.mem_cons.mp ((insS_perm S x ys).mem_iff.mp hz) with e | hz
      · rw [e]; exact klt_as c
      · exact h1 z hz
    · rename_i c
      have c' : ltS S y x = false := by simpa using c
      refine List.pairwise_cons.mpr ⟨fun z hz => ?_, h⟩
      rcases List.mem_cons.mp hz with e | hz
      · rw [e]; exact c'
      · exact klt_tr c' (h1 z hz)
theorem sortS_srt (S : Shp) : ∀ l : List D, SrtO.Srtd (ltS S) (sortS S l)
  | [] => List.Pairwise.nil
  | x :: l => insS_srt S x _ (sortS_srt S l)
theorem srt_one {α : Type} {r : α → α → Prop} : ∀ {l m : List α}, l.Perm m → l.Pairwise r → m.Pairwise r → (∀ a ∈ l, ∀ b ∈ l, r a b → r b a → a = b) → l = m
  | [], m, p, _, _, _ => p.nil_eq
  | x :: l, [], p, _, _, _ => absurd p.length_eq (by simp)
  | x :: l, y :: m, p, h1, h2, hq => by
    obtain ⟨a1, a2⟩ := List.pairwise_cons.mp h1
    obtain ⟨b1, b2⟩ := List.pairwise_cons.mp h2
    have e : x = y := by
      rcases List.mem_cons.mp (p.mem_iff.mp List.mem_cons_self) with e | hx
      · exact e
      · rcases List.mem_cons.mp (p.mem_iff.mpr List.mem_cons_self) with e | hy
        · exact e.symm
        · exact hq x List.mem_cons_self y (List.mem_cons_of_mem _ hy) (a1 y hy) (b1 x hx)
    subst e
    rw [srt_one p.cons_inv a2 b2 fun a ha b hb => hq a (List.mem_cons_of_mem _ ha) b (List.mem_cons_of_mem _ hb)]
/-- a sorted list of things of one shape -/
theorem sortS_uniq {S : Shp} {l m : List D} (hs : ∀ x ∈ l, (keyS S x).isSome = true) (p : m.Perm l) (h : SrtO.Srtd (ltS S) m) : m = sortS S l := by
  refine srt_one (p.trans (sortS_perm S l).symm) h (sortS_srt S l) fun a ha b hb h1 h2 => ?_
  obtain ⟨ka, ea⟩ := Option.isSome_iff_exists.mp (hs a (p.mem_iff.mp ha))
  obtain ⟨kb, eb⟩ := Option.isSome_iff_exists.mp (hs b (p.mem_iff.mp hb))
  have e : ka = kb := by
    have := klt_eq h2 h1
    simpa only [keyD, ea, eb, Option.getD_some] using this
  exact keyS_inj S a b ka ea (e ▸ eb)
theorem nubS_mem {S : Shp} : ∀ {l : List D} (hs : ∀ x ∈ l, (keyS S x).isSome = true) (x : D), x ∈ nubS S l ↔ x ∈ l
  | [], _, x => Iff.rfl
  | y :: l, hs, x => by
    unfold nubS
    have ih := nubS_mem (S := S) (l := l) (fun z hz => hs z (List.mem_cons_of_mem _ hz)) x
    split
    · rename_i c
      obtain ⟨z, hz, e⟩ := List.any_eq_true.mp c
      have e := of_decide_eq_true e
      obtain ⟨k, ek⟩ := Option.isSome_iff_exists.mp (hs y List.mem_cons_self)
      have : z = y := keyS_inj S z y k (e.trans ek) ek
      subst this
      rw [ih, List.mem_cons]
      exact ⟨.inr, fun h => h.elim (fun e => e ▸ hz) id⟩
    · rw [List.mem_cons, List.mem_cons, ih]
theorem nubS_nd {S : Shp} : ∀ {l : List D} (hs : ∀ x ∈ l, (keyS S x).isSome = true), (nubS S l).Nodup
  | [], _ => List.nodup_nil
  | y :: l, hs => by
    have hs' : ∀ x ∈ l, (keyS S x).isSome = true := fun z hz => hs z (List.mem_cons_of_mem _ hz)
    unfold nubS
    split
    · exact nubS_nd hs'
    · rename_i c
      refine List.nodup_cons.mpr ⟨fun h => c ?_, nubS_nd hs'⟩
      exact List.any_eq_true.mpr ⟨y, (nubS_mem hs' y).mp h, by simp⟩
end SB
set_option Elab.async false
set_option linter.all false
set_option maxRecDepth 100000
namespace SB
open PySem L2 PySem.Spec PyProof.Rows
def AlL : List Bool → List D → List Value → Prop
  | [], [], us => us = []
  | false :: bs, .int i :: xs, us => ∃ t r, us = .int i t :: r ∧ AlL bs xs r
  | true :: bs, .str z :: xs, us => ∃ t r, us = .str z t :: r ∧ AlL bs xs r
  | _, _, _ => False
/-- u is the thing x of the shape, in the heap -/
def Al (h : Heap) : Shp → D → Value → Prop
  | .i, .int i, u => ∃ t, u = .int i t
  | .s, .str z, u => ∃ t, u = .str z t
  | .b, .bl b, u => u = .bool b
  | .ti (b :: bs), .tup xs, u => ∃ a o its n, u = .ref a ∧ h.get? a = some o ∧ o.cls = .type "tuple" ∧ o.data = .seq its n ∧ AlL (b :: bs) xs its.toList
  | _, _, _ => False
theorem Al.keep {h h' : Heap} {S : Shp} {x : D} {u : Value} (k : ∀ c o, h.get? c = some o → h'.get? c = some o) (a : Al h S x u) : Al h' S x u := by
  cases S with
  | ti bs =>
    cases bs with
    | nil => cases x <;> exact a
    | cons b bs =>
      cases x with
      | tup xs => obtain ⟨l, o, its, n, e, ho, r⟩ := a; exact ⟨l, o, its, n, e, k _ _ ho, r⟩
      | _ => exact a
  | _ => cases x <;> exact a
theorem al_items : ∀ (bs : List Bool) (xs : List D) (us : List Value) (i : Nat) (sh : Nat → Bool), (∀ j b, bs[j]? = some b → sh (i + j) = b) → AlL bs xs us → ∃ k, tupItems sh i us = some k ∧ tupK bs xs = some k
  | [], [], us, i, sh, _, h => by
    simp only [AlL] at h; subst h
    exact ⟨[], by simp [tupItems], rfl⟩
  | [], x :: xs, us, i, sh, _, h => by simp only [AlL] at h
  | b :: bs, [], us, i, sh, _, h => by cases b <;> simp only [AlL] at h
  | false :: bs, x :: xs, us, i, sh, hs, h => by
    cases x <;> simp only [AlL] at h
    obtain ⟨t, r, rfl, h⟩ := h
    obtain ⟨k, e1, e2⟩ := al_items bs xs r (i + 1) sh (fun j b e => by have := hs (j + 1) b (by simpa using e); rwa [show i + (j + 1) = i + 1 + j by omega] at this) h
    have h0 : sh i = false := hs 0 false rfl
    rename_i n
    refine ⟨.inl n :: k, ?_, by simp only [tupK, e2, Option.map_some]⟩
    simp only [tupItems, h0, Bool.false_eq_true, if_false, e1, Option.map_some]
  | true :: bs, x :: xs, us, i, sh, hs, h => by
    cases x <;> simp only [AlL] at h
    obtain ⟨t, r, rfl, h⟩ := h
    obtain ⟨k, e1, e2⟩ := al_items bs xs r (i + 1) sh (fun j b e => by have := hs (j + 1) b (by simpa using e); rwa [show i + (j + 1) = i + 1 + j by omega] at this) h
    have h0 : sh i = true := hs 0 true rfl
    rename_i z
    refine ⟨.inr z.cps.toList :: k, ?_, by simp only [tupK, e2, Option.map_some]⟩
    simp only [tupItems, h0, if_true, e1, Option.map_some]
theorem itemOne (a b : Int ⊕ List Nat) : klt [a] [b] = itemLt a b := by
  show (itemLt a b || (!itemLt b a && false)) = itemLt a b
  cases itemLt a b <;> cases itemLt b a <;> rfl
section
variable {P : Program} {w : World} {A : Around} {E : Value → Shared → Prop} {s : Shared}
theorem mapM_first_bools : ∀ {vs : List Value}, (∀ v ∈ vs, ∃ b, v = Value.bool b) → vs.mapM firstOfTuple' = pure (vs.map fun _ => none)
  | [], _ => by simp
  | v :: vs, h => by
    obtain ⟨b, rfl⟩ := h v List.mem_cons_self
    have e : firstOfTuple' (.bool b) = pure none := rfl
    rw [List.mapM_cons, e, mapM_first_bools fun u hu => h u (List.mem_cons_of_mem _ hu)]; simp
theorem mapM_typeOf_bools : ∀ {vs : List Value}, (∀ v ∈ vs, ∃ b, v = Value.bool b) → vs.mapM typeOf = pure (vs.map fun _ => Value.type "bool")
  | [], _ => by simp
  | v :: vs, h => by
    obtain ⟨b, rfl⟩ := h v List.mem_cons_self
    rw [List.mapM_cons, mapM_typeOf_bools fun u hu => h u (List.mem_cons_of_mem _ hu)]
    show (pure (Value.type "bool") >>= fun b => pure _ >>= fun bs => pure (b :: bs)) = _
    simp
theorem keyKind_bools {v1 v2 : Value} {vs : List Value} (h : ∀ v ∈ v1 :: v2 :: vs, ∃ b, v = Value.bool b) : keyKind' (v1 :: v2 :: vs).toArray = pure oneType' := by
  rw [keyKind'_eq, List.mapM_toArray, mapM_first_bools h]
  simp only [map_pure, pure_bind]
  rw [if_neg (by simp), if_neg (by simp), oneTypeOnly'_eq, List.mapM_toArray, mapM_typeOf_bools h]
  simp only [map_pure, pure_bind]
  have h0 : (List.map (fun _ => Value.type "bool") (v1 :: v2 :: vs)).toArray[0]? = some (Value.type "bool") := by simp
  have hall : ((List.map (fun _ => Value.type "bool") (v1 :: v2 :: vs)).toArray.all fun x => x == Value.type "bool") = true := by
    simp only [List.all_toArray, List.all_map, List.all_eq_true]
    intro _ _
    rfl
  rw [h0]
  simp only [hall, if_true, pure_bind, Option.isSome_some]
theorem oneLt_bool {a b : Bool} {Q : Bool → Shared → Prop} (h : Q (decide ((if a then (1 : Int) else 0) < if b then 1 else 0)) s) : wpAny (model P w) A (oneLt' true (.bool a) (.bool b)) Q E s := by
  rw [oneLt'_eq]
  simp only [if_true]
  refine wpAny_bind (wpAny_cRoomFor_byValue rfl ?_)
  have hT : s.TypeIs (.bool a) "bool" := rfl
  refine wpAny_bind (wpAny_callSpecialIfBound?_slot hT PySem.F.slot_bool_lt (wpAny_call_entry PySem.F.slot_bool_lt hT entry_int_lt ?_ (args_int_lt _ _)))
  refine wpAny_of_eq (a := .done (.ret (.bool (decide ((if a then (1 : Int) else 0) < if b then 1 else 0))))) (by cases a <;> cases b <;> rfl) ⟨_, rfl, wpAny_truthy_bool h⟩
theorem two_of {vs : List Value} (h2 : 2 ≤ vs.length) : ∃ v1 v2 r, vs = v1 :: v2 :: r := by
  match vs, h2 with
  | v1 :: v2 :: r, _ => exact ⟨v1, v2, r, rfl⟩
/-- things of a shape have their kind, and compare as their keys -/
theorem al_cmp {S : Shp} {vs : List Value} {g : Value → D} (h2 : 2 ≤ vs.length) (al : ∀ v ∈ vs, Al s.heap S (g v) v) :
    ∃ κ, (∀ (Q : SortKind → Shared → Prop) (E : Value → Shared → Prop), Q κ s → wpAny (model P w) A (keyKind' vs.toArray) Q E s) ∧ SrtO.Cmp P w A s κ (fun p => p.1 ∈ vs) (SrtO.lt2 fun u v => ltS S (g u) (g v)) := by
  obtain ⟨v1, v2, r, rfl⟩ := two_of h2
  cases S with
  | i =>
    have hin : ∀ v ∈ v1 :: v2 :: r, ∃ i t, g v = .int i ∧ v = Value.int i t := fun v hv => by
      have := al v hv
      cases e : g v with
      | int i => rw [e] at this; obtain ⟨t, e2⟩ := this; exact ⟨i, t, rfl, e2⟩
      | _ => rw [e] at this; exact this.elim
    refine ⟨oneType', fun Q E hq => ?_, fun p q hp hq => ?_⟩
    · rw [keyKind_ints (L2.ints_of _ fun v hv => let ⟨i, t, _, e⟩ := hin v hv; ⟨i, t, e⟩)]; exact wpAny_pure hq
    · obtain ⟨i, t, e1, e2⟩ := hin _ hp
      obtain ⟨j, t', e3, e4⟩ := hin _ hq
      rw [keyLt'_oneType]
      show wpAny (model P w) A (oneLt' true p.1 q.1) (fun r s' => s' = s ∧ r = ltS .i (g p.1) (g q.1)) _ s
      rw [e1, e3]
      show wpAny (model P w) A (oneLt' true p.1 q.1) (fun r s' => s' = s ∧ r = klt [.inl i] [.inl j]) _ s
      rw [itemOne, e2, e4]
      exact oneLt_int ⟨rfl, rfl⟩
  | s =>
    have hst : ∀ v ∈ v1 :: v2 :: r, ∃ i t, g v = .str i ∧ v = Value.str i t := fun v hv => by
      have := al v hv
      cases e : g v with
      | str i => rw [e] at this; obtain ⟨t, e2⟩ := this; exact ⟨i, t, rfl, e2⟩
      | _ => rw [e] at this; exact this.elim
    refine ⟨oneType', fun Q E hq => ?_, fun p q hp hq => ?_⟩
    · rw [keyKind_strs (strsAre_map _ fun v hv => let ⟨i, t, _, e⟩ := hst v hv; ⟨i, t, e⟩)]; exact wpAny_pure hq
    · obtain ⟨i, t, e1, e2⟩ := hst _ hp
      obtain ⟨j, t', e3, e4⟩ := hst _ hq
      rw [keyLt'_oneType]
      show wpAny (model P w) A (oneLt' true p.1 q.1) (fun r s' => s' = s ∧ r = ltS .s (g p.1) (g q.1)) _ s
      rw [e1, e3]
      show wpAny (model P w) A (oneLt' true p.1 q.1) (fun r s' => s' = s ∧ r = klt [.inr i.cps.toList] [.inr j.cps.toList]) _ s
      rw [itemOne, e2, e4]
      exact oneLt_str ⟨rfl, rfl⟩
  | b =>
    have bls : ∀ v ∈ v1 :: v2 :: r, ∃ i, g v = .bl i ∧ v = Value.bool i := fun v hv => by
      have := al v hv
      cases e : g v with
      | bl i => rw [e] at this; exact ⟨i, rfl, this⟩
      | _ => rw [e] at this; exact this.elim
    refine ⟨oneType', fun Q E hq => ?_, fun p q hp hq => ?_⟩
    · rw [keyKind_bools fun v hv => let ⟨i, _, e⟩ := bls v hv; ⟨i, e⟩]; exact wpAny_pure hq
    · obtain ⟨i, e1, e2⟩ := bls _ hp
      obtain ⟨j, e3, e4⟩ := bls _ hq
      rw [keyLt'_oneType]
      show wpAny (model P w) A (oneLt' true p.1 q.1) (fun r s' => s' = s ∧ r = ltS .b (g p.1) (g q.1)) _ s
      rw [e1, e3]
      show wpAny (model P w) A (oneLt' true p.1 q.1) (fun r s' => s' = s ∧ r = klt [.inl (if i then 1 else 0)] [.inl (if j then 1 else 0)]) _ s
      rw [itemOne, e2, e4]
      exact oneLt_bool ⟨rfl, rfl⟩
  | ti bs =>
    cases bs with
    | nil => exact absurd (al v1 List.mem_cons_self) (by cases g v1 <;> exact id)
    | cons b bs =>
      have tups : ∀ v ∈ v1 :: v2 :: r, ∃ xs, g v = .tup xs ∧ ∃ a o its n, v = .ref a ∧ s.heap.get? a = some o ∧ o.cls = .type "tuple" ∧ o.data = .seq its n ∧ AlL (b :: bs) xs its.toList := fun v hv => by
        have := al v hv
        cases e : g v with
        | tup xs => rw [e] at this; exact ⟨xs, rfl, this⟩
        | _ => rw [e] at this; exact this.elim
      have sh0 : ∀ j c, (b :: bs)[j]? = some c → (fun i => (b :: bs).getD i false) (0 + j) = c := fun j c e => by
        show (b :: bs).getD (0 + j) false = c
        rw [Nat.zero_add, List.getD_eq_getElem?_getD, e]; rfl
      have tof : ∀ vs : List Value, (∀ v ∈ vs, v ∈ v1 :: v2 :: r) → ∃ fs, TupsOf s.heap (fun i => (b :: bs).getD i false) vs fs := by
        intro vs
        induction vs with
        | nil => exact fun _ => ⟨[], .nil⟩
        | cons v vs ih =>
          intro h
          obtain ⟨fs, hf⟩ := ih fun u hu => h u (List.mem_cons_of_mem _ hu)
          obtain ⟨xs, _, a, o, its, n, e, ho, hc, hd, hA⟩ := tups v (h v List.mem_cons_self)
          cases b with
          | false =>
            cases xs with
            | nil => simp only [AlL] at hA
            | cons x xs =>
              cases x <;> simp only [AlL] at hA
              obtain ⟨t, r', e', _⟩ := hA
              refine ⟨_ :: fs, .cons ⟨a, o, its, n, e, ho, hc, hd, (by rw [← Array.getElem?_toList, e']; rfl), fun _ => ⟨_, _, rfl⟩, fun z => ?_⟩ hf⟩
              cases z
          | true =>
            cases xs with
            | nil => simp only [AlL] at hA
            | cons x xs =>
              cases x <;> simp only [AlL] at hA
              obtain ⟨t, r', e', _⟩ := hA
              refine ⟨_ :: fs, .cons ⟨a, o, its, n, e, ho, hc, hd, (by rw [← Array.getElem?_toList, e']; rfl), fun z => ?_, fun _ => ⟨_, _, rfl⟩⟩ hf⟩
              cases z
      obtain ⟨fs, hf⟩ := tof _ fun v hv => hv
      have hfl : ∀ {vs fs : List Value}, TupsOf s.heap (fun i => (b :: bs).getD i false) vs fs → fs.length = vs.length := by
        intro vs fs h
        induction h with
        | nil => rfl
        | cons _ _ ih => simp [ih]
      refine ⟨tuples' true, fun Q E hq => tup_kind (by rw [hfl hf]; simp) hf hq, fun p q hp hq => ?_⟩
      obtain ⟨xs, e1, a, o, its, n, e2, ho, _, hd, hA⟩ := tups _ hp
      obtain ⟨ys, e3, a', o', its', n', e4, ho', _, hd', hA'⟩ := tups _ hq
      obtain ⟨k, i1, k1⟩ := al_items _ _ _ 0 (fun i => (b :: bs).getD i false) sh0 hA
      obtain ⟨k', i2, k2⟩ := al_items _ _ _ 0 (fun i => (b :: bs).getD i false) sh0 hA'
      show wpAny (model P w) A (keyLt' (tuples' true) p.1 q.1) (fun r s' => s' = s ∧ r = ltS (.ti (b :: bs)) (g p.1) (g q.1)) _ s
      have e5 : ltS (.ti (b :: bs)) (g p.1) (g q.1) = klt k k' := by
        rw [e1, e3]
        show klt ((tupK (b :: bs) xs).getD []) ((tupK (b :: bs) ys).getD []) = klt k k'
        rw [k1, k2]; rfl
      rw [e5, e2, e4]
      exact PySem.W.kat_lt ho hd ho' hd' (tup_lex _ _ 0 k k' i1 i2 (by rw [Array.length_toList, Array.length_toList]) ⟨rfl, rfl⟩)
  | li => exact absurd (al v1 List.mem_cons_self) (by cases g v1 <;> exact id)
  | ls => exact absurd (al v1 List.mem_cons_self) (by cases g v1 <;> exact id)
theorem al_key {h : Heap} {S : Shp} {x : D} {u : Value} (a : Al h S x u) : (keyS S x).isSome = true := by
  cases S with
  | ti bs =>
    cases bs with
    | nil => cases x <;> exact a.elim
    | cons b bs =>
      cases x with
      | tup xs =>
        obtain ⟨_, _, its, _, _, _, _, _, r⟩ := a
        obtain ⟨k, _, e⟩ := al_items _ _ _ 0 (fun i => (b :: bs).getD i false) (fun j c e => by show (b :: bs).getD (0 + j) false = c; rw [Nat.zero_add, List.getD_eq_getElem?_getD, e]; rfl) r
        show (tupK (b :: bs) xs).isSome = true
        rw [e]; rfl
      | _ => exact a.elim
  | i => cases x <;> first | rfl | exact a.elim
  | s => cases x <;> first | rfl | exact a.elim
  | b => cases x <;> first | rfl | exact a.elim
  | li => cases x <;> exact a.elim
  | ls => cases x <;> exact a.elim
end
end SB
set_option Elab.async false
set_option linter.all false
set_option maxRecDepth 100000
namespace SB
open PySem L2 PySem.Spec PyProof.Rows
def flatS : Shp → Bool
  | .i | .s | .b | .ti _ => true
  | _ => false
def dSortSet (b : Bool) (f : DE) : DE := fun ρ μ => (f ρ μ).bind fun x μ1 => match seqL (vw μ1 x) with
  | some xs => match shpAll xs with
    | some S => if xs.length < 64 ∧ flatS S = true then mkL b (sortS S (nubS S xs)) μ1 else .bad
    | none => .bad
  | none => .bad
abbrev Tr := List (D × V × Value)
section
variable {Z : Zx} {F : Hp} {m : List Addr}
def TrOk (Z : Zx) (F : Hp) (m : List Addr) (T : Tr) : Prop := ∀ t ∈ T, Rl Z F m t.1 t.2.1 ∧ RelV t.2.1 t.2.2
theorem tr_of : ∀ {xs : List D} {vs : List V} {us : List Value}, Rls Z F m xs vs → Vals vs us → ∃ T : Tr, xs = T.map (·.1) ∧ vs = T.map (·.2.1) ∧ us = T.map (·.2.2) ∧ TrOk Z F m T
  | [], vs, us, r, h => by
    simp only [Rls] at r; subst r
    cases h
    exact ⟨[], rfl, rfl, rfl, fun t ht => by cases ht⟩
  | x :: xs, vs, us, r, h => by
    simp only [Rls] at r
    obtain ⟨v, vs', rfl, h1, h2⟩ := r
    cases h with
    | cons a t =>
      obtain ⟨T, rfl, rfl, rfl, ok⟩ := tr_of h2 t
      exact ⟨(x, v, _) :: T, rfl, rfl, rfl, fun t ht => by
        rcases List.mem_cons.mp ht with e | ht
        · rw [e]; exact ⟨h1, a⟩
        · exact ok t ht⟩
theorem tr_rls : ∀ {T : Tr}, TrOk Z F m T → Rls Z F m (T.map (·.1)) (T.map (·.2.1)) ∧ Vals (T.map (·.2.1)) (T.map (·.2.2))
  | [], _ => ⟨.nil, .nil⟩
  | t :: T, h => by
    obtain ⟨a, b⟩ := tr_rls (T := T) fun u hu => h u (List.mem_cons_of_mem _ hu)
    obtain ⟨c, d⟩ := h t List.mem_cons_self
    exact ⟨.cons c a, .cons d b⟩
theorem alL_of : ∀ (bs : List Bool) {xs : List D} {vs : List V} {us : List Value}, (tupK bs xs).isSome = true → Rls Z F m xs vs → Vals vs us → AlL bs xs us
  | [], [], vs, us, h, r, q => by
    simp only [Rls] at r; subst r; cases q; simp only [AlL]
  | [], x :: xs, vs, us, h, r, q => by simp only [tupK] at h; cases h
  | b :: bs, [], vs, us, h, r, q => by cases b <;> simp only [tupK] at h <;> cases h
  | false :: bs, x :: xs, vs, us, h, r, q => by
    cases x <;> simp only [tupK] at h <;> first | (cases h; done) | skip
    simp only [Rls] at r
    obtain ⟨v, vs', rfl, h1, h2⟩ := r
    simp only [Rl] at h1
    subst h1
    cases q with
    | cons a t =>
      obtain ⟨tk, e⟩ := a
      simp only [AlL]
      exact ⟨tk, _, by rw [e], alL_of bs (by simpa using h) h2 t⟩
  | true :: bs, x :: xs, vs, us, h, r, q => by
    cases x <;> simp only [tupK] at h <;> first | (cases h; done) | skip
    simp only [Rls] at r
    obtain ⟨v, vs', rfl, h1, h2⟩ := r
    simp only [Rl] at h1
    subst h1
    cases q with
    | cons a t =>
      obtain ⟨tk, e⟩ := a
      simp only [AlL]
      exact ⟨tk, _, by rw [e], alL_of bs (by simpa using h) h2 t⟩
end
section
variable {X : Cx} {ct : Nat → Addr × List Str} {pins : List (Addr × Obj)} {σ : L2.St} {F H : Hp} {m : List Addr} {μ : Mu} {s : Shared}
theorem al_of (I : Inv X pins σ H s) (W : Wd (zx X ct) F m μ H) {S : Shp} {x : D} {v : V} {u : Value} (hS : flatS S = true) (hk : (keyS S x).isSome = true) (r : Rl (zx X ct) F m x v) (q : RelV v u) : Al s.heap S x u := by
  cases S with
  | i =>
    cases x <;> simp only [keyS] at hk <;> first | (cases hk; done) | skip
    simp only [Rl] at r; subst r
    exact q
  | s =>
    cases x <;> simp only [keyS] at hk <;> first | (cases hk; done) | skip
    simp only [Rl] at r; subst r
    exact q
  | b =>
    cases x <;> simp only [keyS] at hk <;> first | (cases hk; done) | skip
    simp only [Rl] at r; subst r
    exact q
  | ti bs =>
    cases bs with
    | nil => cases x <;> simp only [keyS] at hk <;> cases hk
    | cons b bs =>
      cases x <;> simp only [keyS] at hk <;> first | (cases hk; done) | skip
      simp only [Rl] at r
      obtain ⟨a, vs, rfl, f, rs⟩ := r
      have hq : SqT X.K H a vs := SqT.of (W.le _ _ f)
      obtain ⟨its, rv, ⟨o, ho, hc, n, hd⟩, _⟩ := I.tuple hq
      obtain rfl : u = Value.ref a := q
      exact ⟨a, o, its.toArray, n, rfl, ho, hc, hd, by simpa using alL_of _ hk rs rv⟩
  | li => cases hS
  | ls => cases hS
end
theorem pre_map {α β : Type} (g : α → β) (T : List α) : ∀ L : List β, (∀ p ∈ L, p ∈ T.map g) → ∃ L' : List α, L = L'.map g ∧ ∀ q ∈ L', q ∈ T
  | [], _ => ⟨[], rfl, fun q h => by cases h⟩
  | p :: L, h => by
    obtain ⟨L', e, hs⟩ := pre_map g T L fun q hq => h q (List.mem_cons_of_mem _ hq)
    obtain ⟨t, ht, et⟩ := List.mem_map.mp (h p List.mem_cons_self)
    exact ⟨t :: L', by rw [List.map_cons, et, e], fun q hq => by
      rcases List.mem_cons.mp hq with e | hq
      · rw [e]; exact ht
      · exact hs q hq⟩
noncomputable def backD (T : Tr) (u : Value) : D := open Classical in if h : ∃ t ∈ T, t.2.2 = u then (Classical.choose h).1 else .non
theorem backD_eq {T : Tr} (hu : ∀ t ∈ T, ∀ t' ∈ T, t.2.2 = t'.2.2 → t.1 = t'.1) {t : D × V × Value} (ht : t ∈ T) : backD T t.2.2 = t.1 := by
  have h : ∃ t' ∈ T, t'.2.2 = t.2.2 := ⟨t, ht, rfl⟩
  unfold backD
  rw [dif_pos h]
  exact hu _ (Classical.choose_spec h).1 t ht (Classical.choose_spec h).2
section
variable {P : Program} {w : World} {κ : Type} [DecidableEq κ] {Z : Adr P w κ} {A : Around} {E : Value → Shared → Prop} {s : Shared}
theorem sorted_set_tr {T : Tr} {S : Shp} {kd : D → κ} {a : Addr} {L : List (κ × Value)} {Q : Value → Shared → Prop} (hh : A.handled = none) (few : T.length < 64)
    (his : ∀ t ∈ T, Z.is s.heap (kd t.1) t.2.2) (hkd : ∀ t ∈ T, ∀ t' ∈ T, kd t.1 = kd t'.1 → t.1 = t'.1) (hal : ∀ t ∈ T, Al s.heap S t.1 t.2.2) (R : Z.Ok s.heap a L) (G : GotK (T.map fun t => (kd t.1, t.2.2)) T.length L)
    (hQ : ∀ s' p (T' : Tr) (c : Nat), (∀ b o, s.heap.get? b = some o → s'.heap.get? b = some o) → s'.gens = s.gens → s'.os = s.os → s.heap.objs.size ≤ p → s'.heap.get? p = some (seqObj "list" (T'.map (·.2.2)).toArray c) → (∀ t ∈ T', t ∈ T) → T'.map (·.1) = sortS S (nubS S (T.map (·.1))) → Q (.ref p) s') :
    wpAny (model P w) A (call (.builtin "sorted") [.ref a]) Q E s := by
  have hu : ∀ t ∈ T, ∀ t' ∈ T, t.2.2 = t'.2.2 → t.1 = t'.1 := fun t ht t' ht' e => hkd t ht t' ht' (Z.inj (his t ht) (e ▸ his t' ht'))
  have hks : ∀ x ∈ T.map (·.1), (keyS S x).isSome = true := fun x hx => by
    obtain ⟨t, ht, rfl⟩ := List.mem_map.mp hx
    exact al_key (hal t ht)
  have hsub := G.sub
  have hall := G.all
  rw [List.take_of_length_le (by rw [List.length_map]; exact Nat.le_refl _)] at hsub hall
  obtain ⟨L1, e1, s1⟩ := pre_map _ T L hsub
  refine sorted_of (Z := Z) (swo_key fun u => keyD S (backD T u)) R (Nat.lt_of_le_of_lt G.len few) hh (fun vs sx A' b h2 hv nb kp => ?_) fun s' p out c k g o hp hg pm hs => ?_
  · intro h' keep
    refine al_cmp (s := { sx with heap := h' }) h2 fun v hm => ?_
    have hm2 := hv v hm
    rw [e1, List.map_map] at hm2
    obtain ⟨t, ht, rfl⟩ := List.mem_map.mp hm2
    show Al h' S (backD T t.2.2) t.2.2
    rw [backD_eq hu (s1 t ht)]
    exact (hal t (s1 t ht)).keep fun c o e => keep c o (fun z => by rw [z, nb] at e; cases e) (kp c o e)
  · rw [e1, List.map_map] at pm
    obtain ⟨L2, e2, p2⟩ := perm_back (fun t : D × V × Value => t.2.2) pm L1 rfl
    have s2 : ∀ t ∈ L2, t ∈ T := fun t ht => s1 t (p2.mem_iff.mp ht)
    refine hQ s' p L2 c k g o hp (by rw [← e2]; exact hg) s2 (sortS_uniq (fun x hx => hks x ((nubS_mem hks x).mp hx)) ?_ ?_)
    · have nd : (L2.map (·.1)).Nodup := by
        have n1 := G.nd
        rw [e1, List.map_map] at n1
        have n2 : (L2.map fun t => kd t.1).Nodup := ((p2.map fun t : D × V × Value => kd t.1).nodup_iff).mpr n1
        exact nodup_of_map (f := kd) (by rw [List.map_map]; exact n2)
      refine (List.perm_ext_iff_of_nodup nd (nubS_nd hks)).mpr fun x => ?_
      rw [nubS_mem hks]
      constructor
      · intro hx
        obtain ⟨t, ht, rfl⟩ := List.mem_map.mp hx
        exact List.mem_map.mpr ⟨t, s2 t ht, rfl⟩
      · intro hx
        obtain ⟨t, ht, rfl⟩ := List.mem_map.mp hx
        have := hall (kd t.1, t.2.2) (List.mem_map.mpr ⟨t, ht, rfl⟩)
        rw [e1, List.map_map] at this
        obtain ⟨t', ht', e⟩ := List.mem_map.mp this
        have e3 : t'.1 = t.1 := hkd t' (s1 t' ht') t ht e
        exact List.mem_map.mpr ⟨t', p2.mem_iff.mpr ht', e3⟩
    · refine List.pairwise_map.mpr ?_
      rw [e2] at hs
      refine List.Pairwise.imp_of_mem (fun {x y} hx hy h => ?_) (List.pairwise_map.mp hs)
      have h' : klt (keyD S (backD T y.2.2)) (keyD S (backD T x.2.2)) = false := h
      rw [backD_eq hu (s2 x hx), backD_eq hu (s2 y hy)] at h'
      exact h'
end
def kdMix : D → Key
  | .int i => .inl i
  | .str z => .inr z
  | _ => .inl 0
def kdBool : D → Bool
  | .bl b => b
  | _ => false
def kdTup : D → List Key
  | .tup xs => xs.map kdMix
  | _ => []
theorem mix_sc (P : Program) (w : World) (k : Key) (v : Value) (h : (mixKind P w).is k v = true) : v.scannable = true := by
  rcases keyIs_shape h with ⟨i, t, rfl, rfl⟩ | ⟨x, t, rfl, rfl⟩ <;> rfl
theorem bool_sc (P : Program) (w : World) (k : Bool) (v : Value) (h : (PpSet.boolK P w).is k v = true) : v.scannable = true := by
  rw [PpSet.isB_shape h]; rfl
theorem mix_leafy (P : Program) (w : World) : Leafy (mixKind P w) := ⟨fun n k v h => by
  rcases keyIs_shape h with ⟨i, t, rfl, rfl⟩ | ⟨x, t, rfl, rfl⟩ <;> cases n <;> rfl, fun n k v h => by
  rcases keyIs_shape h with ⟨i, t, rfl, rfl⟩ | ⟨x, t, rfl, rfl⟩ <;> cases n <;> exact ⟨_, rfl⟩⟩
theorem alL_keys {P : Program} {w : World} : ∀ (bs : List Bool) (xs : List D) (us : List Value), AlL bs xs us → ItemsAre (mixKind P w) (xs.map kdMix) us
  | [], [], us, h => by simp only [AlL] at h; subst h; exact .nil
  | [], x :: xs, us, h => by simp only [AlL] at h
  | b :: bs, [], us, h => by cases b <;> simp only [AlL] at h
  | false :: bs, x :: xs, us, h => by
    cases x <;> simp only [AlL] at h
    obtain ⟨t, r, rfl, h⟩ := h
    exact .cons (mixKind_int P w _ t) (alL_keys bs xs r h)
  | true :: bs, x :: xs, us, h => by
    cases x <;> simp only [AlL] at h
    obtain ⟨t, r, rfl, h⟩ := h
    exact .cons (mixKind_str P w _ t) (alL_keys bs xs r h)
theorem mix_inj : ∀ (bs : List Bool) (xs ys : List D), (tupK bs xs).isSome = true → (tupK bs ys).isSome = true → xs.map kdMix = ys.map kdMix → xs = ys
  | [], [], [], _, _, _ => rfl
  | [], [], y :: ys, _, h, _ => by simp only [tupK] at h; cases h
  | [], x :: xs, _, h, _, _ => by simp only [tupK] at h; cases h
  | b :: bs, [], _, h, _, _ => by cases b <;> simp only [tupK] at h <;> cases h
  | b :: bs, x :: xs, [], _, h, _ => by cases b <;> simp only [tupK] at h <;> cases h
  | false :: bs, x :: xs, y :: ys, h1, h2, e => by
    cases x <;> simp only [tupK] at h1 <;> first | (cases h1; done) | skip
    cases y <;> simp only [tupK] at h2 <;> first | (cases h2; done) | skip
    simp only [List.map_cons, kdMix, List.cons.injEq, Sum.inl.injEq] at e
    obtain ⟨e1, e2⟩ := e
    subst e1
    rw [mix_inj bs xs ys (by simpa using h1) (by simpa using h2) e2]
  | true :: bs, x :: xs, y :: ys, h1, h2, e => by
    cases x <;> simp only [tupK] at h1 <;> first | (cases h1; done) | skip
    cases y <;> simp only [tupK] at h2 <;> first | (cases h2; done) | skip
    simp only [List.map_cons, kdMix, List.cons.injEq, Sum.inr.injEq] at e
    obtain ⟨e1, e2⟩ := e
    subst e1
    rw [mix_inj bs xs ys (by simpa using h1) (by simpa using h2) e2]
section
variable {P : Program} {w : World} {A : Around} {E : Value → Shared → Prop} {s : Shared}
/-- both calls -/
theorem set_sorted {T : Tr} {S : Shp} {l : Addr} {items : Array Value} {R : Value → Shared → Prop} (hh : A.handled = none) (hu : A.units + 3 < cLine) (few : T.length < 64) (hal : ∀ t ∈ T, Al s.heap S t.1 t.2.2) (hl : s.heap.IsList l items) (hit : items.toList = T.map (·.2.2))
    (h : ∀ a (h' : Heap) tk, (∀ b o, s.heap.get? b = some o → h'.get? b = some o) → (∀ Q : Value → Shared → Prop, (∀ s' p (T' : Tr) (c : Nat), (∀ b o, s.heap.get? b = some o → s'.heap.get? b = some o) → s'.gens = s.gens → s'.os = s.os → s.heap.objs.size ≤ p → s'.heap.get? p = some (seqObj "list" (T'.map (·.2.2)).toArray c) → (∀ t ∈ T', t ∈ T) →
      T'.map (·.1) = sortS S (nubS S (T.map (·.1))) → Q (.ref p) s') → wpAny (model P w) A (call (.builtin "sorted") [.ref a]) Q E { s with heap := h', toks := tk }) → R (.ref a) { s with heap := h', toks := tk }) :
    wpAny (model P w) A (call (.type "set") [.ref l]) R E s := by
  have go : ∀ {κ : Type} [DecidableEq κ] (Z : Adr P w κ) (kd : D → κ), (∀ t ∈ T, Z.is s.heap (kd t.1) t.2.2) → (∀ t ∈ T, ∀ t' ∈ T, kd t.1 = kd t'.1 → t.1 = t'.1) → wpAny (model P w) A (call (.type "set") [.ref l]) R E s := by
    intro κ _ Z kd his hkd
    refine call_set (Z := Z) (T.map fun t => (kd t.1, t.2.2)) hh hl (by rw [hit, List.map_map]; rfl) (fun p hp => ?_) (by rw [List.length_map]; exact few) hu fun h' tk L ok G k => ?_
    · obtain ⟨t, ht, rfl⟩ := List.mem_map.mp hp
      exact his t ht
    · rw [List.length_map] at G
      have hle : s.heap.objs.size ≤ h'.objs.size := by
        rcases Nat.lt_or_ge h'.objs.size s.heap.objs.size with c | c
        · exfalso
          obtain ⟨es, ep, t, ⟨o, ho, _⟩, _⟩ := Z.sees ok (Nat.lt_of_le_of_lt G.len few)
          exact absurd (Nat.lt_trans (Heap.lt_size ho) c) (Nat.lt_irrefl _)
        · exact c
      refine h _ h' tk k fun Q hQ => sorted_set_tr (Z := Z) (s := { s with heap := h', toks := tk }) hh few (fun t ht => Z.keepIs (his t ht) fun b o e _ => k b o e) hkd (fun t ht => (hal t ht).keep k) ok G fun s' p T' c k' g o hp hg st es => ?_
      exact hQ s' p T' c (fun b o e => k' b o (k b o e)) g o (Nat.le_trans hle hp) hg st es
  have key := fun t ht => al_key (hal t ht)
  cases S with
  | i => exact go (lfAdr (mixKind P w) (mix_sc P w)) kdMix (fun t ht => by
      have a := hal t ht
      cases e : t.1 with
      | int i => rw [e] at a; obtain ⟨tk, e2⟩ := a; rw [e2]; exact mixKind_int P w i tk
      | _ => rw [e] at a; exact a.elim) (fun t ht t' ht' e => by
      have a := hal t ht
      have a' := hal t' ht'
      cases e1 : t.1 <;> rw [e1] at a e <;> first | exact a.elim | skip
      cases e2 : t'.1 <;> rw [e2] at a' e <;> first | exact a'.elim | skip
      simp only [kdMix, Sum.inl.injEq] at e
      rw [e])
  | s => exact go (lfAdr (mixKind P w) (mix_sc P w)) kdMix (fun t ht => by
      have a := hal t ht
      cases e : t.1 with
      | str i => rw [e] at a; obtain ⟨tk, e2⟩ := a; rw [e2]; exact mixKind_str P w i tk
      | _ => rw [e] at a; exact a.elim) (fun t ht t' ht' e => by
      have a := hal t ht
      have a' := hal t' ht'
      cases e1 : t.1 <;> rw [e1] at a e <;> first | exact a.elim | skip
      cases e2 : t'.1 <;> rw [e2] at a' e <;> first | exact a'.elim | skip
      simp only [kdMix, Sum.inr.injEq] at e
      rw [e])
  | b => exact go (lfAdr (PpSet.boolK P w) (bool_sc P w)) kdBool (fun t ht => by
      have a := hal t ht
      cases e : t.1 with
      | bl i => rw [e] at a; have e2 : t.2.2 = .bool i := a; rw [e2]; exact PpSet.boolK_is P w i
      | _ => rw [e] at a; exact a.elim) (fun t ht t' ht' e => by
      have a := hal t ht
      have a' := hal t' ht'
      cases e1 : t.1 <;> rw [e1] at a e <;> first | exact a.elim | skip
      cases e2 : t'.1 <;> rw [e2] at a' e <;> first | exact a'.elim | skip
      simp only [kdBool] at e
      rw [e])
  | ti bs =>
    cases bs with
    | nil => exact go (lfAdr (mixKind P w) (mix_sc P w)) kdMix (fun t ht => absurd (hal t ht) (by cases t.1 <;> exact id)) fun t ht => absurd (hal t ht) (by cases t.1 <;> exact id)
    | cons b bs => exact go (tpAdr (mixKind P w) (mix_leafy P w)) kdTup (fun t ht => by
        have a := hal t ht
        cases e : t.1 with
        | tup xs => rw [e] at a; obtain ⟨c, o, its, n, e2, ho, hc, hd, hA⟩ := a; exact ⟨c, e2, o, its, n, ho, hc, hd, alL_keys _ _ _ hA⟩
        | _ => rw [e] at a; exact a.elim) (fun t ht t' ht' e => by
        have a := key t ht
        have a' := key t' ht'
        cases e1 : t.1 <;> rw [e1] at a e <;> first | (simp only [keyS] at a; cases a; done) | skip
        cases e2 : t'.1 <;> rw [e2] at a' e <;> first | (simp only [keyS] at a'; cases a'; done) | skip
        simp only [kdTup] at e
        rw [mix_inj (b :: bs) _ _ a a' e])
  | li => exact go (lfAdr (mixKind P w) (mix_sc P w)) kdMix (fun t ht => absurd (hal t ht) (by cases t.1 <;> exact id)) fun t ht => absurd (hal t ht) (by cases t.1 <;> exact id)
  | ls => exact go (lfAdr (mixKind P w) (mix_sc P w)) kdMix (fun t ht => absurd (hal t ht) (by cases t.1 <;> exact id)) fun t ht => absurd (hal t ht) (by cases t.1 <;> exact id)
end
theorem shpAll_key {xs : List D} {S : Shp} (h : shpAll xs = some S) : ∀ x ∈ xs, (keyS S x).isSome = true := by
  cases xs with
  | nil => exact fun x hx => by cases hx
  | cons y ys =>
    simp only [shpAll] at h
    split at h
    · split at h
      · rename_i c
        cases h
        exact List.all_eq_true.mp c
      · cases h
    · cases h
section
variable {X : Cx} {ct : Nat → Addr × List Str} {pos p p2 q : Pos} {e : Expr} {f : DE}
theorem de_sortset (bb : Bool) (hc : X.calm = true) (hu : X.A.units + 64 < cLine) (hm : X.mg "sorted" = none) (hm2 : X.mg "set" = none) (he : PE X e (tE (zx X ct) f)) (hg : Gl X "sorted" := by rfl) (hg2 : Gl X "set" := by rfl)
    (na : starEach [e] X.env = (false, eval e X.env) :: starEach [] X.env := by rfl) : PE X (.Call (.Name "sorted" p) [.Call (.Name "set" p2) [e] [] q] [] pos) (tE (zx X ct) (dSortSet bb f)) := by
  refine ⟨fun pins s σ H Q I q => ?_⟩
  obtain ⟨F, m, ρ, μ, d, μ', W, r, e1, k⟩ := q
  obtain ⟨x, μ1, e2, e3⟩ := bind_inv e1
  refine Call_ (ld_blt I hg hm PyProof.Rows.boot_sorted ?_)
  refine PyProof.Rows.callWith_builtin1 (PyProof.Rows.args_cons ?_ rfl) rfl rfl
  refine Call_ (ld_blt I hg2 hm2 PyProof.Rows.boot_set ?_)
  refine PyProof.Rows.callWith_type1 (PyProof.Rows.args_cons (thn (he.run pins s σ H (fun v H1 => ∃ F1 m1, Xt F m H F1 m1 H1 ∧ Wd (zx X ct) F1 m1 μ1 H1 ∧ Rl (zx X ct) F1 m1 x v) I ⟨F, m, ρ, μ, x, μ1, W, r, e2, fun v F1 m1 H1 x1 W1 rx => ⟨F1, m1, x1, W1, rx⟩⟩) fun v s1 ⟨xv, H1, I1, r1, F1, m1, x1, W1, rx⟩ => PyProof.Rows.args_nil ?_) na) na rfl
  split at e3
  · rename_i xs hxs
    split at e3
    · rename_i S hS
      split at e3
      · rename_i hc2
        obtain ⟨few, fl⟩ := hc2
        obtain ⟨a, vs, rfl, hq, rs⟩ := vw_seq W1 rx hxs
        cases r1
        obtain ⟨its, rv, pl, hz⟩ := I1.list hq
        obtain ⟨T, rfl, rfl, rfl, ok⟩ := tr_of rs rv
        have hal : ∀ t ∈ T, Al s1.heap S t.1 t.2.2 := fun t ht => al_of I1 W1 fl (shpAll_key hS _ (List.mem_map.mpr ⟨t, ht, rfl⟩)) (ok t ht).1 (ok t ht).2
        rw [List.length_map] at few
        refine set_sorted (I1.ok.hd hc) (by omega) few hal pl.isList rfl fun b h' tk kp srt => PyProof.Rows.args_nil (srt _ fun s' p T' c k' g o hp hg st es => ?_)
        have okT : TrOk (zx X ct) F1 m1 T' := fun t ht => ok t (st t ht)
        obtain ⟨rs', rv'⟩ := tr_rls okT
        rw [es] at rs'
        obtain ⟨hl, z⟩ := Aft.newL W1 rs' e3 (k.weak x1 W1)
        have hn : H1 p = none := I1.hok.fresh hp
        have J : Inv X pins σ (upd H1 p (.lst (T'.map (·.2.1)))) { s1 with heap := s'.heap, gens := s'.gens, drawn := s'.drawn, toks := s'.toks } :=
          I1.call (ch := []) (Un.laid k' hp hn) (I1.hok.laid k' hp ⟨hl, _, c, rv', hg⟩) (by rw [g]; exact I1.bare) (fun _ z => nomatch z)
        have e : s' = { s1 with heap := s'.heap, gens := s'.gens, drawn := s'.drawn, toks := s'.toks } := by
          cases s'
          cases s1
          cases o
          rfl
        rw [e]
        exact ⟨.ref p, _, J, rfl, z p hn⟩
      · cases e3
    · cases e3
  · cases e3
end
end SB
set_option Elab.async false
set_option linter.all false
set_option maxRecDepth 100000
namespace SB
open PySem L2
def iText (f : DE) : DI := fun ρ μ => (f ρ μ).bind fun d μ1 => match vw μ1 d with
  | .str z => .ok (z.cps.toList.map fun c => .str ⟨#[c]⟩) μ1
  | _ => .bad
/-- the items of a dict that stays as it is -/
def iItems (f : DE) : DI := fun ρ μ => (f ρ μ).bind fun d μ1 => match d with
  | .dic es => if es = [] ∨ dkind es = some false then .ok (es.map fun p => .tup [p.1, p.2]) μ1 else .bad
  | _ => .bad
def dRev (b : Bool) (f : DE) : DE := fun ρ μ => (f ρ μ).bind fun x μ1 => match seqL (vw μ1 x) with
  | some xs => mkL b xs.reverse μ1
  | none => .bad
section
variable {Z : Zx} {F H : Hp} {m : List Addr} {μ : Mu}
theorem itok_str (z : Str) : ItOk Z (Its z) F m (z.cps.toList.map fun c => .str ⟨#[c]⟩) := by
  intro F' m' μ' H' g W i
  refine ⟨fun h => ?_, fun d hd => ?_⟩
  · rw [List.length_map, Array.length_toList] at h; exact h
  · rw [List.getElem?_map, Array.getElem?_toList] at hd
    obtain ⟨c, hc, rfl⟩ := Option.map_eq_some_iff.mp hd
    refine ⟨(Array.getElem?_eq_some_iff.mp hc).1, fun x H2 y => ?_⟩
    obtain ⟨rfl, c', hc', rfl⟩ := y
    rw [hc] at hc'; cases hc'
    exact ⟨F', m', Xt.refl _ _ _, W, by simp only [Rl]⟩
theorem rlk_at : ∀ {es : List (D × D)} {ks : List (Key × V)} {i : Nat} {q : Key} {v : V}, Rlk Z F m es ks → ks[i]? = some (q, v) → ∃ d, es[i]? = some (dKey q, d) ∧ Rl Z F m d v
  | [], ks, i, q, v, h, e => by simp only [Rlk] at h; subst h; simp at e
  | (k, d) :: es, ks, 0, q, v, h, e => by
    simp only [Rlk] at h
    obtain ⟨q', v', r, rfl, rfl, h1, _⟩ := h
    simp at e
    obtain ⟨rfl, rfl⟩ := e
    exact ⟨d, rfl, h1⟩
  | (k, d) :: es, ks, i + 1, q, v, h, e => by
    simp only [Rlk] at h
    obtain ⟨q', v', r, rfl, rfl, _, h2⟩ := h
    obtain ⟨d', e1, e2⟩ := rlk_at (i := i) h2 (by simpa using e)
    exact ⟨d', by simpa using e1, e2⟩
theorem itok_items {a : Addr} {o : Obj} {ks : List (Key × V)} {es : List (D × D)} (f : F a = some (.frz o (.dK ks))) (r : Rlk Z F m es ks) : ItOk Z (Iti a o ks) F m (es.map fun p => .tup [p.1, p.2]) := by
  intro F' m' μ' H' g W i
  have f' : H' a = some (.frz o (.dK ks)) := W.le _ _ (g.ff _ _ f)
  have hl := rlk_len r
  refine ⟨fun h => ⟨f', by rw [List.length_map] at h; omega⟩, fun d hd => ?_⟩
  rw [List.getElem?_map] at hd
  obtain ⟨⟨k, e⟩, he, rfl⟩ := Option.map_eq_some_iff.mp hd
  have hi : i < ks.length := by
    have := (List.getElem?_eq_some_iff.mp he).1
    omega
  refine ⟨⟨f', hi⟩, fun x H2 y => ?_⟩
  obtain ⟨T, q, v, h1, rfl, hn, rfl⟩ := y
  obtain ⟨d2, e2, rv⟩ := rlk_at r h1
  rw [he] at e2; cases e2
  obtain ⟨W2, x2⟩ := W.frozen (.tup [kV q, v]) hn
  refine ⟨_, _, x2, W2, ?_⟩
  simp only [Rl]
  refine ⟨T, [kV q, v], rfl, upd_same, .cons ?_ (.one (Rl.gr x2.gr _ _ (Rl.gr g _ _ rv)))⟩
  rw [rl_key]
end
section
variable {X : Cx} {ct : Nat → Addr × List Str} {tg e e1 e2 : Expr} {f g : DE} {pos p cpos apos : Pos}
theorem di_text (he : PE X e (tE (zx X ct) f)) : PI X tg e (iS (zx X ct) (iText f)) := by
  refine pi_imp (pi_str he) fun σ H R q => ?_
  obtain ⟨F, m, ρ, μ, d, μ', W, r, e, k⟩ := q
  refine tE_bind W r e fun x μ1 v F1 m1 H1 e1 x1 W1 r1 rx => ?_
  split at e1
  · rename_i z hz
    cases e1
    exact ⟨z, vw_str W1 rx hz, k _ F1 m1 H1 x1 W1 (itok_str z)⟩
  · cases e1
/-- a frozen dict with values for its keys, or none -/
theorem dic_dK {pins : List (Addr × Obj)} {σ : St} {F H : Hp} {m : List Addr} {μ : Mu} {s : Shared} {es : List (D × D)} {v : V} (I : Inv X pins σ H s) (W : Wd (zx X ct) F m μ H) (r : Rl (zx X ct) F m (.dic es) v) (hk : es = [] ∨ dkind es = some false) :
    ∃ a o ks, v = .ref a ∧ F a = some (.frz o (.dK ks)) ∧ Rlk (zx X ct) F m es ks := by
  simp only [Rl] at r
  obtain ⟨a, o, u, rfl, f, q⟩ := r
  rcases q with ⟨ks, rfl, q⟩ | ⟨ns, rfl, q⟩
  · exact ⟨a, o, ks, rfl, f, q⟩
  · exfalso
    have hR : Rd H a (dN X.prog X.w a ns) := .inr ⟨o, W.le _ _ f⟩
    obtain ⟨⟨⟨_, hne⟩, _⟩, _⟩ := hR.ok I.hok
    cases es with
    | nil => exact hne (none_of_len q)
    | cons kd es =>
      obtain ⟨k, d⟩ := kd
      rcases hk with hk | hk
      · cases hk
      · simp only [Rln] at q
        obtain ⟨_, _, _, _, _, ⟨_, e3⟩, _⟩ := q
        simp only [dkind, e3] at hk
        cases hk
theorem di_items {elts : List Expr} {kk : Nat} {tpos : Pos} (he : PE X e (tE (zx X ct) f)) (hbase : attributeBase e "items" X.env (eval e X.env) = eval e X.env := by rfl) (hline : (apos.endLine == cpos.line) = true := by rfl) :
    PI X (.Tuple elts kk tpos) (.Call (.Attribute e "items" apos) [] [] cpos) (iS (zx X ct) (iItems f)) := by
  have he2 : PE X e (fun σ H Q => ∃ F m ρ μ d μ' es, Wd (zx X ct) F m μ H ∧ RlE (zx X ct) F m ρ σ ∧ f ρ μ = .ok (.dic es) μ' ∧ (es = [] ∨ dkind es = some false) ∧ d = D.dic es ∧ ∀ F' m' H' a o ks, Xt F m H F' m' H' → Wd (zx X ct) F' m' μ' H' → F' a = some (.frz o (.dK ks)) → Rlk (zx X ct) F' m' es ks → Q (.ref a) H') := by
    refine ⟨fun pins s σ H Q I q => ?_⟩
    obtain ⟨F, m, ρ, μ, d, μ', es, W, r, e, hk, rfl, k⟩ := q
    refine thn (he.run pins s σ H (fun v H1 => ∃ F1 m1, Xt F m H F1 m1 H1 ∧ Wd (zx X ct) F1 m1 μ' H1 ∧ Rl (zx X ct) F1 m1 (.dic es) v) I ⟨F, m, ρ, μ, _, μ', W, r, e, fun v F1 m1 H1 x1 W1 rx => ⟨F1, m1, x1, W1, rx⟩⟩) fun u s1 ⟨v, H1, I1, rv, F1, m1, x1, W1, rx⟩ => ?_
    obtain ⟨a, o, ks, rfl, h1, h2⟩ := dic_dK I1 W1 rx hk
    exact ⟨.ref a, H1, I1, rv, k F1 m1 H1 a o ks x1 W1 h1 h2⟩
  refine pi_imp (pi_items he2 hbase hline) fun σ H R q => ?_
  obtain ⟨F, m, ρ, μ, d, μ', W, r, e, k⟩ := q
  obtain ⟨x, μ1, e1, e2⟩ := bind_inv e
  split at e2
  · rename_i es
    split at e2
    · rename_i hk
      cases e2
      exact ⟨F, m, ρ, μ, _, _, es, W, r, e1, hk, rfl, fun F1 m1 H1 a o ks x1 W1 h1 h2 => ⟨a, o, ks, rfl, W1.le _ _ h1, k _ F1 m1 H1 x1 W1 (itok_items h1 h2)⟩⟩
    · cases e2
  · cases e2
def frzL : List D → Mu → Res (List D)
  | [], μ => .ok [] μ
  | d :: ds, μ => (frz1 d μ).bind fun x μ1 => (frzL ds μ1).bind fun xs μ2 => .ok (x :: xs) μ2
def frzT (d : D) (μ : Mu) : Res D := match d with
  | .tup xs => (frzL xs μ).bind fun ys μ1 => .ok (.tup ys) μ1
  | d => frz1 d μ
def dFrzT (f : DE) : DE := fun ρ μ => (f ρ μ).bind frzT
/-- freezing as a step of its own -/
theorem frz_step {pins : List (Addr × Obj)} {σ : St} {F H : Hp} {m : List Addr} {μ μ' : Mu} {s : Shared} {x d : D} {v : V} (I : Inv X pins σ H s) (W : Wd (zx X ct) F m μ H) (r : Rl (zx X ct) F m x v) (e : frz1 x μ = .ok d μ') :
    ∃ F' H', Inv X pins σ H' s ∧ Xt F m H F' m H' ∧ Wd (zx X ct) F' m μ' H' ∧ Rl (zx X ct) F' m d v := by
  unfold frz1 at e
  split at e
  · rename_i n
    obtain ⟨a, c, rfl, h1, h2, ck⟩ := W.at r
    rw [h2] at e
    cases c with
    | lst xs =>
      cases e
      obtain ⟨nF, vs, hH, rs⟩ := ck
      have rI : Rl (zx X ct) (upd F a (.lst vs)) m (.lst xs) (.ref a) := by
        simp only [Rl]; exact ⟨a, vs, rfl, upd_same, Rls.gr (upd_gr nF) _ _ rs⟩
      obtain ⟨W2, x2⟩ := W.freeze (H' := H) (.lst xs) h1 nF rfl (fun _ _ _ e => e) (fun _ _ _ e => e) hH rI
      exact ⟨_, H, I, x2, W2, rI⟩
    | dic es =>
      cases e
      obtain ⟨nF, w, hH, rs⟩ := ck
      obtain ⟨od, I2⟩ := I.lock hH (mut_of rs)
      have rI : Rl (zx X ct) (upd F a (.frz od w)) m (.dic es) (.ref a) := by
        simp only [Rl]; exact ⟨a, od, w, rfl, upd_same, Rlu.gr (upd_gr nF) rs⟩
      obtain ⟨W2, x2⟩ := W.freeze (H' := upd H a (.frz od w)) (.dic es) h1 nF rfl (fun b u hb e => by rw [upd_ne hb]; exact e) (fun b u hb e => by rw [upd_ne hb] at e; exact e) upd_same rI
      exact ⟨_, _, I2, x2, W2, rI⟩
    | ins c fs =>
      cases e
      obtain ⟨nF, dx, vs, hH, rs, hl⟩ := ck
      have rI : Rl (zx X ct) (upd F a (.ins (ct c).1 dx ((ct c).2.zip vs))) m (.ins c fs) (.ref a) := by
        simp only [Rl]; exact ⟨a, dx, vs, rfl, upd_same, Rls.gr (upd_gr nF) _ _ rs, hl⟩
      obtain ⟨W2, x2⟩ := W.freeze (H' := H) (.ins c fs) h1 nF rfl (fun _ _ _ e => e) (fun _ _ _ e => e) hH rI
      exact ⟨_, H, I, x2, W2, rI⟩
    | fz d0 =>
      cases e
      exact ⟨F, H, I, Xt.refl _ _ _, W, ck.2⟩
  · cases e
    exact ⟨F, H, I, Xt.refl _ _ _, W, r⟩
theorem frz_steps {pins : List (Addr × Obj)} {σ : St} {s : Shared} : ∀ {xs ds : List D} {F H : Hp} {m : List Addr} {μ μ' : Mu} {vs : List V}, Inv X pins σ H s → Wd (zx X ct) F m μ H → Rls (zx X ct) F m xs vs → frzL xs μ = .ok ds μ' →
    ∃ F' H', Inv X pins σ H' s ∧ Xt F m H F' m H' ∧ Wd (zx X ct) F' m μ' H' ∧ Rls (zx X ct) F' m ds vs
  | [], ds, F, H, m, μ, μ', vs, I, W, r, e => by
    simp only [frzL] at e; cases e
    exact ⟨F, H, I, Xt.refl _ _ _, W, r⟩
  | x :: xs, ds, F, H, m, μ, μ', vs, I, W, r, e => by
    simp only [frzL] at e
    obtain ⟨y, μ1, e1, e2⟩ := bind_inv e
    obtain ⟨ys, μ2, e3, e4⟩ := bind_inv e2
    cases e4
    simp only [Rls] at r
    obtain ⟨v, vs', rfl, r1, r2⟩ := r
    obtain ⟨F1, H1, I1, x1, W1, rr⟩ := frz_step I W r1 e1
    obtain ⟨F2, H2, I2, x2, W2, rs⟩ := frz_steps I1 W1 (Rls.gr x1.gr _ _ r2) e3
    exact ⟨F2, H2, I2, x1.trans x2 W1.there, W2, .cons (Rl.gr x2.gr _ _ rr) rs⟩
theorem de_frzT (he : PE X e (tE (zx X ct) f)) : PE X e (tE (zx X ct) (dFrzT f)) := by
  refine ⟨fun pins s σ H Q I q => ?_⟩
  obtain ⟨F, m, ρ, μ, d, μ', W, r, e1, k⟩ := q
  obtain ⟨x, μ1, e2, e3⟩ := bind_inv e1
  refine thn (he.run pins s σ H (fun v H1 => ∃ F1 m1, Xt F m H F1 m1 H1 ∧ Wd (zx X ct) F1 m1 μ1 H1 ∧ Rl (zx X ct) F1 m1 x v) I ⟨F, m, ρ, μ, x, μ1, W, r, e2, fun v F1 m1 H1 x1 W1 rx => ⟨F1, m1, x1, W1, rx⟩⟩) fun u s1 ⟨v, H1, I1, rv, F1, m1, x1, W1, rx⟩ => ?_
  have k1 := k.weak x1 W1
  unfold frzT at e3
  split at e3
  · rename_i xs
    obtain ⟨ys, μ2, e4, e5⟩ := bind_inv e3
    cases e5
    simp only [Rl] at rx
    obtain ⟨a, vs, rfl, f, rs⟩ := rx
    obtain ⟨F2, H2, I2, x2, W2, rs2⟩ := frz_steps I1 W1 rs e4
    exact ⟨.ref a, H2, I2, rv, k1 _ _ _ _ x2 W2 (by simp only [Rl]; exact ⟨a, vs, rfl, x2.ff _ _ f, rs2⟩)⟩
  · obtain ⟨F2, H2, I2, x2, W2, r2⟩ := frz_step I1 W1 rx e3
    exact ⟨v, H2, I2, rv, k1 _ _ _ _ x2 W2 r2⟩
def mkD (b : Bool) (es : List (D × D)) (μ : Mu) : Res D := if b then .ok (.ref μ.length) (μ ++ [.dic es]) else .ok (.dic es) μ
/-- of a dict with values for its keys -/
def dDictOf (b : Bool) (f : DE) : DE := fun ρ μ => (f ρ μ).bind fun x μ1 => match x with
  | .dic es => if es = [] ∨ dkind es = some false then mkD b es μ1 else .bad
  | _ => .bad
theorem de_dictof (bb : Bool) (hm : X.mg "dict" = none) (he : PE X e (tE (zx X ct) f)) (hg : Gl X "dict" := by rfl) (na : starEach [e] X.env = (false, eval e X.env) :: starEach [] X.env := by rfl) : PE X (.Call (.Name "dict" p) [e] [] pos) (tE (zx X ct) (dDictOf bb f)) := by
  refine ⟨fun pins s σ H Q I q => ?_⟩
  obtain ⟨F, m, ρ, μ, d, μ', W, r, e1, k⟩ := q
  obtain ⟨x, μ1, e2, e3⟩ := bind_inv e1
  refine PyProof.Rows.Call_ (ld_blt I hg hm PyProof.Rows.boot_dict ?_)
  refine PyProof.Rows.callWith_type1 (PyProof.Rows.args_cons (thn (he.run pins s σ H (fun v H1 => ∃ F1 m1, Xt F m H F1 m1 H1 ∧ Wd (zx X ct) F1 m1 μ1 H1 ∧ Rl (zx X ct) F1 m1 x v) I ⟨F, m, ρ, μ, x, μ1, W, r, e2, fun v F1 m1 H1 x1 W1 rx => ⟨F1, m1, x1, W1, rx⟩⟩) fun u s1 ⟨v, H1, I1, rv, F1, m1, x1, W1, rx⟩ => PyProof.Rows.args_nil ?_) na) na rfl
  have k1 := k.weak x1 W1
  split at e3
  · rename_i es _
    split at e3
    · rename_i hk
      obtain ⟨a, o, ks, rfl, f, rk⟩ := dic_dK I1 W1 rx hk
      cases rv
      refine thn (call_dictD pins s1 σ H1 [.ref a] [.ref a] (fun v H2 => ∃ l, v = .ref l ∧ H1 l = none ∧ H2 = upd H1 l (.dK ks)) I1 (.cons rfl .nil) ⟨a, ks, rfl, .inr ⟨o, W1.le _ _ f⟩, fun l n => ⟨l, rfl, n, rfl⟩⟩) fun u s2 ⟨y, H2, I2, ry, l, ey, n, eH⟩ => ?_
      subst ey eH
      have nF : F1 l = none := by
        cases q : F1 l with
        | none => rfl
        | some u => rw [W1.le _ _ q] at n; cases n
      unfold mkD at e3
      cases bb with
      | true =>
        rw [if_pos rfl] at e3
        cases e3
        have g : Gr F1 m1 F1 (m1 ++ [l]) := ⟨fun _ _ e => e, fun i a e => by rw [List.getElem?_append_left (List.getElem?_eq_some_iff.mp e).1]; exact e⟩
        obtain ⟨W2, x2⟩ := W1.cellNew (o := .dK ks) (.dic es) n ⟨nF, _, upd_same, .inl ⟨ks, rfl, Rlk.gr g _ _ rk⟩⟩
        exact ⟨_, _, I2, ry, k1 _ _ _ _ x2 W2 (by simp only [Rl]; exact ⟨l, rfl, by rw [← W1.len]; simp⟩)⟩
      | false =>
        rw [if_neg (by decide)] at e3
        cases e3
        obtain ⟨od, I3⟩ := I2.lock (d := l) (u := .dK ks) upd_same True.intro
        have eu : upd (upd H1 l (.dK ks)) l (.frz od (.dK ks)) = upd H1 l (.frz od (.dK ks)) := by
          funext b
          by_cases hb : b = l
          · subst hb; rw [upd_same, upd_same]
          · rw [upd_ne hb, upd_ne hb, upd_ne hb]
        rw [eu] at I3
        obtain ⟨W2, x2⟩ := W1.frozen (.frz od (.dK ks)) n
        exact ⟨_, _, I3, ry, k1 _ _ _ _ x2 W2 (by simp only [Rl]; exact ⟨l, od, .dK ks, rfl, upd_same, .inl ⟨ks, rfl, Rlk.gr x2.gr _ _ rk⟩⟩)⟩
    · cases e3
  · cases e3
end
end SB
set_option Elab.async false
set_option linter.all false
set_option maxRecDepth 100000
namespace SB
open PySem L2
mutual
def pl : D → Bool
  | .non | .bl _ | .int _ => true
  | .str z => SeqAt.shaped (.str z)
  | .tup xs => pls xs
  | .lst xs => pls xs
  | _ => false
def pls : List D → Bool
  | [] => true
  | d :: ds => pl d && pls ds
end
mutual
def dp : D → Nat
  | .tup xs => dps xs + 1
  | .lst xs => dps xs + 1
  | _ => 0
def dps : List D → Nat
  | [] => 0
  | d :: ds => max (dp d) (dps ds)
end
mutual
def pd : D → PyData
  | .bl b => .bool b
  | .int i => .int i
  | .str z => .str z
  | .tup xs => .tuple (pds xs)
  | .lst xs => .list (pds xs)
  | _ => .none
def pds : List D → List PyData
  | [] => []
  | d :: ds => pd d :: pds ds
end
theorem pds_map : ∀ ds : List D, pds ds = ds.map pd
  | [] => rfl
  | d :: ds => by simp only [pds, List.map_cons, pds_map ds]
theorem pls_all : ∀ ds : List D, pls ds = true ↔ ∀ d ∈ ds, pl d = true
  | [] => by simp [pls]
  | d :: ds => by simp only [pls, Bool.and_eq_true, pls_all ds, List.forall_mem_cons]
theorem dps_le : ∀ (ds : List D) (n : Nat), dps ds ≤ n ↔ ∀ d ∈ ds, dp d ≤ n
  | [], n => by simp [dps]
  | d :: ds, n => by
    have h := dps_le ds n
    simp only [dps, List.forall_mem_cons, ← h]
    omega
theorem toPy_pl : ∀ (n : Nat) (μ : Mu) (d : D), pl d = true → dp d < n → toPy n μ d = some (pd d)
  | 0, μ, d, h, k => absurd k (Nat.not_lt_zero _)
  | n + 1, μ, d, h, k => by
    have all : ∀ ds : List D, pls ds = true → dps ds < n → ds.mapM (toPy n μ) = some (pds ds) := by
      intro ds
      induction ds with
      | nil => intro _ _; rfl
      | cons x xs ih =>
        intro h1 h2
        simp only [pls, Bool.and_eq_true] at h1
        simp only [dps] at h2
        rw [List.mapM_cons, toPy_pl n μ x h1.1 (by omega), ih h1.2 (by omega)]; rfl
    cases d with
    | non => rfl
    | bl b => rfl
    | int i => rfl
    | str z => rfl
    | tup xs =>
      simp only [pl] at h
      simp only [dp] at k
      simp only [toPy, vw, all xs h (by omega), pd, Option.map_some]
    | lst xs =>
      simp only [pl] at h
      simp only [dp] at k
      simp only [toPy, vw, all xs h (by omega), pd, Option.map_some]
    | _ => simp only [pl] at h; cases h
mutual
theorem pd_lay : ∀ d : D, pl d = true → (pd d).canLay0 = true ∧ (pd d).depth ≤ dp d
  | .non, h => ⟨rfl, by simp [pd, PyData.depth]⟩
  | .bl b, h => ⟨rfl, by simp [pd, PyData.depth]⟩
  | .int i, h => ⟨rfl, by simp [pd, PyData.depth]⟩
  | .str z, h => ⟨by simp only [pl] at h; exact SeqAt.canLay_of_shaped h, by simp [pd, PyData.depth]⟩
  | .tup xs, h => by
    simp only [pl] at h
    obtain ⟨a, b⟩ := pds_lay xs h
    exact ⟨by simpa only [pd, PyData.canLay0] using a, by simp only [pd, PyData.depth, dp]; omega⟩
  | .lst xs, h => by
    simp only [pl] at h
    obtain ⟨a, b⟩ := pds_lay xs h
    exact ⟨by simpa only [pd, PyData.canLay0] using a, by simp only [pd, PyData.depth, dp]; omega⟩
  | .dic es, h => by simp only [pl] at h; cases h
  | .ins c es, h => by simp only [pl] at h; cases h
  | .ref es, h => by simp only [pl] at h; cases h
  | .scr es, h => by simp only [pl] at h; cases h
  | .exc es _, h => by simp only [pl] at h; cases h
theorem pds_lay : ∀ ds : List D, pls ds = true → PyData.canLayAll0 (pds ds) = true ∧ PyData.depthAll (pds ds) ≤ dps ds
  | [], h => ⟨rfl, by simp [pds, PyData.depthAll]⟩
  | d :: ds, h => by
    simp only [pls, Bool.and_eq_true] at h
    obtain ⟨a, b⟩ := pd_lay d h.1
    obtain ⟨c, e⟩ := pds_lay ds h.2
    exact ⟨by simp only [pds, PyData.canLayAll0, a, c]; rfl, by simp only [pds, PyData.depthAll, dps]; omega⟩
end
theorem toPyS_pl {μ : Mu} {d : D} (h : pl d = true) (k : dp d ≤ 8) : toPyS μ d = some (pd d) := by
  unfold toPyS
  rw [toPy_pl 9 μ d h (by omega)]
  obtain ⟨a, b⟩ := pd_lay d h
  have s : SeqAt.shaped (pd d) = true := by
    unfold SeqAt.shaped
    rw [a, Bool.true_and, decide_eq_true_eq]
    omega
  simp only [s, if_true]
abbrev deq (a b : D) : Bool := PyData.eqv (pd a) (pd b)
theorem opEq_pl {μ : Mu} {a b : D} (ha : pl a = true) (hb : pl b = true) (da : dp a ≤ 8) (db : dp b ≤ 8) : opEq a b μ = .ok (.bl (deq a b)) μ := by
  unfold opEq eqD
  rw [toPyS_pl ha da, toPyS_pl hb db]
theorem opNe_pl {μ : Mu} {a b : D} (ha : pl a = true) (hb : pl b = true) (da : dp a ≤ 8) (db : dp b ≤ 8) : opNe a b μ = .ok (.bl (!deq a b)) μ := by
  unfold opNe eqD
  rw [toPyS_pl ha da, toPyS_pl hb db]
theorem inD_pl {μ : Mu} {a : D} {xs : List D} (ha : pl a = true) (hb : pls xs = true) (da : dp a ≤ 8) (db : dps xs ≤ 7) : inD μ a (.lst xs) = some (xs.any fun z => deq z a) := by
  unfold inD
  rw [toPyS_pl ha da, toPyS_pl (d := .lst xs) (by simpa only [pl] using hb) (by simp only [dp]; omega)]
  simp only [pd, pds_map, List.any_map]
  rfl
theorem opIn_pl {μ : Mu} {a : D} {xs : List D} (ha : pl a = true) (hb : pls xs = true) (da : dp a ≤ 8) (db : dps xs ≤ 7) : opIn a (.lst xs) μ = .ok (.bl (xs.any fun z => deq z a)) μ := by
  unfold opIn isIn
  simp only [vw, inD_pl ha hb da db]
theorem opNin_pl {μ : Mu} {a : D} {xs : List D} (ha : pl a = true) (hb : pls xs = true) (da : dp a ≤ 8) (db : dps xs ≤ 7) : opNin a (.lst xs) μ = .ok (.bl (!xs.any fun z => deq z a)) μ := by
  unfold opNin isIn
  simp only [vw, inD_pl ha hb da db]
structure Em {α : Type} [DecidableEq α] (e : α → D) (ok : α → Prop) (n : Nat) : Prop where
  pl : ∀ a, ok a → SB.pl (e a) = true
  dp : ∀ a, SB.dp (e a) ≤ n
  eq : ∀ a b, deq (e a) (e b) = decide (a = b)
  cl : ∀ a, closed (e a) = true
theorem closeds_map {α : Type} {e : α → D} (h : ∀ a, closed (e a) = true) : ∀ xs : List α, closeds (xs.map e) = true
  | [] => rfl
  | x :: xs => by simp only [List.map_cons, closeds, h x, closeds_map h xs, Bool.and_self]
theorem eqvAll_map {α : Type} [DecidableEq α] {e : α → D} (h : ∀ a b, deq (e a) (e b) = decide (a = b)) : ∀ xs ys : List α, PyData.eqvAll (pds (xs.map e)) (pds (ys.map e)) = decide (xs = ys)
  | [], [] => rfl
  | [], y :: ys => rfl
  | x :: xs, [] => rfl
  | x :: xs, y :: ys => by
    have h1 := h x y
    simp only [deq] at h1
    simp only [List.map_cons, pds, PyData.eqvAll, h1, eqvAll_map h xs ys, List.cons.injEq, Bool.decide_and]
theorem em_int : Em D.int (fun _ => True) 0 := ⟨fun _ _ => rfl, fun _ => Nat.le_refl _, fun a b => by simp only [deq, pd, PyData.eqv]; by_cases e : a = b <;> simp [e], fun _ => rfl⟩
theorem em_bl : Em D.bl (fun _ => True) 0 := ⟨fun _ _ => rfl, fun _ => Nat.le_refl _, fun a b => by simp only [deq, pd, PyData.eqv]; by_cases e : a = b <;> simp [e], fun _ => rfl⟩
abbrev okS (z : Str) : Prop := SeqAt.shaped (.str z) = true
theorem em_str : Em D.str okS 0 := ⟨fun _ h => h, fun _ => Nat.le_refl _, fun a b => by simp only [deq, pd, PyData.eqv]; by_cases e : a = b <;> simp [e], fun _ => rfl⟩
section
variable {α : Type} [DecidableEq α] {e : α → D} {ok : α → Prop} {n : Nat}
theorem Em.pls (h : Em e ok n) {xs : List α} (k : ∀ a ∈ xs, ok a) : SB.pls (xs.map e) = true := (pls_all _).mpr fun d hd => by
  obtain ⟨a, ha, rfl⟩ := List.mem_map.mp hd
  exact h.pl a (k a ha)
theorem Em.dps (h : Em e ok n) (xs : List α) : SB.dps (xs.map e) ≤ n := (dps_le _ _).mpr fun d hd => by
  obtain ⟨a, _, rfl⟩ := List.mem_map.mp hd
  exact h.dp a
theorem em_lst (h : Em e ok n) : Em (fun xs : List α => D.lst (xs.map e)) (fun xs => ∀ a ∈ xs, ok a) (n + 1) where
  pl := fun xs k => by simp only [SB.pl]; exact h.pls k
  dp := fun xs => by simp only [SB.dp]; exact Nat.succ_le_succ (h.dps xs)
  eq := fun xs ys => by simp only [deq, pd, PyData.eqv]; exact eqvAll_map h.eq xs ys
  cl := fun xs => by simp only [closed]; exact closeds_map h.cl xs
theorem Em.opEq (h : Em e ok n) (hn : n ≤ 8) {a b : α} (ha : ok a) (hb : ok b) (μ : Mu) : SB.opEq (e a) (e b) μ = .ok (.bl (decide (a = b))) μ := by
  rw [opEq_pl (h.pl a ha) (h.pl b hb) (Nat.le_trans (h.dp a) hn) (Nat.le_trans (h.dp b) hn), h.eq]
theorem Em.opNe (h : Em e ok n) (hn : n ≤ 8) {a b : α} (ha : ok a) (hb : ok b) (μ : Mu) : SB.opNe (e a) (e b) μ = .ok (.bl (!decide (a = b))) μ := by
  rw [opNe_pl (h.pl a ha) (h.pl b hb) (Nat.le_trans (h.dp a) hn) (Nat.le_trans (h.dp b) hn), h.eq]
theorem Em.any (h : Em e ok n) (a : α) (xs : List α) : ((xs.map e).any fun z => deq z (e a)) = decide (a ∈ xs) := by
  rw [List.any_map, Bool.eq_iff_iff, List.any_eq_true, decide_eq_true_eq]
  constructor
  · rintro ⟨x, hx, q⟩
    have q' : deq (e x) (e a) = true := q
    rw [h.eq, decide_eq_true_eq] at q'
    exact q' ▸ hx
  · intro hx
    refine ⟨a, hx, ?_⟩
    show deq (e a) (e a) = true
    rw [h.eq]; simp
theorem Em.opIn (h : Em e ok n) (hn : n ≤ 7) {a : α} {xs : List α} (ha : ok a) (hx : ∀ a ∈ xs, ok a) (μ : Mu) : SB.opIn (e a) (.lst (xs.map e)) μ = .ok (.bl (decide (a ∈ xs))) μ := by
  rw [opIn_pl (h.pl a ha) (h.pls hx) (Nat.le_trans (h.dp a) (by omega)) (Nat.le_trans (h.dps xs) hn), h.any]
theorem Em.opNin (h : Em e ok n) (hn : n ≤ 7) {a : α} {xs : List α} (ha : ok a) (hx : ∀ a ∈ xs, ok a) (μ : Mu) : SB.opNin (e a) (.lst (xs.map e)) μ = .ok (.bl (!decide (a ∈ xs))) μ := by
  rw [opNin_pl (h.pl a ha) (h.pls hx) (Nat.le_trans (h.dp a) (by omega)) (Nat.le_trans (h.dps xs) hn), h.any]
end
theorem callP_rt {n : Nat} {f : DS} {ds : List D} {d : D} {μ' : Mu} (hc : closeds ds = true) (h : f (startD n ds) [] = .rt d μ') (hd : closed d = true) (μ : Mu) : callP n f ds μ = .ok d μ := by
  unfold callP pureR
  rw [if_pos hc, h]
  simp only [hd, if_true]; rfl
theorem callP_nx {n : Nat} {f : DS} {ds : List D} {ρ : Ev} {μ' : Mu} (hc : closeds ds = true) (h : f (startD n ds) [] = .nx ρ μ') (μ : Mu) : callP n f ds μ = .ok .non μ := by
  unfold callP pureR
  rw [if_pos hc, h]; rfl
/-- a loop that leaves by no way: what holds behind each turn -/
theorem sForL_nx {t : Tg} {g : DS} (I : Nat → Ev → Mu → Prop) : ∀ (xs : List D) (k : Nat) (ρ : Ev) (μ : Mu), I k ρ μ → (∀ i d ρ μ, xs[i]? = some d → I (k + i) ρ μ → ∃ ρ1, bindT t d ρ μ = some ρ1 ∧ ∃ ρ2 μ2, (g ρ1 μ = .nx ρ2 μ2 ∨ g ρ1 μ = .ct ρ2 μ2) ∧ I (k + i + 1) ρ2 μ2) →
    ∃ ρ' μ', sForL t g xs ρ μ = .nx ρ' μ' ∧ I (k + xs.length) ρ' μ'
  | [], k, ρ, μ, h, _ => ⟨ρ, μ, rfl, h⟩
  | d :: xs, k, ρ, μ, h, st => by
    obtain ⟨ρ1, e1, ρ2, μ2, e2, h2⟩ := st 0 d ρ μ rfl h
    obtain ⟨ρ', μ', e3, h3⟩ := sForL_nx I xs (k + 1) ρ2 μ2 h2 fun i d ρ μ hd hi => by
      have := st (i + 1) d ρ μ hd (by rw [show k + (i + 1) = k + 1 + i by omega]; exact hi)
      rwa [show k + (i + 1) + 1 = k + 1 + i + 1 by omega] at this
    refine ⟨ρ', μ', ?_, by rw [List.length_cons, show k + (xs.length + 1) = k + 1 + xs.length by omega]; exact h3⟩
    unfold sForL
    rw [e1]
    simp only
    rcases e2 with e2 | e2 <;> (rw [e2]; exact e3)
/-- a comprehension whose parts are known -/
theorem compL_eq {own : List Nat} {tt : Tg} {c : DT} {f : DE} {ρ : Ev} {μ : Mu} (p : D → Bool) (v : D → D) : ∀ xs : List D, (∀ d ∈ xs, ∃ ρ1, bindT tt d (wipeD ρ own) μ = some ρ1 ∧ c ρ1 μ = .ok (p d) μ ∧ (p d = true → f ρ1 μ = .ok (v d) μ)) → compL own tt c f xs ρ μ = .ok ((xs.filter p).map v) μ
  | [], _ => rfl
  | d :: xs, h => by
    obtain ⟨ρ1, e1, e2, e3⟩ := h d List.mem_cons_self
    have ih := compL_eq p v xs fun x hx => h x (List.mem_cons_of_mem _ hx)
    unfold compL
    rw [e1]
    simp only [e2, Res.bind_ok]
    cases q : p d with
    | false => simp only [Bool.false_eq_true, if_false, ih, List.filter_cons, q]
    | true => simp only [if_true, e3 q, Res.bind_ok, ih, List.filter_cons, q, List.map_cons]
end SB
set_option Elab.async false
set_option linter.all false
set_option maxRecDepth 100000
namespace SB
open PySem L2
section
variable {ρ : Ev} {μ : Mu} {f g h : DE} {fs : DEs} {s t : DS} {c : DT} {i : Nat} {d : D}
@[simp] theorem ev_cst : dCst d ρ μ = .ok d μ := rfl
@[simp] theorem ev_var : dVar i ρ μ = (match ρ[i]? with | some (some d) => .ok d μ | _ => .bad) := rfl
@[simp] theorem ev_bin {k : D → D → Mu → Res D} : dBin f g k ρ μ = (f ρ μ).bind fun x μ1 => (g ρ μ1).bind fun y μ2 => k x y μ2 := rfl
@[simp] theorem ev_call {Φ : Fn} : dCall fs Φ ρ μ = (fs ρ μ).bind fun xs μ1 => Φ xs μ1 := rfl
@[simp] theorem ev_nil : dNil ρ μ = .ok [] μ := rfl
@[simp] theorem ev_cons : dCons f fs ρ μ = (f ρ μ).bind fun x μ1 => (fs ρ μ1).bind fun xs μ2 => .ok (x :: xs) μ2 := rfl
@[simp] theorem ev_bool : dBool f ρ μ = (f ρ μ).bind asB := rfl
@[simp] theorem ev_asB {b : Bool} : asB (.bl b) μ = .ok b μ := rfl
@[simp] theorem ev_not : dNot c ρ μ = (c ρ μ).bind fun b μ1 => .ok (!b) μ1 := rfl
@[simp] theorem ev_and {c2 : DT} : dAnd c c2 ρ μ = (c ρ μ).bind fun b μ1 => if b then c2 ρ μ1 else .ok false μ1 := rfl
@[simp] theorem ev_or {c2 : DT} : dOr c c2 ρ μ = (c ρ μ).bind fun b μ1 => if b then .ok true μ1 else c2 ρ μ1 := rfl
@[simp] theorem ev_seq : sSeq s t ρ μ = (match s ρ μ with | .nx ρ' μ' => t ρ' μ' | o => o) := rfl
@[simp] theorem ev_skip : sSkip ρ μ = .nx ρ μ := rfl
@[simp] theorem ev_expr : sExpr f ρ μ = (f ρ μ).out fun _ μ' => .nx ρ μ' := rfl
@[simp] theorem ev_ret : sRet f ρ μ = (f ρ μ).out fun d μ' => .rt d μ' := rfl
@[simp] theorem ev_set : sSet i f ρ μ = (f ρ μ).out fun d μ' => .nx (ρ.set i (some d)) μ' := rfl
@[simp] theorem ev_if : sIf c s t ρ μ = (c ρ μ).out fun b μ' => if b then s ρ μ' else t ρ μ' := rfl
@[simp] theorem ev_asg {tt : Tg} : sAsg tt f ρ μ = (f ρ μ).out fun d μ' => match bindT tt d ρ μ' with | some ρ' => .nx ρ' μ' | none => .bad := rfl
@[simp] theorem ev_tup : dTup fs ρ μ = (fs ρ μ).bind fun xs μ1 => if xs.length ≤ sizeLine then .ok (.tup xs) μ1 else .bad := rfl
@[simp] theorem ev_lst {b : Bool} : dLst b fs ρ μ = (fs ρ μ).bind fun xs μ1 => mkL b xs μ1 := rfl
@[simp] theorem ev_yes : dYes ρ μ = .ok true μ := rfl
@[simp] theorem ev_bad : sBad ρ μ = .bad := rfl
@[simp] theorem ev_chain {o1 o2 : D → D → Mu → Res D} : dChain f g h o1 o2 ρ μ = (f ρ μ).bind fun x μ1 => (g ρ μ1).bind fun y μ2 => (o1 x y μ2).bind fun z μ3 => match vw μ3 z with
  | .bl true => (h ρ μ3).bind fun w μ4 => o2 y w μ4
  | .bl false => .ok (.bl false) μ3
  | _ => .bad := rfl
@[simp] theorem ev_andV : dAndV f g ρ μ = (f ρ μ).bind fun x μ1 => match vw μ1 x with
  | .bl true => g ρ μ1
  | .bl false => .ok (.bl false) μ1
  | _ => .bad := rfl
@[simp] theorem ev_for {tt : Tg} {it : DI} : sFor tt it s ρ μ = (it ρ μ).out fun xs μ1 => sForL tt s xs ρ μ1 := rfl
@[simp] theorem ev_comp {b : Bool} {own : List Nat} {tt : Tg} {it : DI} : dComp b own tt it c f ρ μ = (it ρ μ).bind fun xs μ1 => (compL own tt c f xs ρ μ1).bind fun ys μ2 => mkL b ys μ2 := rfl
@[simp] theorem ev_iseq : iSeq f ρ μ = (f ρ μ).bind fun d μ1 => Res.of (iterD μ1 d) μ1 := rfl
@[simp] theorem ev_isi {T : String} : dIsi T f ρ μ = (f ρ μ).bind fun x μ1 => match isTy T (vw μ1 x) with
  | some b => .ok (.bl b) μ1
  | none => .bad := rfl
@[simp] theorem vw_i {i : Int} : vw μ (.int i) = .int i := rfl
@[simp] theorem vw_b {i : Bool} : vw μ (.bl i) = .bl i := rfl
@[simp] theorem vw_s {i : Str} : vw μ (.str i) = .str i := rfl
@[simp] theorem vw_n : vw μ .non = .non := rfl
@[simp] theorem vw_t {xs : List D} : vw μ (.tup xs) = .tup xs := rfl
@[simp] theorem vw_l {xs : List D} : vw μ (.lst xs) = .lst xs := rfl
@[simp] theorem vw_d {xs : List (D × D)} : vw μ (.dic xs) = .dic xs := rfl
@[simp] theorem vw_k {k : Nat} {xs : List D} : vw μ (.ins k xs) = .ins k xs := rfl
@[simp] theorem vw_x {k : Nat} {xs : List D} : vw μ (.exc k xs) = .exc k xs := rfl
@[simp] theorem vw_c {xs : List Int} : vw μ (.scr xs) = .scr xs := rfl
@[simp] theorem it_l {xs : List D} : iterD μ (.lst xs) = some xs := rfl
@[simp] theorem it_t {xs : List D} : iterD μ (.tup xs) = some xs := rfl
@[simp] theorem it_s {xs : List Int} : iterD μ (.scr xs) = some (xs.map .int) := rfl
@[simp] theorem bt_one {k : Nat} : bindT (.one k) d ρ μ = some (ρ.set k (some d)) := rfl
@[simp] theorem bt_tup {is : List Nat} {xs : List D} : bindT (.many is) (.tup xs) ρ μ = setAll is xs ρ := rfl
@[simp] theorem bt_lst {is : List Nat} {xs : List D} : bindT (.many is) (.lst xs) ρ μ = setAll is xs ρ := rfl
@[simp] theorem sa_nil : setAll [] [] ρ = some ρ := rfl
@[simp] theorem sa_cons {k : Nat} {is : List Nat} {ds : List D} : setAll (k :: is) (d :: ds) ρ = setAll is ds (ρ.set k (some d)) := rfl
@[simp] theorem op_add_i {b : Bool} {x y : Int} : opAdd b (.int x) (.int y) μ = .ok (.int (x + y)) μ := rfl
@[simp] theorem op_sub_i {x y : Int} : opSub (.int x) (.int y) μ = .ok (.int (x - y)) μ := rfl
@[simp] theorem op_lt_i {x y : Int} : opLt (.int x) (.int y) μ = .ok (.bl (decide (x < y))) μ := rfl
@[simp] theorem op_le_i {x y : Int} : opLe (.int x) (.int y) μ = .ok (.bl (decide (x ≤ y))) μ := rfl
@[simp] theorem op_gt_i {x y : Int} : opGt (.int x) (.int y) μ = .ok (.bl (decide (y < x))) μ := rfl
@[simp] theorem op_ge_i {x y : Int} : opGe (.int x) (.int y) μ = .ok (.bl (decide (y ≤ x))) μ := rfl
@[simp] theorem op_eq_i {x y : Int} : opEq (.int x) (.int y) μ = .ok (.bl (decide (x = y))) μ := em_int.opEq (by decide) trivial trivial μ
@[simp] theorem op_ne_i {x y : Int} : opNe (.int x) (.int y) μ = .ok (.bl (!decide (x = y))) μ := em_int.opNe (by decide) trivial trivial μ
@[simp] theorem op_eq_b {x y : Bool} : opEq (.bl x) (.bl y) μ = .ok (.bl (decide (x = y))) μ := em_bl.opEq (by decide) trivial trivial μ
@[simp] theorem op_ne_b {x y : Bool} : opNe (.bl x) (.bl y) μ = .ok (.bl (!decide (x = y))) μ := em_bl.opNe (by decide) trivial trivial μ
theorem op_mod_i {x y : Int} (h : 0 < y) : opMod (.int x) (.int y) μ = .ok (.int (x % y)) μ := if_pos h
theorem op_div_i {x y : Int} (h : 0 < y) (k : y.natAbs.log2 < 9000) : opFdiv (.int x) (.int y) μ = .ok (.int (x / y)) μ := if_pos ⟨h, k⟩
theorem op_mul_i {b : Bool} {x y : Int} (h : Builtin.Int.intBits x + Builtin.Int.intBits y ≤ 134217728) : opMulA b (.int x) (.int y) μ = .ok (.int (x * y)) μ := if_pos h
@[simp] theorem bi_len_l {xs : List D} : biLen [.lst xs] μ = .ok (.int xs.length) μ := rfl
@[simp] theorem bi_len_t {xs : List D} : biLen [.tup xs] μ = .ok (.int xs.length) μ := rfl
@[simp] theorem bi_len_d {xs : List (D × D)} : biLen [.dic xs] μ = .ok (.int xs.length) μ := rfl
@[simp] theorem bi_len_c {xs : List Int} : biLen [.scr xs] μ = .ok (.int xs.length) μ := by simp [biLen, seqL]
theorem op_ix_l {xs : List D} {i : Int} {d : D} (h : atI xs i = some d) : opIx (.lst xs) (.int i) μ = .ok d μ := by
  unfold opIx
  simp only [vw_l, vw_i, seqL, h, Res.of_some]
theorem op_ix_c {xs : List Int} {i : Int} {d : D} (h : atI (xs.map D.int) i = some d) : opIx (.scr xs) (.int i) μ = .ok d μ := by
  unfold opIx
  simp only [vw_c, vw_i, seqL, h, Res.of_some]
theorem op_ix_t {xs : List D} {i : Int} {d : D} (h : atI xs i = some d) : opIx (.tup xs) (.int i) μ = .ok d μ := by
  unfold opIx
  simp only [vw_t, vw_i, h, Res.of_some]
theorem atI_nat {α : Type} (xs : List α) (k : Nat) : atI xs (k : Int) = xs[k]? := by
  unfold atI ixN
  rw [if_pos (Int.natCast_nonneg k)]
  by_cases h : k < xs.length
  · rw [if_pos (by omega)]; rfl
  · rw [if_neg (by omega), List.getElem?_eq_none (by omega)]; rfl
@[simp] theorem op_ix_0 {x : D} {xs : List D} : opIx (.tup (x :: xs)) (.int 0) μ = .ok x μ := op_ix_t (atI_nat _ 0)
@[simp] theorem op_ix_1 {x y : D} {xs : List D} : opIx (.tup (x :: y :: xs)) (.int 1) μ = .ok y μ := op_ix_t (atI_nat _ 1)
@[simp] theorem op_ix_2 {x y z : D} {xs : List D} : opIx (.tup (x :: y :: z :: xs)) (.int 2) μ = .ok z μ := op_ix_t (atI_nat _ 2)
theorem mkL_f {xs : List D} (h : xs.length ≤ sizeLine) : mkL false xs μ = .ok (.lst xs) μ := if_pos h
theorem mkL_t {xs : List D} (h : xs.length ≤ sizeLine) : mkL true xs μ = .ok (.ref μ.length) (μ ++ [.lst xs]) := if_pos h
theorem sz {n : Nat} (h : n ≤ 16777216) : n ≤ sizeLine := by rw [sizeLine_eq]; exact h
end
end SB
set_option Elab.async false
set_option linter.all false
set_option maxRecDepth 100000
namespace SB
open PySem L2
/-- for k in d -/
def iKeys (f : DE) : DI := fun ρ μ => (f ρ μ).bind fun d μ1 => match d with
  | .dic es => .ok (es.map (·.1)) μ1
  | _ => .bad
/-- the tuples that are the keys of the locked dict at d -/
def ItN (P : Program) (w : World) (d : Addr) (o : Obj) (ns : NK3) : It where
  go i H := H d = some (.frz o (dN P w d ns)) ∧ i < ns.length
  yld i H x H' := H' = H ∧ ∃ q b v, ns[i]? = some (q, b, v) ∧ x = .ref b
  stop i H := H d = some (.frz o (dN P w d ns)) ∧ ns.length ≤ i
section
variable {X : Cx} {pins : List (Addr × Obj)} {σ : St} {H : Hp} {s : Shared} {d : Addr} {o : Obj} {ns : NK3}
theorem frzN (I : Inv X pins σ H s) (h : H d = some (.frz o (dN X.prog X.w d ns))) : (d == sysModules) = false ∧ s.heap.get? d = some o ∧ o.ExactDict ∧ ns.length ≤ sizeLine ∧
    ∃ es ep, o.data = .dict es ep ∧ es.size = ns.length ∧ ∀ (j : Nat) (q : NestedKey) (b : Addr) (v : V), ns[j]? = some (q, b, v) → ∃ en, es[j]? = some en ∧ en.key = .ref b := by
  obtain ⟨g, ⟨⟨z, _⟩, sm, ys, pr, o2, es, ep, g2, hx, dat, ent, _⟩, _⟩ := I.hok d _ h
  have e := g.symm.trans g2
  cases e
  have l1 := size_of_entries ent
  have l2 := Paired.length pr
  refine ⟨sm, g, hx, z, es, ep, dat, by omega, fun j q b v hj => ?_⟩
  obtain ⟨y, hy, _, e2, _⟩ := paired_get pr hj
  have at_ := entry_at ent j
  rw [hy] at at_
  exact ⟨_, at_, by show Value.ref y.2.1 = _; rw [← e2]⟩
theorem turnN {tg : Expr} {P : Program} {w : World} {K : PySem.W.Frag} {es : Array DictEntry} {ep : Nat} (I0 : Addr) (dat : o.data = .dict es ep) : Turn P w K tg (ItN P w d o ns) [I0] I0 (fun j h => h.IsKeyIter I0 d j ns.length ep) where
  mem := List.mem_singleton.mpr rfl
  keep := fun j h h2 a k => a.at (k I0 (List.mem_singleton.mpr rfl))
  obj := fun j h a b hb => by
    cases List.mem_singleton.mp hb
    obtain ⟨ob, g, _, dd⟩ := a
    refine ⟨ob, g, fun v z => ?_⟩
    rw [dd] at z
    cases z
  item := by
    intro Y e1 e2 e3 _ j pins s σ H E I own a hg
    cases e1; cases e2; cases e3
    obtain ⟨c0, c1, _, c3, c4, c5⟩ := own I0 (List.mem_singleton.mpr rfl)
    obtain ⟨_, g, _, _, es2, ep2, dat2, sz, ent⟩ := frzN I hg.1
    obtain ⟨e4, e5⟩ := dict_ep dat dat2
    subst e4 e5
    obtain ⟨p, hp⟩ : ∃ p, ns[j]? = some p := ⟨_, List.getElem?_eq_getElem hg.2⟩
    obtain ⟨en, hen, ek⟩ := ent j p.1 p.2.1 p.2.2 hp
    refine next_key_item a g dat2 sz hen fun h2 a2 same => ?_
    obtain ⟨ob, g2, cl, dd⟩ := id a2
    refine ⟨en.key, rfl, go_of (s := { s with heap := h2 }) g2 cl dd (by decide) ⟨.ref p.2.1, H, I.turned (t' := s.toks) (fun b u hb e => (same.2 b hb).trans e) c0 c1 c3 c4 c5, ek, ⟨rfl, p.1, p.2.1, p.2.2, hp, rfl⟩, a2, fun b hb => (own b hb).1⟩⟩
  done := by
    intro Y e1 e2 e3 calm j pins s σ H E I own a hg
    cases e1; cases e2; cases e3
    obtain ⟨c0, c1, _, c3, c4, c5⟩ := own I0 (List.mem_singleton.mpr rfl)
    obtain ⟨_, g, _, _, es2, ep2, dat2, sz, _⟩ := frzN I hg.1
    obtain ⟨e4, e5⟩ := dict_ep dat dat2
    subst e4 e5
    exact next_key_end (I.ok.hd calm) a g dat2 sz hg.2 fun h2 kp => ⟨rfl, I.turned (t' := s.toks) (fun b u hb e => kp b u hb e) c0 c1 c3 c4 c5⟩
  self := fun A j s Q E a q => wpAny_pyIter_keyiter a q
end
section
variable {Z : Zx} {F H : Hp} {m : List Addr} {μ : Mu}
theorem rln_at : ∀ {es : List (D × D)} {ns : NK3} {i : Nat} {q : NestedKey} {b : Addr} {v : V}, Rln Z F m es ns → ns[i]? = some (q, b, v) → ∃ k d, es[i]? = some (k, d) ∧ nkey k = some q ∧ Rl Z F m k (.ref b) ∧ Rl Z F m d v
  | [], ns, i, q, b, v, h, e => by simp only [Rln] at h; subst h; simp at e
  | (k, d) :: es, ns, 0, q, b, v, h, e => by
    simp only [Rln] at h
    obtain ⟨q', b', v', r, rfl, h0, h1, h2, _⟩ := h
    simp at e
    obtain ⟨rfl, rfl, rfl⟩ := e
    exact ⟨k, d, rfl, h0.1, h1, h2⟩
  | (k, d) :: es, ns, i + 1, q, b, v, h, e => by
    simp only [Rln] at h
    obtain ⟨q', b', v', r, rfl, _, _, _, h2⟩ := h
    obtain ⟨k', d', e1, e2⟩ := rln_at (i := i) h2 (by simpa using e)
    exact ⟨k', d', by simpa using e1, e2⟩
theorem itok_keys {a : Addr} {o : Obj} {ks : List (Key × V)} {es : List (D × D)} (f : F a = some (.frz o (.dK ks))) (r : Rlk Z F m es ks) : ItOk Z (Itk a o ks) F m (es.map (·.1)) := by
  intro F' m' μ' H' g W i
  have f' : H' a = some (.frz o (.dK ks)) := W.le _ _ (g.ff _ _ f)
  have hl := rlk_len r
  refine ⟨fun h => ⟨f', by rw [List.length_map] at h; omega⟩, fun d hd => ?_⟩
  rw [List.getElem?_map] at hd
  obtain ⟨⟨k, e⟩, he, rfl⟩ := Option.map_eq_some_iff.mp hd
  have hi := (List.getElem?_eq_some_iff.mp he).1
  refine ⟨⟨f', by omega⟩, fun x H2 y => ?_⟩
  obtain ⟨rfl, q, v, h1, rfl⟩ := y
  obtain ⟨d2, e2, rv⟩ := rlk_at r h1
  rw [he] at e2; cases e2
  refine ⟨F', m', Xt.refl _ _ _, W, ?_⟩
  rw [rl_key]
theorem itok_keysN {a : Addr} {o : Obj} {ns : NK3} {es : List (D × D)} (f : F a = some (.frz o (dN Z.P Z.w a ns))) (r : Rln Z F m es ns) : ItOk Z (ItN Z.P Z.w a o ns) F m (es.map (·.1)) := by
  intro F' m' μ' H' g W i
  have f' : H' a = some (.frz o (dN Z.P Z.w a ns)) := W.le _ _ (g.ff _ _ f)
  have hl := rln_len r
  refine ⟨fun h => ⟨f', by rw [List.length_map] at h; omega⟩, fun d hd => ?_⟩
  rw [List.getElem?_map] at hd
  obtain ⟨⟨k, e⟩, he, rfl⟩ := Option.map_eq_some_iff.mp hd
  have hi := (List.getElem?_eq_some_iff.mp he).1
  refine ⟨⟨f', by omega⟩, fun x H2 y => ?_⟩
  obtain ⟨rfl, q, b, v, h1, rfl⟩ := y
  obtain ⟨k2, d2, e2, _, rk, _⟩ := rln_at r h1
  rw [he] at e2; cases e2
  exact ⟨F', m', Xt.refl _ _ _, W, Rl.gr g _ _ rk⟩
end
section
variable {X : Cx} {ct : Nat → Addr × List Str} {tg e : Expr} {f : DE} {pos p : Pos}
theorem di_keys (he : PE X e (tE (zx X ct) f)) : PI X tg e (iS (zx X ct) (iKeys f)) := by
  refine ⟨fun pins s σ H R I q => ?_⟩
  obtain ⟨F, m, ρ, μ, d, μ', W, r, e, k⟩ := q
  obtain ⟨x, μ1, e1, e2⟩ := bind_inv e
  split at e2
  · rename_i es
    cases e2
    refine thn (he.run pins s σ H (fun v H1 => ∃ F1 m1, Xt F m H F1 m1 H1 ∧ Wd (zx X ct) F1 m1 μ' H1 ∧ Rl (zx X ct) F1 m1 (.dic es) v) I ⟨F, m, ρ, μ, _, μ', W, r, e1, fun v F1 m1 H1 x1 W1 rx => ⟨F1, m1, x1, W1, rx⟩⟩) fun u s1 ⟨v, H1, I1, rv, F1, m1, x1, W1, rx⟩ => ?_
    simp only [Rl] at rx
    obtain ⟨a, o, u', rfl, f, q⟩ := rx
    cases rv
    rcases q with ⟨ks, rfl, q⟩ | ⟨ns, rfl, q⟩
    · obtain ⟨sm, g, hx, es2, ep, vs, dat, sz, kv, hm⟩ := I1.frzK (W1.le _ _ f)
      refine iter_keys sm g hx dat (pi_one (tk := s1.toks) I1 _ (turn_keys _ dat) ⟨_, Heap.get?_push_size _ rfl, rfl, ?_⟩ (k _ F1 m1 H1 x1 W1 (itok_keys f q)))
      rw [sz] <;> rfl
    · obtain ⟨sm, g, hx, _, es2, ep, dat, sz, _⟩ := frzN I1 (W1.le _ _ f)
      refine iter_keys sm g hx dat (pi_one (tk := s1.toks) I1 _ (turnN _ dat) ⟨_, Heap.get?_push_size _ rfl, rfl, ?_⟩ (k _ F1 m1 H1 x1 W1 (itok_keysN f q)))
      rw [sz] <;> rfl
  · cases e2
end
end SB
set_option Elab.async false
set_option linter.all false
set_option maxRecDepth 100000
namespace SB
open PySem L2
def dListKeys (b : Bool) (f : DE) : DE := fun ρ μ => (f ρ μ).bind fun d μ1 => match d with
  | .dic es => mkL b (es.map (·.1)) μ1
  | _ => .bad
section
variable {X : Cx}
theorem call_list_dN (calm : X.calm = true) : CallR X (.type "list") (fun xs H Q => ∃ d o ns, xs = [.ref d] ∧ H d = some (.frz o (dN X.prog X.w d ns)) ∧ ∀ l, H l = none → Q (.ref l) (upd H l (.lst (ns.map fun n => .ref n.2.1)))) := by
  intro pins s σ H xs us Q I r h
  obtain ⟨d, o, ns, rfl, hd, k⟩ := h
  obtain ⟨u, rfl, ru⟩ := r.one
  cases ru
  obtain ⟨sm, g, hx, z, es, ep, dat, sz, ent⟩ := frzN I hd
  refine PySem.W.kdl_call (kdl_raw sm hx dat) (I.ok.hd calm) g (by omega) fun h2 tk acc c kp e it => ?_
  have rv : Vals (ns.map fun n => V.ref n.2.1) acc.toList := by
    refine vals_of_at (by have q1 := it.1; have q2 : acc.toList.length = acc.size := Array.length_toList; rw [List.length_map]; omega) fun j x u hj hu => ?_
    rw [List.getElem?_map] at hj
    obtain ⟨n, hn, rfl⟩ := Option.map_eq_some_iff.mp hj
    obtain ⟨en, h1, h2⟩ := ent j n.1 n.2.1 n.2.2 hn
    obtain ⟨en2, h3, rfl⟩ := it.2 j u (by rw [← Array.getElem?_toList]; exact hu)
    rw [h1] at h3
    cases h3
    rw [h2]
    rfl
  refine ⟨.ref s.heap.objs.size, _, I.laid (t' := tk) (o := .lst (ns.map fun n => V.ref n.2.1)) kp (Nat.le_refl _) ⟨by rw [List.length_map]; exact z, acc.toList, c, rv, by rw [Array.toArray_toList]; exact e⟩, rfl, k _ (I.hok.fresh (Nat.le_refl _))⟩
end
section
variable {Z : Zx} {F H : Hp} {m : List Addr}
theorem rls_keys : ∀ {es : List (D × D)} {ks : List (Key × V)}, Rlk Z F m es ks → Rls Z F m (es.map (·.1)) (ks.map fun kv => kV kv.1)
  | [], ks, h => by simp only [Rlk] at h; subst h; simp only [List.map_nil, Rls]
  | (k, d) :: es, ks, h => by
    simp only [Rlk] at h
    obtain ⟨q, v, r, rfl, rfl, _, h2⟩ := h
    exact .cons (by rw [rl_key]) (rls_keys h2)
theorem rls_keysN : ∀ {es : List (D × D)} {ns : NK3}, Rln Z F m es ns → Rls Z F m (es.map (·.1)) (ns.map fun n => .ref n.2.1)
  | [], ns, h => by simp only [Rln] at h; subst h; simp only [List.map_nil, Rls]
  | (k, d) :: es, ns, h => by
    simp only [Rln] at h
    obtain ⟨q, b, v, r, rfl, _, h1, _, h2⟩ := h
    exact .cons h1 (rls_keysN h2)
end
section
variable {X : Cx} {ct : Nat → Addr × List Str} {e : Expr} {f : DE} {pos p : Pos}
theorem de_listkeys (bb : Bool) (calm : X.calm = true) (hm : X.mg "list" = none) (he : PE X e (tE (zx X ct) f)) (hg : Gl X "list" := by rfl) (na : starEach [e] X.env = (false, eval e X.env) :: starEach [] X.env := by rfl) : PE X (.Call (.Name "list" p) [e] [] pos) (tE (zx X ct) (dListKeys bb f)) := by
  refine ⟨fun pins s σ H Q I q => ?_⟩
  obtain ⟨F, m, ρ, μ, d, μ', W, r, e1, k⟩ := q
  obtain ⟨x, μ1, e2, e3⟩ := bind_inv e1
  refine PyProof.Rows.Call_ (ld_blt I hg hm PyProof.Rows.boot_list ?_)
  refine PyProof.Rows.callWith_type1 (PyProof.Rows.args_cons (thn (he.run pins s σ H (fun v H1 => ∃ F1 m1, Xt F m H F1 m1 H1 ∧ Wd (zx X ct) F1 m1 μ1 H1 ∧ Rl (zx X ct) F1 m1 x v) I ⟨F, m, ρ, μ, x, μ1, W, r, e2, fun v F1 m1 H1 x1 W1 rx => ⟨F1, m1, x1, W1, rx⟩⟩) fun u s1 ⟨v, H1, I1, rv, F1, m1, x1, W1, rx⟩ => PyProof.Rows.args_nil ?_) na) na rfl
  have k1 := k.weak x1 W1
  split at e3
  · rename_i es
    simp only [Rl] at rx
    obtain ⟨a, o, w, rfl, f, q⟩ := rx
    cases rv
    have f1 := W1.le _ _ f
    rcases q with ⟨ks, rfl, q⟩ | ⟨ns, rfl, q⟩
    · refine call_listD calm pins s1 σ H1 [.ref a] [.ref a] Q I1 (.cons rfl .nil) ⟨a, ks, rfl, .inr ⟨o, f1⟩, ?_⟩
      exact (Aft.newL W1 (rls_keys q) e3 k1).2
    · refine call_list_dN calm pins s1 σ H1 [.ref a] [.ref a] Q I1 (.cons rfl .nil) ⟨a, o, ns, rfl, f1, ?_⟩
      exact (Aft.newL W1 (rls_keysN q) e3 k1).2
  · cases e3
end
end SB
set_option Elab.async false
set_option linter.all false
set_option maxRecDepth 100000
namespace SB
open PySem L2
section
variable {prog : Program} {w : World} {K : Type} [DecidableEq K] {knd : HeapKind prog w K} {A : Around} {E : Value → Shared → Prop} {s : Shared}
theorem call_dictH {o : Addr} {more : List (K × Addr × Value)} {Q : Value → Shared → Prop} (hu : knd.room A.in1.in1) (sm : (o == sysModules) = false) (ho : s.heap.DictOfH knd o more)
    (his : ∀ y ∈ more, knd.is (s.heap.push { cls := .type "dict", data := .dict #[] }) y.1 y.2.1) (hty : ∀ x ∈ more, s.TypeIs (.ref x.2.1) "tuple") (hap : (more.map fun x => knd.hash x.1).Nodup) (hz : more.length ≤ sizeLine)
    (h : ∀ h2, h2.DictOfH knd s.heap.objs.size more → Heap.SameBut s.heap.objs.size (s.heap.push { cls := .type "dict", data := .dict #[] }) h2 → Q (.ref s.heap.objs.size) { s with heap := h2 }) :
    wpAny (model prog w) A (call (.type "dict") [.ref o]) Q E s := by
  have new : (s.heap.push { cls := .type "dict", data := .dict #[] }).DictOfH knd s.heap.objs.size [] := Heap.DictOfH.new s.heap
  have old : (s.heap.push { cls := .type "dict", data := .dict #[] }).DictOfH knd o more := ho.at' (fun u e => Heap.get?_push_of_some _ e) his
  have ne : s.heap.objs.size ≠ o := fun e => Nat.lt_irrefl _ (e ▸ ho.lt_size)
  have nd := ho.nodup
  refine callType_codes (Q₁ := fun obj s₁ => obj = .ref s.heap.objs.size ∧ s₁ = { s with heap := s.heap.push { cls := .type "dict", data := .dict #[] } }) F.kt_called_dict (F.kt_typeCall_dict_1 _) F.entry_dict_init (kt_code_dict_new _ ⟨rfl, rfl⟩) fun obj s2 q => ?_
  obtain ⟨rfl, rfl⟩ := q
  refine ⟨new.typeIs, F.args_dict_init_2 _ _, ?_⟩
  unfold Builtin.«dict.__init__» Builtin.Dict.selfAndRest
  refine wpAny_bind (wpAny_bind (wpAny_notOrdered_dict new.typeIs ?_))
  show wpAny _ _ (pure (s.heap.objs.size, [Value.ref o])) _ _ _
  refine wpAny_pure ?_
  refine updateFrom_dictH (kvs := []) .none hu ne sm new old (.inr ⟨fun x hx => ?_, hap⟩) (by simpa using hz) fun h2 hd _ same => ?_
  · obtain ⟨ob, g, c⟩ := hty x hx
    exact ⟨ob, Heap.get?_push_of_some _ g, c⟩
  · rw [storedAllH_nil_of_nodup more nd] at hd
    exact ⟨rfl, h h2 hd same⟩
end
/-- the spots (room, wrong) of at most eight rooms, as keys -/
def spotL : List (Int × Int) := [(0, 0), (0, 1), (1, 0), (1, 1), (2, 0), (2, 1), (3, 0), (3, 1), (4, 0), (4, 1), (5, 0), (5, 1), (6, 0), (6, 1), (7, 0), (7, 1)]
def spotK (p : Int × Int) : NestedKey := .tup [.num p.1, .num p.2]
def spotH (p : Int × Int) : Int := reduceHash (Builtin.Tuple.tupleHashOf [hashInt p.1, hashInt p.2])
theorem spot_h (w : World) (p : Int × Int) : (spotK p).hash w = spotH p := by
  simp only [spotK, spotH, NestedKey.hash, NestedKey.hashes]
theorem spot_inj : (spotL.all fun p => spotL.all fun q => decide (p = q) || !decide (spotH p = spotH q)) = true := by decide +kernel
theorem spot_ne {p q : Int × Int} (hp : p ∈ spotL) (hq : q ∈ spotL) (h : spotH p = spotH q) : p = q := by
  have a := List.all_eq_true.mp (List.all_eq_true.mp spot_inj p hp) q hq
  simp only [h, decide_true, Bool.not_true, Bool.or_false, decide_eq_true_eq] at a
  exact a
/-- a key that is a spot -/
def isSpot : D → Bool
  | .tup [.int r, .bl _] => decide (0 ≤ r ∧ r < 8)
  | _ => false
def spotOf : D → Int × Int
  | .tup [.int r, .bl b] => (r, if b then 1 else 0)
  | _ => (0, 0)
theorem spot_mem {k : D} (h : isSpot k = true) : spotOf k ∈ spotL ∧ nkey k = some (spotK (spotOf k)) := by
  unfold isSpot at h
  split at h
  · rename_i r b
    have hr := of_decide_eq_true h
    have : r = 0 ∨ r = 1 ∨ r = 2 ∨ r = 3 ∨ r = 4 ∨ r = 5 ∨ r = 6 ∨ r = 7 := by omega
    rcases this with rfl | rfl | rfl | rfl | rfl | rfl | rfl | rfl <;> cases b <;> exact ⟨by decide, rfl⟩
  · cases h
end SB
set_option Elab.async false
set_option linter.all false
set_option maxRecDepth 100000
namespace SB
open PySem L2
def dDictN (b : Bool) (f : DE) : DE := fun ρ μ => (f ρ μ).bind fun x μ1 => match x with
  | .dic es => if (es.all fun p => isSpot p.1) = true then mkD b es μ1 else .bad
  | _ => .bad
theorem spots_hash (w : World) {l : List NestedKey} (h : l.Nodup) (hs : ∀ k ∈ l, ∃ p ∈ spotL, k = spotK p) : (l.map fun k => k.hash w).Nodup := by
  unfold List.Nodup at *
  rw [List.pairwise_map]
  refine h.imp_of_mem fun {a b} ha hb ne e => ne ?_
  obtain ⟨p, hp, rfl⟩ := hs a ha
  obtain ⟨q, hq, rfl⟩ := hs b hb
  rw [spot_h, spot_h] at e
  rw [spot_ne hp hq e]
section
variable {Z : Zx} {F H : Hp} {m : List Addr}
theorem rln_spots : ∀ {es : List (D × D)} {ns : NK3}, Rln Z F m es ns → (es.all fun p => isSpot p.1) = true → ∀ k ∈ ns.map (·.1), ∃ p ∈ spotL, k = spotK p
  | [], ns, h, _, k, hk => by simp only [Rln] at h; subst h; cases hk
  | (k0, d) :: es, ns, h, a, k, hk => by
    simp only [Rln] at h
    obtain ⟨q, b, v, r, rfl, ⟨h0, _⟩, _, _, h2⟩ := h
    simp only [List.all_cons, Bool.and_eq_true] at a
    rcases List.mem_cons.mp hk with e | hk
    · obtain ⟨m1, m2⟩ := spot_mem a.1
      rw [h0] at m2
      cases m2
      exact ⟨_, m1, e⟩
    · exact rln_spots h2 a.2 k hk
theorem pn_fst : ∀ {ns : NK3} {xs : NKx}, Pn ns xs → xs.map (·.1) = ns.map (·.1)
  | _, _, .nil => rfl
  | _, _, .cons h t => by rw [List.map_cons, List.map_cons, pn_fst t, h.1]
end
section
variable {X : Cx} {ct : Nat → Addr × List Str} {pins : List (Addr × Obj)} {σ : St} {F H : Hp} {m : List Addr} {μ : Mu} {s : Shared} {a : Addr} {o : Obj} {ns : NK3} {es : List (D × D)}
theorem call_dictN (hu : X.A.units + 64 < cLine) (I : Inv X pins σ H s) (W : Wd (zx X ct) F m μ H) (f : F a = some (.frz o (dN X.prog X.w a ns))) (r : Rln (zx X ct) F m es ns) (hs : (es.all fun p => isSpot p.1) = true) {Q : Value → Shared → Prop}
    (k : ∀ l s2, H l = none → Inv X pins σ (upd H l (dN X.prog X.w l ns)) s2 → Q (.ref l) s2) : wpAny (model X.prog X.w) X.A (call (.type "dict") [.ref a]) Q X.xe s := by
  have rd : Rd H a (dN X.prog X.w a ns) := .inr ⟨o, W.le _ _ f⟩
  obtain ⟨z, sm, xs, pn, dd⟩ := dn_rd (Z := zx X ct) I.hok W.le rd r
  obtain ⟨⟨⟨_, ne⟩, _⟩, _⟩ := rd.ok I.hok
  obtain ⟨o2, es2, ep2, g, hx, dat, ent, is, nd⟩ := id dd
  have e1 := pn_fst pn
  refine call_dictH (knd := nestedKind X.prog X.w) (show X.A.in1.in1.units + 8 < cLine by show X.A.units + 1 + 1 + 8 < cLine; omega) sm dd
    (fun y hy => ⟨NestedIs.at (fun b ob vs n hb _ => Heap.get?_push_of_some _ hb) _ _ (is y hy).1, (is y hy).2⟩) (fun x hx => ?_) ?_ (by rw [← pn_len pn]; exact z) fun h2 d2 same => ?_
  · have q := (is x hx).1
    generalize x.1 = nk at q
    cases q with
    | tup g c _ _ => exact ⟨_, g, c⟩
  · have e2 : (xs.map fun x => (nestedKind X.prog X.w).hash x.1) = (xs.map (·.1)).map fun k => k.hash X.w := by rw [List.map_map]; rfl
    rw [e2, e1]
    exact spots_hash X.w (by rw [← e1]; exact nd) (rln_spots r hs)
  · obtain ⟨o3, es3, ep3, g3, hx3, dat3, ent3, _, nd3⟩ := d2
    have big : (s.heap.objs.size == sysModules) = false := beq_eq_false_iff_ne.mpr (Nat.ne_of_gt I.big)
    refine k _ _ (I.hok.fresh (Nat.le_refl _)) (I.laid (t' := s.toks) (fun b u e => (same.2 b (Nat.ne_of_lt (Heap.lt_size e))).trans (Heap.get?_push_of_some _ e)) (Nat.le_refl _) ⟨⟨⟨z, ne⟩, big, xs, pn, o3, es3, ep3, g3, hx3, dat3, ent3, nd3⟩, ⟨o3, g3⟩, ?_⟩)
    rintro g1 g2 ⟨c1, c2, xs', c3, o', es', ep', c4, c5⟩ kp
    exact ⟨c1, c2, xs', c3, o', es', ep', kp _ c4, c5⟩
variable {e : Expr} {f : DE} {pos p : Pos}
/-- a new dict at l -/
theorem aft_dict {pins : List (Addr × Obj)} {σ : St} {s : Shared} {l : Addr} {u : HO} {b : Bool} {d : D} {μ' : Mu} {Q : VK} (I : Inv X pins σ (upd H l u) s) (W : Wd (zx X ct) F m μ H) (n : H l = none) (r : Rlu (zx X ct) F m l es u) (e : mkD b es μ = .ok d μ')
    (k : Aft (zx X ct) F m H d μ' Q) : ∃ v H2, Inv X pins σ H2 s ∧ RelV v (.ref l) ∧ Q v H2 := by
  have nF : F l = none := by
    cases q : F l with
    | none => rfl
    | some u => rw [W.le _ _ q] at n; cases n
  unfold mkD at e
  cases b with
  | true =>
    rw [if_pos rfl] at e
    cases e
    have g : Gr F m F (m ++ [l]) := ⟨fun _ _ e => e, fun i a e => by rw [List.getElem?_append_left (List.getElem?_eq_some_iff.mp e).1]; exact e⟩
    obtain ⟨W2, x2⟩ := W.cellNew (o := u) (.dic es) n ⟨nF, _, upd_same, Rlu.gr g r⟩
    exact ⟨.ref l, _, I, rfl, k _ _ _ _ x2 W2 (by simp only [Rl]; exact ⟨l, rfl, by rw [← W.len]; simp⟩)⟩
  | false =>
    rw [if_neg (by decide)] at e
    cases e
    obtain ⟨od, I3⟩ := I.lock (d := l) (u := u) upd_same (mut_of r)
    have eu : upd (upd H l u) l (.frz od u) = upd H l (.frz od u) := by
      funext b
      by_cases hb : b = l
      · subst hb; rw [upd_same, upd_same]
      · rw [upd_ne hb, upd_ne hb, upd_ne hb]
    rw [eu] at I3
    obtain ⟨W2, x2⟩ := W.frozen (.frz od u) n
    exact ⟨.ref l, _, I3, rfl, k _ _ _ _ x2 W2 (by simp only [Rl]; exact ⟨l, od, u, rfl, upd_same, Rlu.gr x2.gr r⟩)⟩
theorem de_dictN (bb : Bool) (hu : X.A.units + 64 < cLine) (hm : X.mg "dict" = none) (he : PE X e (tE (zx X ct) f)) (hg : Gl X "dict" := by rfl) (na : starEach [e] X.env = (false, eval e X.env) :: starEach [] X.env := by rfl) : PE X (.Call (.Name "dict" p) [e] [] pos) (tE (zx X ct) (dDictN bb f)) := by
  refine ⟨fun pins s σ H Q I q => ?_⟩
  obtain ⟨F, m, ρ, μ, d, μ', W, r, e1, k⟩ := q
  obtain ⟨x, μ1, e2, e3⟩ := bind_inv e1
  refine PyProof.Rows.Call_ (ld_blt I hg hm PyProof.Rows.boot_dict ?_)
  refine PyProof.Rows.callWith_type1 (PyProof.Rows.args_cons (thn (he.run pins s σ H (fun v H1 => ∃ F1 m1, Xt F m H F1 m1 H1 ∧ Wd (zx X ct) F1 m1 μ1 H1 ∧ Rl (zx X ct) F1 m1 x v) I ⟨F, m, ρ, μ, x, μ1, W, r, e2, fun v F1 m1 H1 x1 W1 rx => ⟨F1, m1, x1, W1, rx⟩⟩) fun u s1 ⟨v, H1, I1, rv, F1, m1, x1, W1, rx⟩ => PyProof.Rows.args_nil ?_) na) na rfl
  have k1 := k.weak x1 W1
  split at e3
  · rename_i es _
    split at e3
    · rename_i hs
      simp only [Rl] at rx
      obtain ⟨a, o, w, rfl, f, q⟩ := rx
      cases rv
      rcases q with ⟨ks, rfl, q⟩ | ⟨ns, rfl, q⟩
      · refine thn (call_dictD pins s1 σ H1 [.ref a] [.ref a] (fun v H2 => ∃ l, v = .ref l ∧ H1 l = none ∧ H2 = upd H1 l (.dK ks)) I1 (.cons rfl .nil) ⟨a, ks, rfl, .inr ⟨o, W1.le _ _ f⟩, fun l n => ⟨l, rfl, n, rfl⟩⟩) fun u s2 ⟨y, H2, I2, ry, l, ey, n, eH⟩ => ?_
        subst ey eH
        obtain ⟨v, H3, I3, r3, k3⟩ := aft_dict I2 W1 n (.inl ⟨ks, rfl, q⟩) e3 k1
        cases ry
        exact ⟨v, H3, I3, r3, k3⟩
      · refine call_dictN hu I1 W1 f q hs fun l s2 n I2 => ?_
        obtain ⟨v, H3, I3, r3, k3⟩ := aft_dict I2 W1 n (.inr ⟨ns, rfl, q⟩) e3 k1
        exact ⟨v, H3, I3, r3, k3⟩
    · cases e3
  · cases e3
end
end SB
set_option Elab.async false
set_option linter.all false
set_option maxRecDepth 100000
namespace SB
open PySem L2
open Classical in
noncomputable def compLM (own : List Nat) (tt : Tg) (c : DT) (f : DE) : List D → Ev → Mu → Res (List D)
  | [], _, μ => .ok [] μ
  | d :: ds, ρ, μ => match bindT tt d (wipeD ρ own) μ with
    | none => .bad
    | some ρ1 => (c ρ1 μ).bind fun b μ1 => if μ1 = μ then (if b then (f ρ1 μ1).bind fun y μ2 => if μ2 = μ1 then (compLM own tt c f ds ρ μ2).bind fun ys μ3 => .ok (y :: ys) μ3 else .bad else compLM own tt c f ds ρ μ1) else .bad
noncomputable def dCompM (b : Bool) (own : List Nat) (tt : Tg) (fi : DI) (c : DT) (f : DE) : DE := fun ρ μ => (fi ρ μ).bind fun xs μ1 => (compLM own tt c f xs ρ μ1).bind fun ys μ2 => mkL b ys μ2
def iLive (f : DE) : DI := fun ρ μ => (f ρ μ).bind fun d μ1 => match d with
  | .ref n => match μ1[n]? with
    | some (.lst xs) => .ok xs μ1
    | _ => .bad
  | _ => .bad
/-- J yields the things xs while the cells stay -/
def ItOkM (Z : Zx) (J : It) (F : Hp) (m : List Addr) (μ : Mu) (xs : List D) : Prop := ∀ F' m' H, Gr F m F' m' → Wd Z F' m' μ H → ∀ i, (xs.length ≤ i → J.stop i H) ∧
  ∀ d, xs[i]? = some d → J.go i H ∧ ∀ x H', J.yld i H x H' → ∃ F'' m'', Xt F' m' H F'' m'' H' ∧ Wd Z F'' m'' μ H' ∧ Rl Z F'' m'' d x
def iSM (Z : Zx) (f : DI) : TI := fun σ H R => ∃ F m ρ μ xs μ', Wd Z F m μ H ∧ RlE Z F m ρ σ ∧ f ρ μ = .ok xs μ' ∧ ∀ J F' m' H', Xt F m H F' m' H' → Wd Z F' m' μ' H' → ItOkM Z J F' m' μ' xs → R J H'
section
variable {X : Cx} {ct : Nat → Addr × List Str} {tg iter elt : Expr} {ifs : List Expr} {pos : Pos} {fi : DI} {c : DT} {f : DE} {tt : Tg} {gt : TG} {scope : Scope} {own : List (Str × Nat)}
end
section
variable {Z : Zx} {F H : Hp} {m : List Addr} {μ : Mu}
end
section
variable {X : Cx} {ct : Nat → Addr × List Str} {tg e : Expr} {f : DE}
end
end SB
set_option Elab.async false
set_option linter.all false
set_option maxRecDepth 100000
namespace SB
open PySem L2
def fzC : Cell → Cell
  | .lst xs => .fz (.lst xs)
  | c => c
def lendable : Cell → Bool
  | .lst _ | .fz _ => true
  | _ => false
def scal : D → Bool
  | .non | .bl _ | .int _ | .str _ => true
  | _ => false
/-- f over the cells as they stand; what it tells is no list -/
def dBor (f : DE) : DE := fun ρ μ => if μ.all lendable then (match f ρ (μ.map fzC) with
  | .ok d _ => if scal d then .ok d μ else .bad
  | .bad => .bad) else .bad
def dBorT (c : DT) : DT := fun ρ μ => if μ.all lendable then (match c ρ (μ.map fzC) with
  | .ok d _ => .ok d μ
  | .bad => .bad) else .bad
section
variable {X : Cx} {ct : Nat → Addr × List Str} {e : Expr} {f : DE}
end
end SB
set_option Elab.async false
set_option linter.all false
set_option maxRecDepth 100000
namespace SB
open PySem L2
def dListRg2 (b : Bool) (f g : DE) : DE := fun ρ μ => (f ρ μ).bind fun x μ1 => (g ρ μ1).bind fun y μ2 => match vw μ2 x, vw μ2 y with
  | .int i, .int j => if -(2 ^ 62) ≤ i ∧ i < 2 ^ 62 ∧ -(2 ^ 62) ≤ j ∧ j < 2 ^ 62 ∧ (j - i).toNat ≤ 2 ^ 24 then mkL b (rngD i (j - i).toNat) μ2 else .bad
  | _, _ => .bad
def dListRg1 (b : Bool) (g : DE) : DE := fun ρ μ => (g ρ μ).bind fun y μ2 => match vw μ2 y with
  | .int j => if -(2 ^ 62) ≤ j ∧ j < 2 ^ 62 ∧ j.toNat ≤ 2 ^ 24 then mkL b (rngD 0 j.toNat) μ2 else .bad
  | _ => .bad
section
variable {X : Cx} {ct : Nat → Addr × List Str} {a b : Expr} {f g : DE} {p p2 pos pos2 : Pos}
end
end SB
set_option Elab.async false
set_option linter.all false
set_option maxRecDepth 100000
namespace SB
open PySem L2 PySem.Spec PyProof.Rows
section
variable {P : Program} {w : World} {A : Around} {E Q : Value → Shared → Prop} {s : Shared}
/-- two dicts of unlike sizes -/
theorem rc_sizes {a b : Addr} {oa ob : Obj} {es fs : Array DictEntry} {ep fp : Nat} (ha : (a == sysModules) = false) (hb : (b == sysModules) = false) (ta : s.TypeIs (.ref a) "dict") (tb : s.TypeIs (.ref b) "dict")
    (ga : s.heap.get? a = some oa) (da : oa.data = .dict es ep) (gb : s.heap.get? b = some ob) (db : ob.data = .dict fs fp) (hu : A.units < cLine) (hne : es.size ≠ fs.size) (h : Q (.bool false) s) : wpAny (model P w) A (richCompare .Eq (.ref a) (.ref b)) Q E s := by
  have pairs : ∀ (B : Around) (nm : String) (R : Bool → Shared → Prop) (X : Value → Shared → Prop), R false s → wpAny (model P w) B (Builtin.Dict.samePairs nm a b) R X s := by
    intro B nm R X hR
    unfold Builtin.Dict.samePairs Builtin.Dict.showsAll
    rw [if_neg (by rw [ha]; decide : ¬ (a == sysModules) = true), if_neg (by rw [hb]; decide : ¬ (b == sysModules) = true)]
    refine wpAny_bind (wpAny_pure (wpAny_bind (wpAny_pure (wpAny_bind (wpAny_dictEntries ga da ?_)))))
    dsimp only
    refine wpAny_bind (wpAny_dictEntries gb db ?_)
    rw [if_pos (by simpa using hne)]
    exact wpAny_bind (wpAny_rule (wpAny_pure hR))
  refine wpAny_richCompare_same_room (op := .Eq) ta tb PySem.F.slot_dict_eq (wpAny_call_entry PySem.F.slot_dict_eq ta PySem.F.entry_dict_eq ?_ (PySem.F.args_dict_eq_2 _ _)) hu
  show wpAny _ _ (Builtin.Dict.dictSlotArgs "__eq__" ⟨[.ref a, .ref b], []⟩ >>= _) _ _ s
  refine wpAny_bind ?_
  unfold Builtin.Dict.dictSlotArgs
  refine wpAny_bind (wpAny_notOrdered_dict ta (by
    show wpAny _ _ (pure (Value.ref a, Value.ref b)) _ _ s
    refine wpAny_pure (wpAny_bind (wpAny_isInstance (T := "dict") tb PySem.F.sub_dict_dict ?_))
    simp only [Bool.not_true, Bool.false_eq_true, if_false]
    refine wpAny_bind (wpAny_pure (wpAny_bind (wpAny_pure (wpAny_bind (pairs _ _ _ _ ?_)))))
    exact wpAny_pure ⟨_, rfl, (fun x => nomatch x), by simpa using h⟩))
end
def opEqE (x y : D) (μ : Mu) : Res D := match vw μ x, vw μ y with
  | .dic es, .dic [] => .ok (.bl es.isEmpty) μ
  | _, _ => .bad
def rEqE (X : Cx) (ct : Nat → Addr × List Str) : R2 := fun x y H Q => ∃ F m μ es a o b o2, Wd (zx X ct) F m μ H ∧ x = .ref a ∧ y = .ref b ∧ Rd H a o ∧ Rlu (zx X ct) F m a es o ∧ Rd H b o2 ∧ Rlu (zx X ct) F m b [] o2 ∧ Q (.bl es.isEmpty) H
theorem op_eqE {X : Cx} (ct : Nat → Addr × List Str) (hu : X.A.units + 64 < cLine) : OpR X (compareOp .Eq) (rEqE X ct) := by
  intro pins s σ H x y v u Q I rx ry h
  obtain ⟨F, m, μ, es, a, o, b, o2, W, rfl, rfl, ea, ra, eb, rb, q⟩ := h
  cases rx
  cases ry
  show wpAny _ _ (richCompare .Eq (.ref a) (.ref b)) _ _ s
  obtain ⟨ks, rk, _, yb, vs, kv, db⟩ := dict_val I.hok W.le eb rb (k := .int 0) rfl rfl
  simp only [Rlk] at rk
  subst rk
  cases kv
  cases es with
  | nil =>
    obtain ⟨ks, rk, _, ya, vs, kv, da⟩ := dict_val I.hok W.le ea ra (k := .int 0) rfl rfl
    simp only [Rlk] at rk
    subst rk
    cases kv
    exact PySem.W.rcP_dicts ya yb da db (by omega) (fun _ => .nil) _ _ ⟨.bl true, H, I, rfl, q⟩
  | cons p es =>
    obtain ⟨ob, fs, fp, gb, cb, hdb, _, pb, _⟩ := id db
    have sb : fs.size = 0 := by
      have := pb.length
      rw [Array.length_toList] at this
      simpa using this
    obtain ⟨k, d⟩ := p
    rcases ra with ⟨ks, rfl, r⟩ | ⟨ns, rfl, r⟩
    · obtain ⟨_, ya, vs, kv, da⟩ := dk_rd I.hok ea
      obtain ⟨oa, es', ep, ga, ca, hda, _, pa, _⟩ := id da
      have sa : es'.size ≠ fs.size := by
        simp only [Rlk] at r
        obtain ⟨q', v, r', rfl, _⟩ := r
        have := pa.length
        rw [Array.length_toList] at this
        cases kv
        simp at this
        omega
      exact rc_sizes ya yb da.typeIs db.typeIs ga hda gb hdb (by omega) sa ⟨.bl false, H, I, rfl, q⟩
    · obtain ⟨_, ya, xs, pn, da⟩ := dn_rd I.hok W.le ea r
      obtain ⟨oa, es', ep, ga, ca, hda, ha, _⟩ := id da
      have sa : es'.size ≠ fs.size := by
        simp only [Rln] at r
        obtain ⟨q', b', v, r', rfl, _⟩ := r
        have := size_of_entries ha
        cases pn
        simp at this
        omega
      exact rc_sizes ya yb da.typeIs db.typeIs ga hda gb hdb (by omega) sa ⟨.bl false, H, I, rfl, q⟩
theorem os_eqE {X : Cx} {ct : Nat → Addr × List Str} : OpS (zx X ct) (rEqE X ct) opEqE := by
  intro F m μ H a b x y d μ' Q W ra rb e k
  unfold opEqE at e
  split at e
  · rename_i es h1 h2
    cases e
    obtain ⟨l, o, rfl, e1, r1⟩ := vw_dic W ra h1
    obtain ⟨l2, o2, rfl, e2, r2⟩ := vw_dic W rb h2
    exact ⟨F, m, μ, es, l, o, l2, o2, W, rfl, rfl, e1, r1, e2, r2, k.here W (by simp only [Rl])⟩
  · cases e
end SB
set_option Elab.async false
set_option linter.all false
set_option maxRecDepth 100000
namespace SB
open PySem L2 PySem.Spec PyProof.Rows
section
variable {P : Program} {w : World} {A : Around} {E : Value → Shared → Prop} {s : Shared}
end
def dSorted (b : Bool) (f : DE) : DE := fun ρ μ => (f ρ μ).bind fun x μ1 => match seqL (vw μ1 x) with
  | some xs => match shpAll xs with
    | some S => if flatS S = true then mkL b (sortS S xs) μ1 else .bad
    | none => .bad
  | none => .bad
section
variable {X : Cx} {ct : Nat → Addr × List Str} {e : Expr} {f : DE} {p pos : Pos}
end
end SB
set_option Elab.async false
set_option linter.all false
set_option maxRecDepth 100000
namespace SB
open PySem L2 PySem.Spec PyProof.Rows
section
variable {P : Program} {w : World} {A : Around} {E : Value → Shared → Prop} {s : Shared} {T0 : String} {r d : Addr} {n : Nat} {Pv : Nat → Value → Prop} {OK : Heap → Prop}
end
def dSortedD (b : Bool) (f : DE) : DE := fun ρ μ => (f ρ μ).bind fun x μ1 => match vw μ1 x with
  | .dic es => match shpAll (es.map (·.1)) with
    | some S => if flatS S = true then mkL b (sortS S (es.map (·.1))) μ1 else .bad
    | none => .bad
  | _ => .bad
section
variable {X : Cx} {ct : Nat → Addr × List Str} {e : Expr} {f : DE} {p pos : Pos} {pins : List (Addr × Obj)} {σ : L2.St} {H : Hp} {s : Shared} {F : Hp} {m : List Addr} {μ : Mu}
end
end SB
set_option Elab.async false
set_option linter.all false
set_option maxRecDepth 100000
namespace SB
open PySem L2 PySem.Spec PyProof.Rows
def dListKeysD (b : Bool) (f : DE) : DE := fun ρ μ => (f ρ μ).bind fun x μ1 => match vw μ1 x with
  | .dic es => mkL b (es.map (·.1)) μ1
  | _ => .bad
def dListValues (b : Bool) (f : DE) : DE := fun ρ μ => (f ρ μ).bind fun x μ1 => match vw μ1 x with
  | .dic es => if es = [] ∨ dkind es = some false then mkL b (es.map (·.2)) μ1 else .bad
  | _ => .bad
section
variable {X : Cx} {ct : Nat → Addr × List Str} {e o : Expr} {f : DE} {p pos apos mpos : Pos}
end
end SB
set_option Elab.async false
set_option linter.all false
set_option maxRecDepth 100000
namespace SB
open PySem L2 PySem.Spec PyProof.Rows
def dD1 (f g : DE) : DE := fun ρ μ => (f ρ (μ ++ [.dic []])).bind fun k μ1 => (g ρ μ1).bind fun v μ2 => match μ2[μ.length]? with
  | some (.dic []) => if kkind k = some true then .ok (.ref μ.length) (μ2.set μ.length (.dic [(k, v)])) else .bad
  | _ => .bad
section
variable {X : Cx} {ct : Nat → Addr × List Str} {ke ve : Expr} {f g : DE} {pos : Pos}
end
end SB
set_option Elab.async false
set_option linter.all false
set_option maxRecDepth 10000
namespace SB
open PySem L2
/-- the outcome ends well: N on, R handed back, C next turn, B out of the loop -/
def WP (N : Ev → Mu → Prop) (R : D → Mu → Prop) (C B : Ev → Mu → Prop) : Out → Prop
  | .nx ρ μ => N ρ μ
  | .rt d μ => R d μ
  | .ct ρ μ => C ρ μ
  | .bk ρ μ => B ρ μ
  | .bad => False
abbrev NO : Ev → Mu → Prop := fun _ _ => False
section
variable {N C B : Ev → Mu → Prop} {R : D → Mu → Prop} {ρ ρ' : Ev} {μ μ' : Mu} {s t g : DS} {f : DE} {c : DT} {d : D} {b : Bool} {i : Nat}
theorem wp_seq (h : WP (fun ρ' μ' => WP N R C B (t ρ' μ')) R C B (s ρ μ)) : WP N R C B (sSeq s t ρ μ) := by
  rw [ev_seq]
  revert h
  cases s ρ μ <;> exact id
theorem wp_mono {N' C' B' : Ev → Mu → Prop} {R' : D → Mu → Prop} {o : Out} (h : WP N R C B o) (hn : ∀ ρ μ, N ρ μ → N' ρ μ) (hr : ∀ d μ, R d μ → R' d μ) (hc : ∀ ρ μ, C ρ μ → C' ρ μ) (hb : ∀ ρ μ, B ρ μ → B' ρ μ) : WP N' R' C' B' o := by
  cases o with
  | nx a b => exact hn _ _ h
  | rt a b => exact hr _ _ h
  | ct a b => exact hc _ _ h
  | bk a b => exact hb _ _ h
  | bad => exact h
theorem wp_of_nx {o : Out} (e : o = .nx ρ' μ') (k : N ρ' μ') : WP N R C B o := by rw [e]; exact k
theorem wp_skip (k : N ρ μ) : WP N R C B (sSkip ρ μ) := k
theorem wp_set (h : f ρ μ = .ok d μ') (e : ρ.set i (some d) = ρ') (k : N ρ' μ') : WP N R C B (sSet i f ρ μ) := by
  rw [ev_set, h, out_ok, e]; exact k
theorem wp_expr (h : f ρ μ = .ok d μ') (k : N ρ μ') : WP N R C B (sExpr f ρ μ) := by
  rw [ev_expr, h, out_ok]; exact k
theorem wp_ret (h : f ρ μ = .ok d μ') (k : R d μ') : WP N R C B (sRet f ρ μ) := by
  rw [ev_ret, h, out_ok]; exact k
theorem wp_asg {tt : Tg} (h : f ρ μ = .ok d μ') (e : bindT tt d ρ μ' = some ρ') (k : N ρ' μ') : WP N R C B (sAsg tt f ρ μ) := by
  rw [ev_asg, h, out_ok, e]; exact k
theorem wp_if (h : c ρ μ = .ok b μ') (k1 : b = true → WP N R C B (s ρ μ')) (k2 : b = false → WP N R C B (t ρ μ')) : WP N R C B (sIf c s t ρ μ) := by
  rw [ev_if, h, out_ok]
  cases b with
  | true => exact k1 rfl
  | false => exact k2 rfl
theorem wp_sub {o ix : DE} {x y : D} {μ1 μ2 μ3 μ4 : Mu} (h1 : f ρ μ = .ok d μ1) (h2 : o ρ μ1 = .ok x μ2) (h3 : ix ρ μ2 = .ok y μ3) (h4 : setIxD x y d μ3 = some μ4) (k : N ρ μ4) : WP N R C B (sSub o ix f ρ μ) := by
  unfold sSub
  rw [h1, out_ok, h2, out_ok, h3, out_ok, h4]; exact k
theorem wp_aug {op : D → D → Mu → Res D} {x y z : D} {μ1 μ2 : Mu} (h1 : ρ[i]? = some (some x)) (h2 : f ρ μ = .ok y μ1) (h3 : op x y μ1 = .ok z μ2) (e : ρ.set i (some z) = ρ') (k : N ρ' μ2) : WP N R C B (sAug i f op ρ μ) := by
  unfold sAug
  rw [h1]
  simp only
  rw [h2, out_ok, h3, out_ok, e]; exact k
theorem wp_fld {cc kk : Nat} {o : DE} {n : Nat} {fs : List D} {μ1 μ2 μ3 : Mu} (h1 : f ρ μ = .ok d μ1) (h2 : o ρ μ1 = .ok (.ref n) μ2) (h3 : μ2[n]? = some (.ins cc fs)) (h4 : (kk < fs.length ∧ μ3 = μ2.set n (.ins cc (fs.set kk d))) ∨ (kk = fs.length ∧ μ3 = μ2.set n (.ins cc (fs ++ [d])))) (k : N ρ μ3) : WP N R C B (sFldD cc kk o f ρ μ) := by
  unfold sFldD
  rw [h1, out_ok, h2, out_ok]
  simp only [h3, if_true]
  rcases h4 with ⟨a, rfl⟩ | ⟨a, rfl⟩
  · rw [if_pos a]; exact k
  · rw [if_neg (by omega), if_pos a]; exact k
/-- a loop over typed things; I: what holds behind the things gone through -/
theorem wp_forL {α : Type} {e : α → D} {tt : Tg} (I : List α → Ev → Mu → Prop) : ∀ (as done : List α) (ρ : Ev) (μ : Mu), I done ρ μ →
    (∀ (p : List α) (a : α) (q : List α) ρ μ, done ++ as = p ++ a :: q → I p ρ μ → ∃ ρ1, bindT tt (e a) ρ μ = some ρ1 ∧ WP (I (p ++ [a])) R (I (p ++ [a])) N (g ρ1 μ)) →
    (∀ ρ μ, I (done ++ as) ρ μ → N ρ μ) → WP N R C B (sForL tt g (as.map e) ρ μ)
  | [], done, ρ, μ, h, _, k => by rw [List.append_nil] at k; exact k ρ μ h
  | a :: as, done, ρ, μ, h, st, k => by
    obtain ⟨ρ1, e1, h1⟩ := st done a as ρ μ rfl h
    have next : ∀ ρ2 μ2, I (done ++ [a]) ρ2 μ2 → WP N R C B (sForL tt g (as.map e) ρ2 μ2) := fun ρ2 μ2 h2 =>
      wp_forL I as (done ++ [a]) ρ2 μ2 h2 (fun p x q ρ μ hp hi => st p x q ρ μ (by rw [← hp, List.append_assoc]; rfl) hi) (by rw [List.append_assoc]; exact k)
    rw [List.map_cons]
    unfold sForL
    rw [e1]
    simp only
    revert h1
    cases g ρ1 μ with
    | nx a b => exact next a b
    | ct a b => exact next a b
    | bk a b => exact id
    | rt a b => exact id
    | bad => exact id
theorem wp_for {α : Type} {e : α → D} {tt : Tg} {it : DI} (as : List α) (I : List α → Ev → Mu → Prop) (hi : it ρ μ = .ok (as.map e) μ') (h0 : I [] ρ μ')
    (st : ∀ (p : List α) (a : α) (q : List α) ρ μ, as = p ++ a :: q → I p ρ μ → ∃ ρ1, bindT tt (e a) ρ μ = some ρ1 ∧ WP (I (p ++ [a])) R (I (p ++ [a])) N (g ρ1 μ))
    (k : ∀ ρ μ, I as ρ μ → N ρ μ) : WP N R C B (sFor tt it g ρ μ) := by
  rw [ev_for, hi, out_ok]
  exact wp_forL I as [] ρ μ' h0 (fun p a q ρ μ hp => st p a q ρ μ hp) k
/-- a loop whose turns are told by their number -/
theorem wp_while {n : Nat} (I : Nat → Ev → Mu → Prop) (h0 : I 0 ρ μ) (hk : ∀ k ρ μ, I k ρ μ → k < n)
    (st : ∀ k ρ μ, I k ρ μ → ∃ b μ', c ρ μ = .ok b μ' ∧ (b = true → WP (I (k + 1)) R (I (k + 1)) N (g ρ μ')) ∧ (b = false → N ρ μ')) : WP N R C B (sWhile c g n ρ μ) := by
  have key : ∀ (m k : Nat) (ρ : Ev) (μ : Mu), m + k = n → I k ρ μ → WP N R C B (sWhile c g m ρ μ) := by
    intro m
    induction m with
    | zero => intro k ρ μ e h; exact absurd (hk k ρ μ h) (by omega)
    | succ m ih =>
      intro k ρ μ e h
      obtain ⟨b, μ', e1, h1, h2⟩ := st k ρ μ h
      unfold sWhile
      rw [e1, out_ok]
      cases b with
      | false => exact h2 rfl
      | true =>
        have h3 := h1 rfl
        simp only [if_true]
        revert h3
        cases g ρ μ' with
        | nx a b => exact ih (k + 1) a b (by omega)
        | ct a b => exact ih (k + 1) a b (by omega)
        | bk a b => exact id
        | rt a b => exact id
        | bad => exact id
  exact key n 0 ρ μ rfl h0
theorem callP_wp {n : Nat} {m : DS} {ds : List D} (Q : D → Prop) (hc : closeds ds = true) (h : WP NO (fun d _ => Q d ∧ closed d = true) NO NO (m (startD n ds) [])) : ∃ d, Q d ∧ closed d = true ∧ ∀ μ, callP n m ds μ = .ok d μ := by
  revert h
  cases e : m (startD n ds) [] with
  | rt d μ' => exact fun h => ⟨d, h.1, h.2, fun μ => callP_rt hc e h.2 μ⟩
  | nx _ _ => exact fun h => h.elim
  | ct _ _ => exact fun h => h.elim
  | bk _ _ => exact fun h => h.elim
  | bad => exact fun h => h.elim
theorem callP_wpe {n : Nat} {m : DS} {ds : List D} {d : D} (hc : closeds ds = true) (hd : closed d = true) (h : WP NO (fun x _ => x = d) NO NO (m (startD n ds) [])) (μ : Mu) : callP n m ds μ = .ok d μ := by
  obtain ⟨x, rfl, _, k⟩ := callP_wp (fun x => x = d) hc (wp_mono h (fun _ _ => id) (fun x _ e => ⟨e, e ▸ hd⟩) (fun _ _ => id) (fun _ _ => id))
  exact k μ
theorem callG_wp {n : Nat} {m : DS} {ds : List D} {μ : Mu} (Q : D → Mu → Prop) (h : WP (fun _ μ' => Q .non μ') Q NO NO (m (startD n ds) μ)) : ∃ d μ', Q d μ' ∧ callG n m ds μ = .ok d μ' := by
  unfold callG
  revert h
  cases m (startD n ds) μ with
  | rt d μ' => exact fun h => ⟨d, μ', h, rfl⟩
  | nx _ μ' => exact fun h => ⟨.non, μ', h, rfl⟩
  | ct _ _ => exact fun h => h.elim
  | bk _ _ => exact fun h => h.elim
  | bad => exact fun h => h.elim
end
section
variable {ρ : Ev} {μ : Mu} {f g : DE} {fs : DEs} {c : DT}
/-- or, and, of values -/
def orB (x : D) (μ : Mu) (r : Res D) : Res D := match x with
  | .bl false => r
  | .bl true => .ok (.bl true) μ
  | _ => .bad
def andB (x : D) (μ : Mu) (r : Res D) : Res D := match x with
  | .bl true => r
  | .bl false => .ok (.bl false) μ
  | _ => .bad
theorem orB_bb {a b : Bool} : orB (.bl a) μ (.ok (.bl b) μ) = .ok (.bl (a || b)) μ := by cases a <;> rfl
theorem orB_t {r : Res D} : orB (.bl true) μ r = .ok (.bl true) μ := rfl
theorem orB_f {r : Res D} : orB (.bl false) μ r = r := rfl
theorem andB_bb {a b : Bool} : andB (.bl a) μ (.ok (.bl b) μ) = .ok (.bl (a && b)) μ := by cases a <;> rfl
theorem andB_t {r : Res D} : andB (.bl true) μ r = r := rfl
theorem andB_f {r : Res D} : andB (.bl false) μ r = .ok (.bl false) μ := rfl
theorem ev_orV : dOrV f g ρ μ = (f ρ μ).bind fun x μ1 => orB (vw μ1 x) μ1 (g ρ μ1) := by
  unfold dOrV
  cases f ρ μ with
  | bad => rfl
  | ok x μ1 => simp only [Res.bind_ok]; unfold orB; rfl
theorem ev_andV2 : dAndV f g ρ μ = (f ρ μ).bind fun x μ1 => andB (vw μ1 x) μ1 (g ρ μ1) := by
  unfold dAndV
  cases f ρ μ with
  | bad => rfl
  | ok x μ1 => simp only [Res.bind_ok]; unfold andB; rfl
theorem ite_andB {a b : Bool} : (if a = true then Res.ok b μ else .ok false μ) = .ok (a && b) μ := by cases a <;> rfl
theorem ite_orB {a b : Bool} : (if a = true then Res.ok true μ else .ok b μ) = .ok (a || b) μ := by cases a <;> rfl
theorem ev_notV : dNotV f ρ μ = (f ρ μ).bind fun x μ1 => match vw μ1 x with
  | .bl b => .ok (.bl (!b)) μ1
  | _ => .bad := rfl
theorem ev_ifE : dIf c f g ρ μ = (c ρ μ).bind fun b μ1 => if b then f ρ μ1 else g ρ μ1 := rfl
theorem ev_frzT : dFrzT f ρ μ = (f ρ μ).bind frzT := rfl
theorem ev_met {k : D → Mu → Bool} {g : D → List D → Mu → Res D} : dMet f k fs g ρ μ = (f ρ μ).bind fun x μ1 => if k x μ1 then (fs ρ μ1).bind fun xs μ2 => g x xs μ2 else .bad := rfl
theorem ev_fld {c k : Nat} : dFld c k f ρ μ = (f ρ μ).bind fun x μ1 => match vw μ1 x with
  | .ins c' fs => if c' = c then Res.of fs[k]? μ1 else .bad
  | _ => .bad := rfl
theorem ev_un {u : D → Mu → Res D} : dUn f u ρ μ = (f ρ μ).bind u := rfl
theorem un_neg {i : Int} : unNeg (.int i) μ = .ok (.int (-i)) μ := rfl
theorem ev_dnil : dDnil ρ μ = .ok (.ref μ.length) (μ ++ [.dic []]) := rfl
theorem op_is {d : D} : opIs d .non μ = .ok (.bl (isNon (vw μ d))) μ := rfl
theorem op_isn {d : D} : opIsn d .non μ = .ok (.bl (!isNon (vw μ d))) μ := rfl
theorem tp1 {a : D} : ([a] : List D).length ≤ sizeLine := sz (by show 1 ≤ _; decide)
theorem tp2 {a b : D} : ([a, b] : List D).length ≤ sizeLine := sz (by show 2 ≤ _; decide)
theorem tp3 {a b c : D} : ([a, b, c] : List D).length ≤ sizeLine := sz (by show 3 ≤ _; decide)
theorem tp4 {a b c d : D} : ([a, b, c, d] : List D).length ≤ sizeLine := sz (by show 4 ≤ _; decide)
theorem tp5 {a b c d e : D} : ([a, b, c, d, e] : List D).length ≤ sizeLine := sz (by show 5 ≤ _; decide)
theorem mk0 {b : Bool} : mkL b [] μ = if b then .ok (.ref μ.length) (μ ++ [.lst []]) else .ok (.lst []) μ := if_pos (sz (by show 0 ≤ _; decide))
theorem mk1 {b : Bool} {x : D} : mkL b [x] μ = if b then .ok (.ref μ.length) (μ ++ [.lst [x]]) else .ok (.lst [x]) μ := if_pos tp1
theorem mk2 {b : Bool} {x y : D} : mkL b [x, y] μ = if b then .ok (.ref μ.length) (μ ++ [.lst [x, y]]) else .ok (.lst [x, y]) μ := if_pos tp2
theorem mk3 {b : Bool} {x y z : D} : mkL b [x, y, z] μ = if b then .ok (.ref μ.length) (μ ++ [.lst [x, y, z]]) else .ok (.lst [x, y, z]) μ := if_pos tp3
theorem mk4 {b : Bool} {x y z u : D} : mkL b [x, y, z, u] μ = if b then .ok (.ref μ.length) (μ ++ [.lst [x, y, z, u]]) else .ok (.lst [x, y, z, u]) μ := if_pos tp4
theorem mk5 {b : Bool} {x y z u v : D} : mkL b [x, y, z, u, v] μ = if b then .ok (.ref μ.length) (μ ++ [.lst [x, y, z, u, v]]) else .ok (.lst [x, y, z, u, v]) μ := if_pos tp5
/-- which class a thing is of -/
def insC : D → Option Nat
  | .ins c _ => some c
  | _ => none
theorem ev_methC {c : Nat} {Φ : Fn} : dMeth c f fs Φ ρ μ = (f ρ μ).bind fun x μ1 => if insC (vw μ1 x) = some c then (fs ρ μ1).bind fun xs μ2 => Φ (x :: xs) μ2 else .bad := by
  unfold dMeth
  cases f ρ μ with
  | bad => rfl
  | ok x μ1 =>
    simp only [Res.bind_ok]
    generalize vw μ1 x = y
    cases y <;> simp [insC]
/-- lent lists -/
def borR (b : Bool) (μ : Mu) (r : Res D) : Res D := if b then (match r with
  | .ok d _ => if scal d then .ok d μ else .bad
  | .bad => .bad) else .bad
theorem ev_bor : dBor f ρ μ = borR (μ.all lendable) μ (f ρ (μ.map fzC)) := by
  unfold dBor borR
  cases f ρ (μ.map fzC) <;> rfl
def borT (b : Bool) (μ : Mu) (r : Res Bool) : Res Bool := if b then (match r with
  | .ok d _ => .ok d μ
  | .bad => .bad) else .bad
theorem ev_borT : dBorT c ρ μ = borT (μ.all lendable) μ (c ρ (μ.map fzC)) := by
  unfold dBorT borT
  cases c ρ (μ.map fzC) <;> rfl
theorem borT_ok {b : Bool} {μ1 : Mu} : borT true μ (.ok b μ1) = .ok b μ := rfl
theorem bor_b {b : Bool} {μ1 : Mu} : borR true μ (.ok (.bl b) μ1) = .ok (.bl b) μ := rfl
theorem bor_i {b : Int} {μ1 : Mu} : borR true μ (.ok (.int b) μ1) = .ok (.int b) μ := rfl
theorem bor_s {b : Str} {μ1 : Mu} : borR true μ (.ok (.str b) μ1) = .ok (.str b) μ := rfl
theorem bor_n {μ1 : Mu} : borR true μ (.ok .non μ1) = .ok .non μ := rfl
theorem bor1 {xs : List D} : ([.lst xs] : Mu).map fzC = [.fz (.lst xs)] := rfl
theorem bor2 {xs ys : List D} : ([.lst xs, .lst ys] : Mu).map fzC = [.fz (.lst xs), .fz (.lst ys)] := rfl
theorem bora1 {xs : List D} : ([.lst xs] : Mu).all lendable = true := rfl
theorem bora2 {xs ys : List D} : ([.lst xs, .lst ys] : Mu).all lendable = true := rfl
/-- a comprehension over typed things -/
theorem ev_compM {α β : Type} {e : α → D} {e' : β → D} {own : List Nat} {tt : Tg} {it : DI} (as : List α) (p : α → Bool) (v : α → β) (hi : it ρ μ = .ok (as.map e) μ) (hl : as.length ≤ 16777216)
    (h : ∀ a ∈ as, ∃ ρ1, bindT tt (e a) (wipeD ρ own) μ = some ρ1 ∧ c ρ1 μ = .ok (p a) μ ∧ (p a = true → f ρ1 μ = .ok (e' (v a)) μ)) : dComp false own tt it c f ρ μ = .ok (.lst (((as.filter p).map v).map e')) μ := by
  rw [ev_comp, hi]
  simp only [Res.bind_ok]
  have key : ∀ as : List α, (∀ a ∈ as, ∃ ρ1, bindT tt (e a) (wipeD ρ own) μ = some ρ1 ∧ c ρ1 μ = .ok (p a) μ ∧ (p a = true → f ρ1 μ = .ok (e' (v a)) μ)) → compL own tt c f (as.map e) ρ μ = .ok (((as.filter p).map v).map e') μ := by
    intro as
    induction as with
    | nil => intro _; rfl
    | cons a as ih =>
      intro h
      obtain ⟨ρ1, e1, e2, e3⟩ := h a List.mem_cons_self
      rw [List.map_cons]
      unfold compL
      rw [e1]
      have ih' := ih fun x hx => h x (List.mem_cons_of_mem _ hx)
      simp only [e2, Res.bind_ok]
      cases q : p a with
      | false => simp only [Bool.false_eq_true, if_false, List.filter_cons, q, ih']
      | true => simp only [if_true, e3 q, Res.bind_ok, List.filter_cons, q, List.map_cons, ih']
  rw [key as h]
  simp only [Res.bind_ok]
  exact mkL_f (sz (by rw [List.length_map, List.length_map]; have := List.length_filter_le p as; omega))
/-- .. without a test -/
theorem ev_compA {α β : Type} {e : α → D} {e' : β → D} {own : List Nat} {tt : Tg} {it : DI} (as : List α) (v : α → β) (hi : it ρ μ = .ok (as.map e) μ) (hl : as.length ≤ 16777216)
    (h : ∀ a ∈ as, ∃ ρ1, bindT tt (e a) (wipeD ρ own) μ = some ρ1 ∧ f ρ1 μ = .ok (e' (v a)) μ) : dComp false own tt it dYes f ρ μ = .ok (.lst ((as.map v).map e')) μ := by
  have := ev_compM (c := dYes) (f := f) (e' := e') as (fun _ => true) v hi hl fun a ha => by
    obtain ⟨ρ1, e1, e2⟩ := h a ha
    exact ⟨ρ1, e1, rfl, fun _ => e2⟩
  rwa [List.filter_eq_self.mpr (fun _ _ => rfl)] at this
end
end SB
set_option Elab.async false
set_option linter.all false
set_option maxRecDepth 100000
namespace SB
open PySem L2
noncomputable def m_law_cell : DS :=
  (sSeq (sIf (dBool (dBin (dVar 1) (dCall (dCons (dVar 0) dNil) biLen) opLt)) (sRet (dBin (dVar 0) (dVar 1) opIx)) sSkip)
  (sRet (dCst (.int 0))))
noncomputable def Φ_law_cell : Fn := callP 2 m_law_cell
noncomputable def m_law_signs : DS :=
  (sSeq (sSet 3 (dBin (dBin (dVar 1) (dCst (.int 1000000007)) (opMulA false)) (dCst (.int 2147483647)) opMod))
  (sSeq (sSet 4 dDnil)
  (sSeq (sFor (.one 5) (iSeq (dVar 0)) (sSeq (sSet 6 (dBin (dVar 3) (dCst (.int 7)) opMod))
  (sSeq (sIf (dBool (dBin (dVar 6) (dCst (.int 5)) opLt)) (sSub (dVar 4) (dVar 5) (dBin (dLst false (dCons (dBin (dVar 2) (dCst (.int 0)) opIx) (dCons (dBin (dVar 2) (dCst (.int 1)) opIx) (dCons (dBin (dVar 2) (dCst (.int 0)) opIx) (dCons (dVar 5) (dCons (dBin (dVar 2) (dCst (.int 4)) opIx) dNil)))))) (dVar 6) opIx)) sSkip)
  (sSet 3 (dBin (dVar 3) (dCst (.int 7)) opFdiv)))))
  (sRet (dFrzT (dVar 4))))))
noncomputable def Φ_law_signs : Fn := callP 7 m_law_signs
noncomputable def m_law_rooms : DS :=
  (sSeq (sSet 2 (dBin (dBin (dVar 0) (dCst (.int 1000000007)) (opMulA false)) (dCst (.int 2147483647)) opMod))
  (sSeq (sSet 3 (dComp false [4] (.one 4) (iRange1 (dVar 1)) (dBool (dBin (dBin (dBin (dVar 2) (dVar 4) opShr) (dCst (.int 1)) opBand) (dCst (.int 1)) opEq)) (dVar 4)))
  (sSeq (sIf (dAnd (dBool (dBin (dVar 3) (dLst false dNil) opEq)) (dBool (dBin (dBin (dBin (dVar 2) (dCst (.int 256)) opFdiv) (dCst (.int 4)) opMod) (dCst (.int 0)) opGt))) (sRet (dLst false (dCons (dBin (dBin (dVar 2) (dCst (.int 1024)) opFdiv) (dVar 1) opMod) dNil))) sSkip)
  (sRet (dVar 3)))))
noncomputable def Φ_law_rooms : Fn := callP 5 m_law_rooms
noncomputable def m_law_moves : DS :=
  (sSeq (sSet 3 (dLst true dNil))
  (sSeq (sFor (.one 4) (iSeq (dVar 0)) (sSeq (sSet 5 (dBin (dBin (dVar 4) (dCst (.int 1000000007)) (opMulA false)) (dCst (.int 2147483647)) opMod))
  (sExpr (dMet (dVar 3) isLst (dCons (dTup (dCons (dBin (dVar 5) (dVar 1) opMod) (dCons (dBin (dVar 2) (dBin (dBin (dVar 5) (dCst (.int 8)) opFdiv) (dCall (dCons (dVar 2) dNil) biLen) opMod) opIx) (dCons (dBin (dBin (dVar 5) (dCst (.int 64)) opFdiv) (dVar 1) opMod) dNil)))) dNil) meApp))))
  (sRet (dFrzT (dVar 3)))))
noncomputable def Φ_law_moves : Fn := callP 6 m_law_moves
noncomputable def m_law_words : DS :=
  (sSeq (sSet 1 (dCst (.str ("abcdefghijklmnopqrstuvwxyz" : Str))))
  (sSeq (sSet 2 (dBin (dBin (dVar 0) (dCst (.int 1000000007)) (opMulA false)) (dBin (dCst (.int 10)) (dCst (.int 18)) opPow) opMod))
  (sSeq (sSet 3 (dCst (.str ("" : Str))))
  (sSeq (sFor (.one 4) (iRange1 (dBin (dVar 2) (dCst (.int 7)) opMod)) (sSeq (sSet 3 (dBin (dVar 3) (dBin (dVar 1) (dBin (dBin (dVar 2) (dCst (.int 7)) opFdiv) (dCst (.int 26)) opMod) opIx) (opAdd false)))
  (sSet 2 (dBin (dVar 2) (dCst (.int 11)) opFdiv))))
  (sSeq (sSet 5 (dBin (dBin (dVar 2) (dCst (.int 7)) opFdiv) (dBin (dCall (dCons (dVar 3) dNil) biLen) (dCst (.int 1)) (opAdd false)) opMod))
  (sSeq (sIf (dBool (dBin (dBin (dVar 2) (dCst (.int 3)) opMod) (dCst (.int 0)) opEq)) (sSeq (sSet 3 (dJoin (dCst (.str ("" : Str))) (dComp false [4] (.one 4) (iRange1 (dCst (.int 6))) dYes (dBin (dVar 1) (dBin (dBin (dVar 2) (dBin (dCst (.int 3)) (dBin (dVar 4) (dVar 4) (opMulA false)) (opAdd false)) opFdiv) (dCst (.int 26)) opMod) opIx))))
  (sRet (dComp false [4] (.one 4) (iRange1 (dCst (.int 5))) dYes (dSlice false (dVar 3) none (some (dBin (dVar 4) (dCst (.int 1)) (opAdd false))))))) sSkip)
  (sRet (dComp false [4] (.one 4) (iRange1 (dCst (.int 5))) dYes (dBin (dBin (dSlice false (dVar 3) none (some (dVar 5))) (dBin (dVar 1) (dBin (dBin (dBin (dVar 2) (dCst (.int 5)) opFdiv) (dBin (dCst (.int 5)) (dVar 4) (opMulA false)) (opAdd false)) (dCst (.int 26)) opMod) opIx) (opAdd false)) (dSlice false (dVar 3) (some (dVar 5)) none) (opAdd false))))))))))
noncomputable def Φ_law_words : Fn := callP 6 m_law_words
noncomputable def m_law_deeds : DS :=
  (sRet (dCall (dCons (dVar 0) dNil) Φ_law_words))
noncomputable def Φ_law_deeds : Fn := callP 1 m_law_deeds
noncomputable def m_law_parts : DS :=
  (sSeq (sSet 3 (dCall (dCons (dVar 0) (dCons (dVar 1) dNil)) Φ_law_cell))
  (sSeq (sSet 4 (dBin (dLst false (dCons (dCst (.int 2)) (dCons (dCst (.int 3)) (dCons (dCst (.int 4)) (dCons (dCst (.int 3)) (dCons (dCst (.int 5)) (dCons (dCst (.int 1)) (dCons (dCst (.int 4)) (dCons (dCst (.int 8)) dNil))))))))) (dBin (dVar 3) (dCst (.int 8)) opMod) opIx))
  (sSeq (sSet 5 (dSlice false (dCall (dCons (dBin (dVar 3) (dCst (.int 8)) opFdiv) dNil) Φ_law_deeds) none (some (dBin (dCst (.int 2)) (dBin (dBin (dVar 3) (dCst (.int 8)) opFdiv) (dCst (.int 4)) opMod) (opAdd false)))))
  (sSeq (sSet 6 (dCall (dCons (dVar 5) (dCons (dCall (dCons (dVar 0) (dCons (dBin (dVar 1) (dCst (.int 1)) (opAdd false)) dNil)) Φ_law_cell) (dCons (dCall (dCons (dBin (dBin (dVar 3) (dCst (.int 16)) opFdiv) (dCst (.int 5)) (opAdd false)) dNil) Φ_law_words) dNil))) Φ_law_signs))
  (sSeq (sSet 7 (dBin (dBin (dCall (dCons (dVar 0) (dCons (dBin (dVar 1) (dCst (.int 2)) (opAdd false)) dNil)) Φ_law_cell) (dCst (.int 1000000007)) (opMulA false)) (dCst (.int 2147483647)) opMod))
  (sSeq (sSet 8 (dComp false [9] (.one 9) (iRange1 (dCall (dCons (dVar 5) dNil) biLen)) (dBool (dBin (dBin (dBin (dVar 7) (dBin (dLst false (dCons (dCst (.int 1)) (dCons (dCst (.int 3)) (dCons (dCst (.int 9)) (dCons (dCst (.int 27)) (dCons (dCst (.int 81)) dNil)))))) (dVar 9) opIx) opFdiv) (dCst (.int 3)) opMod) (dCst (.int 1)) opEq)) (dBin (dVar 5) (dVar 9) opIx)))
  (sSeq (sSet 10 (dCall (dCons (dCall (dCons (dVar 0) (dCons (dBin (dVar 1) (dCst (.int 3)) (opAdd false)) dNil)) Φ_law_cell) (dCons (dVar 4) dNil)) Φ_law_rooms))
  (sSeq (sSet 11 (dCall (dCons (dSlice false (dVar 0) (some (dBin (dVar 1) (dCst (.int 4)) (opAdd false))) (some (dBin (dBin (dVar 1) (dCst (.int 4)) (opAdd false)) (dVar 2) (opAdd false)))) (dCons (dVar 4) (dCons (dVar 5) dNil))) Φ_law_moves))
  (sRet (dLst false (dCons (dVar 4) (dCons (dVar 10) (dCons (dVar 11) (dCons (dVar 6) (dCons (dVar 8) dNil)))))))))))))))
noncomputable def Φ_law_parts : Fn := callP 12 m_law_parts
noncomputable def m_law_run : DS :=
  (sSeq (sIf (dBool (dBin (dVar 2) (dLst false dNil) opEq)) (sRet (dCst .non)) sSkip)
  (sSeq (sSet 3 (dBin (dVar 2) (dBin (dBin (dVar 0) (dCst (.int 0)) opIx) (dCall (dCons (dVar 2) dNil) biLen) opMod) opIx))
  (sSeq (sSet 4 (dTup (dCons (dVar 3) (dCons (dLst true dNil) dNil))))
  (sSeq (sFor (.one 5) (iSeq (dVar 0)) (sSeq (sSet 6 (dComp false [7] (.one 7) (iSeq (dVar 1)) (dBool (dBin (dBin (dVar 7) (dCst (.int 0)) opIx) (dVar 3) opEq)) (dVar 7)))
  (sIf (dAnd (dBool (dBin (dVar 6) (dLst false dNil) opNe)) (dBool (dBin (dBin (dVar 5) (dCst (.int 11)) opMod) (dCst (.int 0)) opGt))) (sSeq (sSet 7 (dBin (dVar 6) (dBin (dBin (dVar 5) (dCst (.int 11)) opFdiv) (dCall (dCons (dVar 6) dNil) biLen) opMod) opIx))
  (sSeq (sExpr (dMet (dBin (dVar 4) (dCst (.int 1)) opIx) isLst (dCons (dVar 7) dNil) meApp))
  (sSet 3 (dBin (dVar 7) (dCst (.int 2)) opIx)))) sSkip)))
  (sRet (dFrzT (dVar 4)))))))
noncomputable def Φ_law_run : Fn := callP 8 m_law_run
noncomputable def m_law_signs_of : DS :=
  (sRet (dComp false [2] (.one 2) (iSeq (dBin (dVar 0) (dCst (.int 1)) opIx)) (dBool (dBin (dBin (dVar 2) (dCst (.int 1)) opIx) (dVar 1) opIn)) (dBin (dVar 1) (dBin (dVar 2) (dCst (.int 1)) opIx) opIx)))
noncomputable def Φ_law_signs_of : Fn := callP 3 m_law_signs_of
end SB
set_option Elab.async false
set_option linter.all false
namespace SB
open PySem L2
def cellOf (ns : List Int) (k : Nat) : Int := ns.getD k 0
theorem f_law_cell (ns : List Int) (k : Nat) (μ : Mu) : Φ_law_cell [.scr ns, .int k] μ = .ok (.int (cellOf ns k)) μ := by
  refine callP_rt (by rfl) (d := .int (cellOf ns k)) (μ' := []) ?_ rfl μ
  rw [show startD 2 [D.scr ns, .int k] = [some (.scr ns), some (.int k)] from rfl]
  by_cases h : k < ns.length
  · have e : atI (ns.map D.int) (k : Int) = some (.int (cellOf ns k)) := by
      rw [atI_nat]; simp [h, cellOf, List.getD_eq_getElem?_getD]
    simp [m_law_cell, h, op_ix_c e]
  · simp [m_law_cell, h, cellOf, List.getD_eq_getElem?_getD]
end SB
set_option Elab.async false
set_option linter.all false
namespace SB
open PySem L2
abbrev LET : Str := "abcdefghijklmnopqrstuvwxyz"
def chs (z : Str) : List Nat := z.cps.toList
def low (z : Str) : Prop := ∀ c ∈ chs z, 97 ≤ c ∧ c ≤ 122
theorem len_chs (z : Str) : z.length = (chs z).length := by simp [chs, Str.length]
theorem let_at (k : Nat) (h : k < 26) : (chs LET)[k]? = some (97 + k) := by
  have e : chs LET = List.range' 97 26 := by decide +kernel
  rw [e, List.getElem?_range' (by omega)]; simp
theorem let_len : LET.length = 26 := by decide +kernel
theorem op_let {i : Int} (h0 : 0 ≤ i) (h1 : i < 26) (μ : Mu) : opIx (.str LET) (.int i) μ = .ok (.str ⟨#[97 + i.toNat]⟩) μ := by
  unfold opIx
  simp only [vw_s, vw_i]
  rw [if_pos (sz (by rw [let_len]; decide))]
  have e : i = ((i.toNat : Nat) : Int) := by omega
  have e2 : atI LET.cps.toList i = some (97 + i.toNat) := by
    conv => lhs; rw [e]
    rw [atI_nat]
    exact let_at i.toNat (by omega)
  rw [e2]; rfl
theorem chs_app (a b : Str) : chs (a ++ b) = chs a ++ chs b := by
  show (a.cps ++ b.cps).toList = _
  simp [chs]
theorem low_app {a b : Str} (ha : low a) (hb : low b) : low (a ++ b) := fun c hc => by
  rw [chs_app] at hc
  rcases List.mem_append.mp hc with h | h
  · exact ha c h
  · exact hb c h
theorem low_one (k : Nat) (h : k < 26) : low ⟨#[97 + k]⟩ := fun c hc => by
  have e : c = 97 + k := by simpa [chs] using hc
  omega
theorem low_cut {z : Str} (h : low z) (l u : Option Int) : low (cutS z l u) := fun c hc => by
  have h1 : c ∈ (z.cps.toList.drop (HT.sIx z.length 0 l)).take (HT.sIx z.length z.length u - HT.sIx z.length 0 l) := by simpa [chs, cutS] using hc
  exact h c (List.mem_of_mem_drop (List.mem_of_mem_take h1))
theorem cut_hi (z : Str) (k : Nat) : (cutS z none (some (k : Int))).length = min k z.length := by
  have e : z.cps.size = z.length := rfl
  rw [len_chs]
  simp only [chs, cutS, HT.sIx_none, HT.sIx_nat, List.length_take, List.length_drop, Array.length_toList, e]
  omega
theorem cut_lo (z : Str) (k : Nat) : (cutS z (some (k : Int)) none).length = z.length - k := by
  have e : z.cps.size = z.length := rfl
  rw [len_chs]
  simp only [chs, cutS, HT.sIx_none, HT.sIx_nat, List.length_take, List.length_drop, Array.length_toList, e]
  omega
theorem len_app (a b : Str) : (a ++ b).length = a.length + b.length := by rw [len_chs, len_chs, len_chs, chs_app, List.length_append]
def wordOk (z : Str) : Prop := 1 ≤ z.length ∧ z.length ≤ 8 ∧ low z
theorem op_add_s {b : Bool} {x y : Str} {μ : Mu} (h : x.length + y.length ≤ 100) : opAdd b (.str x) (.str y) μ = .ok (.str (x ++ y)) μ := if_pos (sz (by omega))
end SB
set_option Elab.async false
set_option linter.all false
namespace SB
open PySem L2
theorem ev_slice_s {f : DE} {lo hi : Option DE} {ρ : Ev} {μ : Mu} {b : Bool} {z : Str} {l u : Option Int} (hf : f ρ μ = .ok (.str z) μ) (hl : ∀ g, lo = some g → ∃ i, l = some i ∧ g ρ μ = .ok (.int i) μ) (hl0 : lo = none → l = none) (hu : ∀ g, hi = some g → ∃ i, u = some i ∧ g ρ μ = .ok (.int i) μ) (hu0 : hi = none → u = none) (hz : z.length ≤ 100) :
    dSlice b f lo hi ρ μ = .ok (.str (cutS z l u)) μ := by
  unfold dSlice
  rw [hf]
  simp only [Res.bind_ok]
  cases lo with
  | none =>
    cases hl0 rfl
    simp only [Res.bind_ok]
    cases hi with
    | none => cases hu0 rfl; simp only [Res.bind_ok, vw_s]; exact if_pos (sz (by omega))
    | some g =>
      obtain ⟨i, rfl, e⟩ := hu g rfl
      simp only [e, Res.bind_ok, vw_i, vw_s]; exact if_pos (sz (by omega))
  | some g =>
    obtain ⟨i, rfl, e⟩ := hl g rfl
    simp only [e, Res.bind_ok, vw_i]
    cases hi with
    | none => cases hu0 rfl; simp only [Res.bind_ok, vw_s]; exact if_pos (sz (by omega))
    | some g =>
      obtain ⟨i, rfl, e⟩ := hu g rfl
      simp only [e, Res.bind_ok, vw_i, vw_s]; exact if_pos (sz (by omega))
theorem mem_rng {n : Nat} {d : D} (h : d ∈ rngD 0 n) : ∃ k : Nat, k < n ∧ d = .int k := by
  unfold rngD at h
  obtain ⟨k, hk, rfl⟩ := List.mem_map.mp h
  exact ⟨k, List.mem_range.mp hk, by simp⟩
theorem ev_rng1 {f : DE} {ρ : Ev} {μ : Mu} {i : Int} (hf : f ρ μ = .ok (.int i) μ) (h0 : -(2 ^ 62) ≤ i) (h1 : i < 2 ^ 62) : iRange1 f ρ μ = .ok (rngD 0 i.toNat) μ := by
  unfold iRange1
  rw [hf]
  simp only [Res.bind_ok, vw_i]
  exact if_pos ⟨h0, h1⟩
/-- a comprehension over 0, 1, .. whose items are texts -/
theorem comp_strs {own : List Nat} {tt : Tg} {f : DE} {ρ : Ev} {μ : Mu} {n : Nat} (v : Nat → Str) (h : ∀ k < n, ∃ ρ1, bindT tt (.int k) (wipeD ρ own) μ = some ρ1 ∧ f ρ1 μ = .ok (.str (v k)) μ) :
    compL own tt dYes f (rngD 0 n) ρ μ = .ok (((List.range n).map v).map .str) μ := by
  have key : ∀ l : List Nat, (∀ k ∈ l, k < n) → compL own tt dYes f (l.map fun (i : Nat) => .int (0 + i)) ρ μ = .ok ((l.map v).map .str) μ := by
    intro l
    induction l with
    | nil => intro _; rfl
    | cons k l ih =>
      intro hl
      obtain ⟨ρ1, e1, e2⟩ := h k (hl k List.mem_cons_self)
      simp only [List.map_cons, compL, Int.zero_add]
      simp only [e1, ev_yes, Res.bind_ok, if_true, e2]
      rw [show (List.map (fun (i : Nat) => D.int i) l) = List.map (fun (i : Nat) => D.int (0 + i)) l by simp, ih fun j hj => hl j (List.mem_cons_of_mem _ hj)]; rfl
  exact key _ fun k hk => List.mem_range.mp hk
end SB
set_option Elab.async false
set_option linter.all false
set_option maxRecDepth 10000
namespace SB
open PySem L2
theorem seq_nx {s t : DS} {ρ ρ' : Ev} {μ μ' : Mu} (h : s ρ μ = .nx ρ' μ') : sSeq s t ρ μ = t ρ' μ' := by rw [ev_seq, h]
theorem seq_rt {s t : DS} {ρ : Ev} {d : D} {μ μ' : Mu} (h : s ρ μ = .rt d μ') : sSeq s t ρ μ = .rt d μ' := by rw [ev_seq, h]
theorem log2_small {j : Int} (h : j.natAbs < 2 ^ 64) : j.natAbs.log2 < 9000 := by
  rcases Nat.eq_zero_or_pos j.natAbs with z | z
  · rw [z]; decide
  · have := (Nat.log2_lt (by omega)).mpr h
    omega
theorem op_div_s {x y : Int} {μ : Mu} (h : 0 < y) (k : y.natAbs < 2 ^ 64) : opFdiv (.int x) (.int y) μ = .ok (.int (x / y)) μ := op_div_i h (log2_small k)
theorem bits_small {j : Int} (h : j.natAbs < 2 ^ 64) : Builtin.Int.intBits j ≤ 64 := PyProof.Rows.intBits_le h
theorem op_mul_s {b : Bool} {x y : Int} {μ : Mu} (h : Builtin.Int.intBits x ≤ 134000000) (k : y.natAbs < 2 ^ 64) : opMulA b (.int x) (.int y) μ = .ok (.int (x * y)) μ := op_mul_i (by have := bits_small k; omega)
theorem low_empty : low "" := fun c hc => by
  have e : chs ("" : Str) = [] := by decide +kernel
  rw [e] at hc; cases hc
/-- the letters that a word grows by -/
theorem f_law_words (c : Int) (hb : Builtin.Int.intBits c ≤ 134000000) : ∃ ws : List Str, ws.length = 5 ∧ (∀ w ∈ ws, wordOk w) ∧ ∀ μ, Φ_law_words [.int c] μ = .ok (.lst (ws.map .str)) μ := by
  suffices h : ∃ ws : List Str, ws.length = 5 ∧ (∀ w ∈ ws, wordOk w) ∧ ∃ μ', m_law_words [some (.int c), none, none, none, none, none] [] = .rt (.lst (ws.map .str)) μ' by
    obtain ⟨ws, h1, h2, μ', h3⟩ := h
    exact ⟨ws, h1, h2, fun μ => callP_rt (by rfl) h3 (by simp only [closed]; exact closeds_map (fun _ => rfl) ws) μ⟩
  unfold m_law_words
  rw [seq_nx (ρ' := [some (.int c), some (.str LET), none, none, none, none]) (μ' := []) (by simp)]
  have hN0 : (0 : Int) ≤ c * 1000000007 % 1000000000000000000 := Int.emod_nonneg _ (by decide)
  have hN1 : c * 1000000007 % 1000000000000000000 < 1000000000000000000 := Int.emod_lt_of_pos _ (by decide)
  generalize hN : c * 1000000007 % 1000000000000000000 = N at hN0 hN1
  rw [seq_nx (ρ' := [some (.int c), some (.str LET), some (.int N), none, none, none]) (μ' := []) (by
    have e1 : opMulA false (.int c) (.int 1000000007) [] = .ok (.int (c * 1000000007)) [] := op_mul_s hb (by decide)
    have e2 : opPow (.int 10) (.int 18) [] = .ok (.int 1000000000000000000) [] := by
      unfold opPow
      simp only [vw_i]
      rw [if_pos (by decide)]; rfl
    simp [e1, e2, op_mod_i, hN])]
  rw [seq_nx (ρ' := [some (.int c), some (.str LET), some (.int N), some (.str ""), none, none]) (μ' := []) (by simp)]
  -- the base
  have loop := sForL_nx (t := .one 4) (g := sSeq (sSet 3 (dBin (dVar 3) (dBin (dVar 1) (dBin (dBin (dVar 2) (dCst (.int 7)) opFdiv) (dCst (.int 26)) opMod) opIx) (opAdd false))) (sSet 2 (dBin (dVar 2) (dCst (.int 11)) opFdiv)))
    (fun k ρ μ => k ≤ (N % 7).toNat → μ = [] ∧ ∃ n b x, ρ = [some (.int c), some (.str LET), some (.int n), some (.str b), x, none] ∧ 0 ≤ n ∧ low b ∧ b.length = k) (rngD 0 (N % 7).toNat) 0
    [some (.int c), some (.str LET), some (.int N), some (.str ""), none, none] [] (fun _ => ⟨rfl, N, "", none, rfl, hN0, low_empty, by decide +kernel⟩) (fun i d ρ μ hd hi => by
      have hlt : i < (N % 7).toNat := by
        have := (List.getElem?_eq_some_iff.mp hd).1
        simpa [rngD] using this
      obtain ⟨rfl, n, b, x, rfl, hn, hlow, hlen⟩ := hi (by omega)
      have h7 : (N % 7).toNat < 7 := by omega
      refine ⟨_, rfl, [some (.int c), some (.str LET), some (.int (n / 11)), some (.str (b ++ ⟨#[97 + (n / 7 % 26).toNat]⟩)), some d, none], [], .inl ?_, fun _ => ⟨rfl, n / 11, _, _, rfl, by omega, low_app hlow (low_one _ (by omega)), ?_⟩⟩
      · have e1 : opFdiv (.int n) (.int 7) [] = .ok (.int (n / 7)) [] := op_div_s (by decide) (by decide)
        have e2 : opFdiv (.int n) (.int 11) [] = .ok (.int (n / 11)) [] := op_div_s (by decide) (by decide)
        have e3 : opIx (.str LET) (.int (n / 7 % 26)) [] = .ok (.str ⟨#[97 + (n / 7 % 26).toNat]⟩) [] := op_let (by omega) (by omega) []
        have e4 : opAdd false (.str b) (.str ⟨#[97 + (n / 7 % 26).toNat]⟩) [] = .ok (.str (b ++ ⟨#[97 + (n / 7 % 26).toNat]⟩)) [] := op_add_s (by
          have : (⟨#[97 + (n / 7 % 26).toNat]⟩ : Str).length = 1 := rfl
          omega)
        simp [e1, e2, op_mod_i, e3, e4]
      · rw [len_app, hlen]
        show _ + 1 = _
        omega)
  obtain ⟨ρ1, μ1, e1, h1⟩ := loop
  have hl : (rngD 0 (N % 7).toNat).length = (N % 7).toNat := by simp [rngD]
  rw [hl] at h1
  obtain ⟨rfl, n, b, x, rfl, hn, hlow, hlen⟩ := h1 (by omega)
  have h7 : (N % 7).toNat < 7 := by omega
  rw [seq_nx (ρ' := [some (.int c), some (.str LET), some (.int n), some (.str b), x, none]) (μ' := []) (by
    rw [ev_for, ev_rng1 (i := N % 7) (by simp [op_mod_i]) (by omega) (by omega)]
    exact e1)]
  have hb6 : b.length ≤ 6 := by omega
  have hm0 : 0 ≤ n / 7 % ((b.length : Int) + 1) := Int.emod_nonneg _ (by omega)
  have hm1 : n / 7 % ((b.length : Int) + 1) < (b.length : Int) + 1 := Int.emod_lt_of_pos _ (by omega)
  obtain ⟨a, ha⟩ : ∃ a : Nat, n / 7 % ((b.length : Int) + 1) = (a : Int) := ⟨_, (Int.toNat_of_nonneg hm0).symm⟩
  have hab : a ≤ b.length := by omega
  have bl : biLen [.str b] [] = .ok (.int b.length) [] := if_pos (sz (by omega))
  have d7 : opFdiv (.int n) (.int 7) [] = .ok (.int (n / 7)) [] := op_div_s (by decide) (by decide)
  rw [seq_nx (ρ' := [some (.int c), some (.str LET), some (.int n), some (.str b), x, some (.int a)]) (μ' := []) (by
    simp [d7, bl, op_mod_i (show 0 < (b.length : Int) + 1 by omega), ha])]
  by_cases h3 : n % 3 = 0
  · -- each the beginning of the next
    have cm := comp_strs (own := [4]) (tt := .one 4) (f := dBin (dVar 1) (dBin (dBin (dVar 2) (dBin (dCst (.int 3)) (dBin (dVar 4) (dVar 4) (opMulA false)) (opAdd false)) opFdiv) (dCst (.int 26)) opMod) opIx)
      (ρ := [some (.int c), some (.str LET), some (.int n), some (.str b), x, some (.int a)]) (μ := []) (n := 6) (fun k => ⟨#[97 + (n / (3 + (k : Int) * k) % 26).toNat]⟩) (fun k hk => ⟨_, rfl, by
        have hkk : (k : Int) * k ≤ 25 ∧ 0 ≤ (k : Int) * k := by
          have : k = 0 ∨ k = 1 ∨ k = 2 ∨ k = 3 ∨ k = 4 ∨ k = 5 := by omega
          rcases this with rfl | rfl | rfl | rfl | rfl | rfl <;> decide
        have e1 : opMulA false (.int k) (.int k) [] = .ok (.int ((k : Int) * k)) [] := op_mul_s (by have := bits_small (j := (k : Int)) (by omega); omega) (by omega)
        have e2 : opFdiv (.int n) (.int (3 + (k : Int) * k)) [] = .ok (.int (n / (3 + (k : Int) * k))) [] := op_div_s (by omega) (by omega)
        have e3 := op_let (i := n / (3 + (k : Int) * k) % 26) (by omega) (by omega) []
        simp [wipeD, e1, e2, op_mod_i, e3]⟩)
    generalize hvs : (List.range 6).map (fun k : Nat => (⟨#[97 + (n / (3 + (k : Int) * k) % 26).toNat]⟩ : Str)) = vs at cm
    have hvl : vs.length = 6 := by rw [← hvs]; simp
    have hv1 : ∀ z ∈ vs, ∃ j, j < 26 ∧ z = ⟨#[97 + j]⟩ := fun z hz => by
      rw [← hvs] at hz
      obtain ⟨k, _, rfl⟩ := List.mem_map.mp hz
      exact ⟨_, by omega, rfl⟩
    obtain ⟨B, hB, hBl, hBlow⟩ : ∃ B : Str, Txt.join "" vs = B ∧ B.length = 6 ∧ low B := by
      have key : ∀ vs : List Str, (∀ z ∈ vs, ∃ j, j < 26 ∧ z = ⟨#[97 + j]⟩) → ∃ l : List Nat, Txt.join "" vs = ⟨l.toArray⟩ ∧ l.length = vs.length ∧ ∀ c ∈ l, 97 ≤ c ∧ c ≤ 122 := by
        intro vs hv
        have e0 : (("" : Str)) = SX.S [] := by decide +kernel
        have jn : ∀ ps : List (List Nat), TL.joinL [] ps = ps.flatten := by
          intro ps
          induction ps with
          | nil => rfl
          | cons p ps ih =>
            cases ps with
            | nil => simp [TL.joinL]
            | cons q r => simp only [TL.joinL, List.nil_append, ih, List.flatten_cons]
        have hps : ∃ ps : List (List Nat), vs = ps.map SX.S ∧ (∀ p ∈ ps, ∃ j, j < 26 ∧ p = [97 + j]) ∧ ps.length = vs.length := by
          induction vs with
          | nil => exact ⟨[], rfl, by simp, rfl⟩
          | cons z vs ih =>
            obtain ⟨ps, e, h1, h2⟩ := ih fun y hy => hv y (List.mem_cons_of_mem _ hy)
            obtain ⟨j, hj, ez⟩ := hv z List.mem_cons_self
            refine ⟨[97 + j] :: ps, by rw [List.map_cons, ← e, ez], fun p hp => ?_, by simp [h2]⟩
            rcases List.mem_cons.mp hp with q | q
            · exact ⟨j, hj, q⟩
            · exact h1 p q
        obtain ⟨ps, e, h1, h2⟩ := hps
        refine ⟨ps.flatten, ?_, ?_, ?_⟩
        · rw [e, e0, SX.join_S, jn]
        · rw [← h2]
          clear e h2
          induction ps with
          | nil => rfl
          | cons p ps ih =>
            obtain ⟨j, _, ep⟩ := h1 p List.mem_cons_self
            rw [List.flatten_cons, List.length_append, ih fun q hq => h1 q (List.mem_cons_of_mem _ hq), ep]
            simp; omega
        · intro c hc
          obtain ⟨p, hp, hcp⟩ := List.mem_flatten.mp hc
          obtain ⟨j, hj, ep⟩ := h1 p hp
          rw [ep] at hcp
          have := List.mem_singleton.mp hcp
          omega
      obtain ⟨l, e, e2, e3⟩ := key vs hv1
      exact ⟨_, e, by rw [len_chs]; simp [chs, e2, hvl], fun c hc => e3 c (by simpa [chs] using hc)⟩
    have cm2 := comp_strs (own := [4]) (tt := .one 4) (f := dSlice false (dVar 3) none (some (dBin (dVar 4) (dCst (.int 1)) (opAdd false))))
      (ρ := [some (.int c), some (.str LET), some (.int n), some (.str B), x, some (.int a)]) (μ := []) (n := 5) (fun k => cutS B none (some ((k + 1 : Nat) : Int))) (fun k hk => ⟨_, rfl,
        ev_slice_s (z := B) (l := none) (u := some ((k + 1 : Nat) : Int)) (by simp [wipeD]) (fun g e => by cases e) (fun _ => rfl) (fun g e => by cases e; exact ⟨_, rfl, by simp [wipeD]⟩) (fun e => by cases e) (by omega)⟩)
    refine ⟨(List.range 5).map fun k => cutS B none (some ((k + 1 : Nat) : Int)), by simp, fun w hw => ?_, [], ?_⟩
    · obtain ⟨k, hk, rfl⟩ := List.mem_map.mp hw
      have hk := List.mem_range.mp hk
      refine ⟨?_, ?_, low_cut hBlow _ _⟩ <;> rw [cut_hi, hBl] <;> omega
    · have e1 : dJoin (dCst (.str "")) (dComp false [4] (.one 4) (iRange1 (dCst (.int 6))) dYes (dBin (dVar 1) (dBin (dBin (dVar 2) (dBin (dCst (.int 3)) (dBin (dVar 4) (dVar 4) (opMulA false)) (opAdd false)) opFdiv) (dCst (.int 26)) opMod) opIx))
          [some (.int c), some (.str LET), some (.int n), some (.str b), x, some (.int a)] [] = .ok (.str B) [] := by
        have st : ∀ l : List Str, strsOf (l.map .str) = some l := by
          intro l
          induction l with
          | nil => rfl
          | cons z l ih => simp only [List.map_cons, strsOf, ih, Option.map_some]
        have hs : (vs.map (·.length)).sum ≤ 100 := by
          have : ∀ l : List Str, (∀ z ∈ l, ∃ j, j < 26 ∧ z = ⟨#[97 + j]⟩) → (l.map (·.length)).sum = l.length := by
            intro l
            induction l with
            | nil => intro _; rfl
            | cons z l ih =>
              intro h
              obtain ⟨j, _, ez⟩ := h z List.mem_cons_self
              rw [List.map_cons, List.sum_cons, ih fun y hy => h y (List.mem_cons_of_mem _ hy), ez, List.length_cons]
              show 1 + _ = _
              omega
          rw [this vs hv1, hvl]; decide
        have z0 : ("" : Str).length = 0 := by decide +kernel
        unfold dJoin
        simp only [ev_cst, Res.bind_ok, vw_s, ev_comp]
        rw [ev_rng1 (i := 6) rfl (by decide) (by decide)]
        simp only [Res.bind_ok]
        rw [show (6 : Int).toNat = 6 from rfl, cm]
        simp only [Res.bind_ok]
        rw [mkL_f (sz (by rw [List.length_map, hvl]; decide))]
        simp only [Res.bind_ok, vw_l, seqL, st]
        rw [if_pos (by rw [z0]; omega), hB]
      have e2 : dComp false [4] (.one 4) (iRange1 (dCst (.int 5))) dYes (dSlice false (dVar 3) none (some (dBin (dVar 4) (dCst (.int 1)) (opAdd false)))) [some (.int c), some (.str LET), some (.int n), some (.str B), x, some (.int a)] [] = .ok (.lst (((List.range 5).map fun k => cutS B none (some ((k + 1 : Nat) : Int))).map .str)) [] := by
        rw [ev_comp, ev_rng1 (i := 5) rfl (by decide) (by decide)]
        simp only [Res.bind_ok]
        rw [show (5 : Int).toNat = 5 from rfl, cm2]
        simp only [Res.bind_ok]
        exact mkL_f (sz (by simp))
      refine seq_rt ?_
      rw [ev_if]
      simp only [ev_bool, ev_bin, ev_var, ev_cst, List.getElem?_cons_succ, List.getElem?_cons_zero, Res.bind_ok]
      rw [op_mod_i (by decide)]
      simp only [Res.bind_ok, op_eq_i, ev_asB, out_ok, h3, decide_true, if_true]
      rw [seq_nx (ρ' := [some (.int c), some (.str LET), some (.int n), some (.str B), x, some (.int a)]) (μ' := []) (by rw [ev_set, e1]; rfl)]
      rw [ev_ret, e2]; rfl
  · -- one letter put in
    have lt1 : ∀ j : Nat, (⟨#[97 + j]⟩ : Str).length = 1 := fun _ => rfl
    have cm2 := comp_strs (own := [4]) (tt := .one 4) (f := dBin (dBin (dSlice false (dVar 3) none (some (dVar 5))) (dBin (dVar 1) (dBin (dBin (dBin (dVar 2) (dCst (.int 5)) opFdiv) (dBin (dCst (.int 5)) (dVar 4) (opMulA false)) (opAdd false)) (dCst (.int 26)) opMod) opIx) (opAdd false)) (dSlice false (dVar 3) (some (dVar 5)) none) (opAdd false))
      (ρ := [some (.int c), some (.str LET), some (.int n), some (.str b), x, some (.int a)]) (μ := []) (n := 5) (fun k => cutS b none (some (a : Int)) ++ ⟨#[97 + ((n / 5 + 5 * (k : Int)) % 26).toNat]⟩ ++ cutS b (some (a : Int)) none) (fun k hk => ⟨_, rfl, by
        have l1 : (cutS b none (some (a : Int))).length = a := by rw [cut_hi]; omega
        have l2 : (cutS b (some (a : Int)) none).length = b.length - a := cut_lo b a
        have e1 : dSlice false (dVar 3) none (some (dVar 5)) [some (.int c), some (.str LET), some (.int n), some (.str b), some (.int k), some (.int a)] [] = .ok (.str (cutS b none (some (a : Int)))) [] :=
          ev_slice_s (by simp) (fun g e => by cases e) (fun _ => rfl) (fun g e => by cases e; exact ⟨_, rfl, by simp⟩) (fun e => by cases e) (by omega)
        have e2 : dSlice false (dVar 3) (some (dVar 5)) none [some (.int c), some (.str LET), some (.int n), some (.str b), some (.int k), some (.int a)] [] = .ok (.str (cutS b (some (a : Int)) none)) [] :=
          ev_slice_s (by simp) (fun g e => by cases e; exact ⟨_, rfl, by simp⟩) (fun e => by cases e) (fun g e => by cases e) (fun _ => rfl) (by omega)
        have e3 : opMulA false (.int 5) (.int k) [] = .ok (.int (5 * (k : Int))) [] := op_mul_s (by have := bits_small (j := 5) (by decide); omega) (by omega)
        have e4 := op_let (i := (n / 5 + 5 * (k : Int)) % 26) (by omega) (by omega) []
        have e5 : opFdiv (.int n) (.int 5) [] = .ok (.int (n / 5)) [] := op_div_s (by decide) (by decide)
        have e6 : opAdd false (.str (cutS b none (some (a : Int)))) (.str ⟨#[97 + ((n / 5 + 5 * (k : Int)) % 26).toNat]⟩) [] = .ok (.str (cutS b none (some (a : Int)) ++ ⟨#[97 + ((n / 5 + 5 * (k : Int)) % 26).toNat]⟩)) [] := op_add_s (by rw [l1, lt1]; omega)
        have e7 : opAdd false (.str (cutS b none (some (a : Int)) ++ ⟨#[97 + ((n / 5 + 5 * (k : Int)) % 26).toNat]⟩)) (.str (cutS b (some (a : Int)) none)) [] = .ok (.str (cutS b none (some (a : Int)) ++ ⟨#[97 + ((n / 5 + 5 * (k : Int)) % 26).toNat]⟩ ++ cutS b (some (a : Int)) none)) [] := op_add_s (by rw [len_app, l1, lt1, l2]; omega)
        show dBin _ _ _ [some (.int c), some (.str LET), some (.int n), some (.str b), some (.int k), some (.int a)] [] = _
        rw [ev_bin, ev_bin, e1]
        simp [e5, e3, op_mod_i, e4, e6, e7, e2]⟩)
    refine ⟨(List.range 5).map fun k : Nat => cutS b none (some (a : Int)) ++ ⟨#[97 + ((n / 5 + 5 * (k : Int)) % 26).toNat]⟩ ++ cutS b (some (a : Int)) none, by simp, fun w hw => ?_, [], ?_⟩
    · obtain ⟨k, hk, rfl⟩ := List.mem_map.mp hw
      have hk := List.mem_range.mp hk
      refine ⟨?_, ?_, low_app (low_app (low_cut hlow _ _) (low_one _ (by omega))) (low_cut hlow _ _)⟩ <;> rw [len_app, len_app, cut_hi, cut_lo, lt1] <;> omega
    · rw [seq_nx (ρ' := [some (.int c), some (.str LET), some (.int n), some (.str b), x, some (.int a)]) (μ' := []) (by
        rw [ev_if]
        simp only [ev_bool, ev_bin, ev_var, ev_cst, List.getElem?_cons_succ, List.getElem?_cons_zero, Res.bind_ok]
        rw [op_mod_i (by decide)]
        simp only [Res.bind_ok, op_eq_i, ev_asB, out_ok, h3, decide_false, Bool.false_eq_true, if_false, ev_skip])]
      rw [ev_ret, ev_comp, ev_rng1 (i := 5) rfl (by decide) (by decide)]
      simp only [Res.bind_ok]
      rw [show (5 : Int).toNat = 5 from rfl, cm2]
      simp only [Res.bind_ok]
      rw [mkL_f (sz (by simp))]; rfl
end SB
set_option Elab.async false
set_option linter.all false
set_option maxRecDepth 10000
namespace SB
open PySem L2
structure Mv where
  h : Int
  d : Str
  t : Int
  deriving DecidableEq
def mvD (m : Mv) : D := .tup [.int m.h, .str m.d, .int m.t]
theorem okS_of {z : Str} (h : low z) : okS z := by
  have e : z.cps.all (· < 0x110000) = true := by
    rw [← Array.all_toList, List.all_eq_true]
    intro c hc
    have := h c hc
    simp only [decide_eq_true_eq]
    omega
  have e2 : PyData.canLay0 (.str z) = z.cps.all (· < 0x110000) := by simp only [PyData.canLay0]; rfl
  unfold okS SeqAt.shaped
  rw [e2, e]
  simp [PyData.depth]
theorem cl_strs (ws : List Str) : closeds (ws.map D.str) = true := closeds_map (fun _ => rfl) ws
theorem cl_ints (ws : List Int) : closeds (ws.map D.int) = true := closeds_map (fun _ => rfl) ws
def sgD (p : Str × Str) : D × D := (.str p.1, .str p.2)
theorem closede_sg : ∀ sg : List (Str × Str), closede (sg.map sgD) = true
  | [] => rfl
  | p :: sg => by simp only [List.map_cons, sgD, closede, closed, closede_sg sg, Bool.and_self]
theorem keq_s (a b : Str) : keq (.str a) (.str b) = decide (a = b) := rfl
theorem kfits_sg (sg : List (Str × Str)) (k : Str) : kfits (sg.map sgD) (.str k) = true := by
  unfold kfits
  cases sg with
  | nil => rfl
  | cons p sg => rfl
def putS (sg : List (Str × Str)) (k v : Str) : List (Str × Str) := if sg.any fun p => decide (p.1 = k) then sg.map fun p => if decide (p.1 = k) then (p.1, v) else p else sg ++ [(k, v)]
theorem dput_sg (sg : List (Str × Str)) (k v : Str) : dput (sg.map sgD) (.str k) (.str v) = (putS sg k v).map sgD := by
  unfold dput putS
  rw [List.any_map]
  have e : (fun p : D × D => keq p.1 (.str k)) ∘ sgD = fun p => decide (p.1 = k) := rfl
  rw [e]
  split
  · rw [List.map_map, List.map_map]
    refine List.map_congr_left fun p _ => ?_
    show (if keq (.str p.1) (.str k) = true then ((sgD p).1, D.str v) else sgD p) = sgD (if decide (p.1 = k) = true then (p.1, v) else p)
    rw [keq_s]
    split <;> rfl
  · rw [List.map_append]; rfl
def getS (sg : List (Str × Str)) (k : Str) : Option Str := (sg.find? fun p => decide (p.1 = k)).map (·.2)
theorem dget_sg (sg : List (Str × Str)) (k : Str) : dget (sg.map sgD) (.str k) = (getS sg k).map .str := by
  unfold dget getS
  induction sg with
  | nil => rfl
  | cons p sg ih =>
    simp only [List.map_cons, List.find?_cons]
    have e : keq (sgD p).1 (.str k) = decide (p.1 = k) := rfl
    rw [e]
    by_cases h : p.1 = k
    · simp only [h, decide_true, Option.map_some]; rfl
    · simp only [decide_eq_false h]; exact ih
theorem putS_mem {sg : List (Str × Str)} {k v : Str} {p : Str × Str} (h : p ∈ putS sg k v) : p ∈ sg ∨ ((p.1 = k ∨ ∃ q ∈ sg, q.1 = p.1) ∧ p.2 = v) := by
  unfold putS at h
  split at h
  · obtain ⟨q, hq, e⟩ := List.mem_map.mp h
    split at e
    · rw [← e]; exact .inr ⟨.inr ⟨q, hq, rfl⟩, rfl⟩
    · exact .inl (e ▸ hq)
  · rcases List.mem_append.mp h with h | h
    · exact .inl h
    · rw [List.mem_singleton.mp h]; exact .inr ⟨.inl rfl, rfl⟩
theorem putS_len (sg : List (Str × Str)) (k v : Str) : (putS sg k v).length ≤ sg.length + 1 := by
  unfold putS
  split <;> simp
/-- an item of a list of texts -/
theorem ix_str {ws : List Str} {k : Nat} {w : Str} (h : ws[k]? = some w) (μ : Mu) : opIx (.lst (ws.map .str)) (.int k) μ = .ok (.str w) μ := op_ix_l (by rw [atI_nat, List.getElem?_map, h]; rfl)
theorem f_law_signs (deeds spare : List Str) (c : Int) (hb : Builtin.Int.intBits c ≤ 134000000) (hd : ∀ w ∈ deeds, wordOk w) (hs : spare.length = 5) (hso : ∀ w ∈ spare, wordOk w) (hl : deeds.length ≤ 100) :
    ∃ sg : List (Str × Str), (∀ p ∈ sg, wordOk p.1 ∧ wordOk p.2) ∧ sg.length ≤ deeds.length ∧ ∀ μ, Φ_law_signs [.lst (deeds.map .str), .int c, .lst (spare.map .str)] μ = .ok (.dic (sg.map sgD)) μ := by
  suffices h : ∃ sg : List (Str × Str), (∀ p ∈ sg, wordOk p.1 ∧ wordOk p.2) ∧ sg.length ≤ deeds.length ∧ ∃ μ', m_law_signs [some (.lst (deeds.map .str)), some (.int c), some (.lst (spare.map .str)), none, none, none, none] [] = .rt (.dic (sg.map sgD)) μ' by
    obtain ⟨sg, h1, h2, μ', h3⟩ := h
    exact ⟨sg, h1, h2, fun μ => callP_rt (by simp only [closeds, closed, cl_strs, Bool.and_self]) h3 (by simp only [closed]; exact closede_sg sg) μ⟩
  unfold m_law_signs
  have hN0 : (0 : Int) ≤ c * 1000000007 % 2147483647 := Int.emod_nonneg _ (by decide)
  have hN1 : c * 1000000007 % 2147483647 < 2147483647 := Int.emod_lt_of_pos _ (by decide)
  have hm : opMulA false (.int c) (.int 1000000007) [] = .ok (.int (c * 1000000007)) [] := op_mul_s hb (by decide)
  generalize c * 1000000007 = N0 at hm hN0 hN1
  rw [seq_nx (ρ' := [some (.lst (deeds.map .str)), some (.int c), some (.lst (spare.map .str)), some (.int (N0 % 2147483647)), none, none, none]) (μ' := []) (by simp [hm, op_mod_i])]
  generalize N0 % 2147483647 = N at hN0 hN1
  rw [seq_nx (ρ' := [some (.lst (deeds.map .str)), some (.int c), some (.lst (spare.map .str)), some (.int N), some (.ref 0), none, none]) (μ' := [.dic []]) (by simp [dDnil])]
  obtain ⟨s0, s1, s2, s3, s4, rfl⟩ : ∃ a b c d e, spare = [a, b, c, d, e] := by
    match spare, hs with
    | [a, b, c, d, e], _ => exact ⟨a, b, c, d, e, rfl⟩
  have w0 : wordOk s0 := hso s0 (by simp)
  have w1 : wordOk s1 := hso s1 (by simp)
  have w4 : wordOk s4 := hso s4 (by simp)
  have loop := sForL_nx (t := .one 5) (g := (sSeq (sSet 6 (dBin (dVar 3) (dCst (.int 7)) opMod))
    (sSeq (sIf (dBool (dBin (dVar 6) (dCst (.int 5)) opLt)) (sSub (dVar 4) (dVar 5) (dBin (dLst false (dCons (dBin (dVar 2) (dCst (.int 0)) opIx) (dCons (dBin (dVar 2) (dCst (.int 1)) opIx) (dCons (dBin (dVar 2) (dCst (.int 0)) opIx) (dCons (dVar 5) (dCons (dBin (dVar 2) (dCst (.int 4)) opIx) dNil)))))) (dVar 6) opIx)) sSkip)
    (sSet 3 (dBin (dVar 3) (dCst (.int 7)) opFdiv)))))
    (fun k ρ μ => k ≤ deeds.length → ∃ sg n x y, μ = [.dic (sg.map sgD)] ∧ ρ = [some (.lst (deeds.map .str)), some (.int c), some (.lst ([s0, s1, s2, s3, s4].map .str)), some (.int n), some (.ref 0), x, y] ∧ 0 ≤ n ∧ (∀ p ∈ sg, wordOk p.1 ∧ wordOk p.2) ∧ sg.length ≤ k) (deeds.map .str) 0
    [some (.lst (deeds.map .str)), some (.int c), some (.lst ([s0, s1, s2, s3, s4].map .str)), some (.int N), some (.ref 0), none, none] [.dic []] (fun _ => ⟨[], N, none, none, rfl, rfl, hN0, (fun p hp => by cases hp), Nat.le_refl _⟩) (fun i d ρ μ hdd hi => by
      rw [List.getElem?_map] at hdd
      obtain ⟨w, hw, rfl⟩ := Option.map_eq_some_iff.mp hdd
      have hwm := List.mem_of_getElem? hw
      have hlt : i < deeds.length := (List.getElem?_eq_some_iff.mp hw).1
      obtain ⟨sg, n, x, y, rfl, rfl, hn, hsg, hlen⟩ := hi (by omega)
      have d7 : ∀ μ, opFdiv (.int n) (.int 7) μ = .ok (.int (n / 7)) μ := fun μ => op_div_s (by decide) (by decide)
      refine ⟨_, rfl, ?_⟩
      by_cases h5 : n % 7 < 5
      · obtain ⟨k, hk⟩ : ∃ k : Nat, n % 7 = (k : Int) := ⟨(n % 7).toNat, by omega⟩
        obtain ⟨v, hv, hvw⟩ : ∃ v, ([s0, s1, s0, w, s4] : List Str)[k]? = some v ∧ wordOk v := by
          have : k = 0 ∨ k = 1 ∨ k = 2 ∨ k = 3 ∨ k = 4 := by omega
          rcases this with rfl | rfl | rfl | rfl | rfl
          · exact ⟨s0, rfl, w0⟩
          · exact ⟨s1, rfl, w1⟩
          · exact ⟨s0, rfl, w0⟩
          · exact ⟨w, rfl, hd w hwm⟩
          · exact ⟨s4, rfl, w4⟩
        refine ⟨[some (.lst (deeds.map .str)), some (.int c), some (.lst ([s0, s1, s2, s3, s4].map .str)), some (.int (n / 7)), some (.ref 0), some (.str w), some (.int (n % 7))], [.dic ((putS sg w v).map sgD)], .inl ?_, fun _ => ⟨putS sg w v, n / 7, _, _, rfl, rfl, by omega, fun p hp => ?_, by have := putS_len sg w v; omega⟩⟩
        · have i0 : ∀ μ, opIx (.lst ([s0, s1, s2, s3, s4].map .str)) (.int 0) μ = .ok (.str s0) μ := fun μ => ix_str (k := 0) rfl μ
          have i1 : ∀ μ, opIx (.lst ([s0, s1, s2, s3, s4].map .str)) (.int 1) μ = .ok (.str s1) μ := fun μ => ix_str (k := 1) rfl μ
          have i4 : ∀ μ, opIx (.lst ([s0, s1, s2, s3, s4].map .str)) (.int 4) μ = .ok (.str s4) μ := fun μ => ix_str (k := 4) rfl μ
          have ik : ∀ μ, opIx (.lst [.str s0, .str s1, .str s0, .str w, .str s4]) (.int (n % 7)) μ = .ok (.str v) μ := fun μ => by rw [hk]; exact ix_str (ws := [s0, s1, s0, w, s4]) hv μ
          have st : setIxD (.ref 0) (.str w) (.str v) [.dic (sg.map sgD)] = some [.dic ((putS sg w v).map sgD)] := by
            unfold setIxD
            simp only [List.getElem?_cons_zero, kfits_sg, dput_sg, Bool.true_and]
            rw [if_pos (by rw [List.length_map, decide_eq_true_eq, sizeLine_eq]; omega)]; rfl
          have mk : ∀ μ, mkL false [.str s0, .str s1, .str s0, .str w, .str s4] μ = .ok (.lst [.str s0, .str s1, .str s0, .str w, .str s4]) μ := fun μ => mkL_f (sz (by show 5 ≤ 16777216; decide))
          simp only [ev_seq, ev_set, ev_bin, ev_var, ev_cst, List.set_cons_succ, List.set_cons_zero, List.getElem?_cons_succ, List.getElem?_cons_zero, Res.bind_ok, out_ok, op_mod_i (show (0 : Int) < 7 by decide), ev_if, ev_bool, op_lt_i, ev_asB, h5, decide_true, if_true, sSub, ev_lst, ev_cons, ev_nil, i0, i1, i4, mk, ik, st, d7]
        · rcases putS_mem hp with hp | ⟨hp1, hp2⟩
          · exact hsg p hp
          · rw [hp2]
            refine ⟨?_, hvw⟩
            rcases hp1 with e | ⟨q, hq, e⟩
            · rw [e]; exact hd w hwm
            · rw [← e]; exact (hsg q hq).1
      · refine ⟨[some (.lst (deeds.map .str)), some (.int c), some (.lst ([s0, s1, s2, s3, s4].map .str)), some (.int (n / 7)), some (.ref 0), some (.str w), some (.int (n % 7))], [.dic (sg.map sgD)], .inl ?_, fun _ => ⟨sg, n / 7, _, _, rfl, rfl, by omega, hsg, by omega⟩⟩
        simp only [ev_seq, ev_set, ev_bin, ev_var, ev_cst, List.set_cons_succ, List.set_cons_zero, List.getElem?_cons_succ, List.getElem?_cons_zero, Res.bind_ok, out_ok, op_mod_i (show (0 : Int) < 7 by decide), ev_if, ev_bool, op_lt_i, ev_asB, h5, decide_false, Bool.false_eq_true, if_false, ev_skip, d7])
  obtain ⟨ρ1, μ1, e1, h1⟩ := loop
  rw [List.length_map] at h1
  obtain ⟨sg, n, x, y, rfl, rfl, _, hsg, hlen⟩ := h1 (by omega)
  refine ⟨sg, hsg, by omega, [.fz (.dic (sg.map sgD))], ?_⟩
  rw [seq_nx (by simp only [ev_for, ev_iseq, ev_var, List.getElem?_cons_zero, Res.bind_ok, it_l, Res.of_some, out_ok]; exact e1)]
  simp only [ev_ret, dFrzT, ev_var, List.getElem?_cons_succ, List.getElem?_cons_zero, Res.bind_ok, frzT, frz1, out_ok, List.set_cons_zero]
end SB
set_option Elab.async false
set_option linter.all false
set_option maxRecDepth 10000
namespace SB
open PySem L2
abbrev Spt : Type := Int × Bool
abbrev Way : Type := Int × List Mv
/-- may the moves be gone one behind another from r -/
def chainB (kn : List Mv) : Int → List Mv → Bool
  | _, [] => true
  | r, m :: row => decide (m.h = r) && decide (m ∈ kn) && chainB kn m.t row
def endR : Int → List Mv → Int
  | r, [] => r
  | _, m :: row => endR m.t row
def sigs (sg : List (Str × Str)) (row : List Mv) : List Str := row.filterMap fun m => getS sg m.d
def fltB (fs : List Str) (row : List Mv) : Bool := row.any fun m => decide (m.d ∈ fs)
theorem endR_snoc (m : Mv) : ∀ (row : List Mv) (r : Int), endR r (row ++ [m]) = m.t
  | [], _ => rfl
  | _ :: row, _ => endR_snoc m row _
theorem chainB_snoc (kn : List Mv) (m : Mv) : ∀ (row : List Mv) (r : Int), chainB kn r (row ++ [m]) = (chainB kn r row && decide (m.h = endR r row) && decide (m ∈ kn))
  | [], r => by simp only [List.nil_append, chainB, endR, Bool.and_true, Bool.true_and]; rfl
  | x :: row, r => by simp only [List.cons_append, chainB, endR, chainB_snoc kn m row, Bool.and_assoc]; rfl
theorem sigs_snoc (sg : List (Str × Str)) (row : List Mv) (m : Mv) : sigs sg (row ++ [m]) = sigs sg row ++ (getS sg m.d).toList := by
  unfold sigs
  rw [List.filterMap_append]
  cases h : getS sg m.d <;> simp [List.filterMap_cons, h]
theorem fltB_snoc (fs : List Str) (row : List Mv) (m : Mv) : fltB fs (row ++ [m]) = (fltB fs row || decide (m.d ∈ fs)) := by
  simp [fltB, List.any_append]
/-- a machine, in plain words -/
structure Mc where
  st : List Int
  kn : List Mv
  sg : List (Str × Str)
  fs : List Str
namespace Mc
def run (M : Mc) (w : Way) : Prop := w.1 ∈ M.st ∧ chainB M.kn w.1 w.2 = true
def At (M : Mc) (ss : List Str) (sp : Spt) (w : Way) : Prop := M.run w ∧ sigs M.sg w.2 = ss ∧ endR w.1 w.2 = sp.1 ∧ fltB M.fs w.2 = sp.2
def Reach (M : Mc) (ss : List Str) (sp : Spt) : Prop := ∃ w, M.At ss sp w
def go (M : Mc) (sp : Spt) (m : Mv) : Spt := (m.t, sp.2 || decide (m.d ∈ M.fs))
def Closed (M : Mc) (L : Spt → Prop) : Prop := ∀ sp m, L sp → m ∈ M.kn → m.h = sp.1 → getS M.sg m.d = none → L (M.go sp m)
variable {M : Mc} {ss : List Str} {sp : Spt} {w : Way} {m : Mv} {r : Int} {s : Str}
theorem at_start (h : r ∈ M.st) : M.At [] (r, false) (r, []) := ⟨⟨h, rfl⟩, rfl, rfl, rfl⟩
theorem at_unseen (h : M.At ss sp w) (hm : m ∈ M.kn) (hh : m.h = sp.1) (hg : getS M.sg m.d = none) : M.At ss (M.go sp m) (w.1, w.2 ++ [m]) := by
  obtain ⟨⟨h1, h2⟩, h3, h4, h5⟩ := h
  refine ⟨⟨h1, ?_⟩, ?_, endR_snoc m _ _, ?_⟩
  · show chainB M.kn w.1 (w.2 ++ [m]) = true
    rw [chainB_snoc, h2, h4, decide_eq_true hh, decide_eq_true hm]; rfl
  · show sigs M.sg (w.2 ++ [m]) = ss
    rw [sigs_snoc, h3, hg]; simp
  · show fltB M.fs (w.2 ++ [m]) = _
    rw [fltB_snoc, h5]; rfl
theorem at_seen (h : M.At ss sp w) (hm : m ∈ M.kn) (hh : m.h = sp.1) (hg : getS M.sg m.d = some s) : M.At (ss ++ [s]) (M.go sp m) (w.1, w.2 ++ [m]) := by
  obtain ⟨⟨h1, h2⟩, h3, h4, h5⟩ := h
  refine ⟨⟨h1, ?_⟩, ?_, endR_snoc m _ _, ?_⟩
  · show chainB M.kn w.1 (w.2 ++ [m]) = true
    rw [chainB_snoc, h2, h4, decide_eq_true hh, decide_eq_true hm]; rfl
  · show sigs M.sg (w.2 ++ [m]) = _
    rw [sigs_snoc, h3, hg]; rfl
  · show fltB M.fs (w.2 ++ [m]) = _
    rw [fltB_snoc, h5]; rfl
/-- the last move of a run -/
theorem at_last {row : List Mv} (h : M.At ss sp (r, row ++ [m])) : m ∈ M.kn ∧ ∃ sp0, m.h = sp0.1 ∧ M.go sp0 m = sp ∧ ((getS M.sg m.d = none ∧ M.At ss sp0 (r, row)) ∨ ∃ ss0 s, ss = ss0 ++ [s] ∧ getS M.sg m.d = some s ∧ M.At ss0 sp0 (r, row)) := by
  obtain ⟨⟨h1, h2⟩, h3, h4, h5⟩ := h
  simp only [chainB_snoc, Bool.and_eq_true, decide_eq_true_eq] at h2
  simp only [sigs_snoc] at h3
  simp only [endR_snoc] at h4
  simp only [fltB_snoc] at h5
  refine ⟨h2.2, (endR r row, fltB M.fs row), h2.1.2, Prod.ext h4 h5, ?_⟩
  cases hg : getS M.sg m.d with
  | none =>
    rw [hg] at h3
    exact .inl ⟨rfl, ⟨h1, h2.1.1⟩, by simpa using h3, rfl, rfl⟩
  | some s =>
    rw [hg] at h3
    exact .inr ⟨sigs M.sg row, s, h3.symm, rfl, ⟨h1, h2.1.1⟩, rfl, rfl, rfl⟩
theorem snoc_ind {α : Type} {P : List α → Prop} (h0 : P []) (h1 : ∀ l a, P l → P (l ++ [a])) (l : List α) : P l := by
  have key : ∀ l : List α, P l.reverse := by
    intro l
    induction l with
    | nil => exact h0
    | cons a l ih => rw [List.reverse_cons]; exact h1 _ _ ih
  have := key l.reverse
  rwa [List.reverse_reverse] at this
theorem reach_nil {L : Spt → Prop} (h0 : ∀ r ∈ M.st, L (r, false)) (cl : M.Closed L) : ∀ sp, M.Reach [] sp → L sp := by
  intro sp ⟨⟨r, row⟩, h⟩
  revert sp
  refine snoc_ind (P := fun row => ∀ sp, M.At [] sp (r, row) → L sp) ?_ ?_ row
  · intro sp h
    obtain ⟨⟨h1, _⟩, _, h4, h5⟩ := h
    have : sp = (r, false) := Prod.ext h4.symm h5.symm
    rw [this]; exact h0 r h1
  · intro row m ih sp h
    obtain ⟨hm, sp0, hh, hg, k⟩ := at_last h
    rcases k with ⟨k1, k2⟩ | ⟨ss0, s, k1, _⟩
    · rw [← hg]; exact cl sp0 m (ih sp0 k2) hm hh k1
    · exact absurd k1 (by simp)
theorem reach_snoc {L L' : Spt → Prop} (h : ∀ sp, M.Reach ss sp → L sp) (hs : ∀ sp m, L sp → m ∈ M.kn → m.h = sp.1 → getS M.sg m.d = some s → L' (M.go sp m)) (cl : M.Closed L') : ∀ sp, M.Reach (ss ++ [s]) sp → L' sp := by
  intro sp ⟨⟨r, row⟩, h'⟩
  revert sp
  refine snoc_ind (P := fun row => ∀ sp, M.At (ss ++ [s]) sp (r, row) → L' sp) ?_ ?_ row
  · intro sp h
    obtain ⟨_, h3, _⟩ := h
    exact absurd h3 (by simp [sigs])
  · intro row m ih sp h'
    obtain ⟨hm, sp0, hh, hg, k⟩ := at_last h'
    rcases k with ⟨k1, k2⟩ | ⟨ss0, s0, k1, k2, k3⟩
    · rw [← hg]; exact cl sp0 m (ih sp0 k2) hm hh k1
    · have e := List.append_inj' k1 rfl
      have e2 : s = s0 := by simpa using e.2
      rw [← hg]
      exact hs sp0 m (h sp0 ⟨_, e.1 ▸ k3⟩) hm hh (e2 ▸ k2)
end Mc
/-- no more unlike things than there are -/
theorem len_nodup {α : Type} [DecidableEq α] : ∀ {l m : List α}, l.Nodup → (∀ x ∈ l, x ∈ m) → l.length ≤ m.length
  | [], m, _, _ => Nat.zero_le _
  | a :: l, m, h, k => by
    have ha : a ∈ m := k a List.mem_cons_self
    have h1 := List.nodup_cons.mp h
    have ih := len_nodup (l := l) (m := m.erase a) h1.2 fun x hx => (List.mem_erase_of_ne (fun e => h1.1 (by rw [← e]; exact hx))).mpr (k x (List.mem_cons_of_mem _ hx))
    rw [List.length_erase_of_mem ha] at ih
    have := List.length_pos_of_mem ha
    simp only [List.length_cons]
    omega
end SB
set_option Elab.async false
set_option linter.all false
set_option maxRecDepth 10000
namespace SB
open PySem L2
def cutA {α : Type} (xs : List α) (lo hi : Option Int) : List α := (xs.drop (HT.sIx xs.length 0 lo)).take (HT.sIx xs.length xs.length hi - HT.sIx xs.length 0 lo)
theorem cutA_mem {α : Type} {xs : List α} {lo hi : Option Int} {x : α} (h : x ∈ cutA xs lo hi) : x ∈ xs := List.mem_of_mem_drop (List.mem_of_mem_take h)
theorem cutA_len {α : Type} (xs : List α) (lo hi : Option Int) : (cutA xs lo hi).length ≤ xs.length := by
  unfold cutA
  rw [List.length_take, List.length_drop]
  omega
theorem cutA_map {α β : Type} (f : α → β) (xs : List α) (lo hi : Option Int) : cutA (xs.map f) lo hi = (cutA xs lo hi).map f := by
  unfold cutA
  rw [List.length_map, ← List.map_drop, ← List.map_take]
/-- the ends of a slice are known -/
structure Ends2 (lo hi : Option DE) (l u : Option Int) (ρ : Ev) (μ : Mu) : Prop where
  l1 : ∀ g, lo = some g → ∃ i, l = some i ∧ g ρ μ = .ok (.int i) μ
  l0 : lo = none → l = none
  u1 : ∀ g, hi = some g → ∃ i, u = some i ∧ g ρ μ = .ok (.int i) μ
  u0 : hi = none → u = none
theorem ends_ff {g k : DE} {i j : Int} {ρ : Ev} {μ : Mu} (h1 : g ρ μ = .ok (.int i) μ) (h2 : k ρ μ = .ok (.int j) μ) : Ends2 (some g) (some k) (some i) (some j) ρ μ := ⟨(fun g e => by cases e; exact ⟨_, rfl, h1⟩), (fun e => by cases e), (fun g e => by cases e; exact ⟨_, rfl, h2⟩), (fun e => by cases e)⟩
theorem ends_0f {k : DE} {j : Int} {ρ : Ev} {μ : Mu} (h2 : k ρ μ = .ok (.int j) μ) : Ends2 none (some k) none (some j) ρ μ := ⟨(fun g e => by cases e), (fun _ => rfl), (fun g e => by cases e; exact ⟨_, rfl, h2⟩), (fun e => by cases e)⟩
theorem ev_slice_l {f : DE} {lo hi : Option DE} {ρ : Ev} {μ : Mu} {b : Bool} {x : D} {xs : List D} {l u : Option Int} (hf : f ρ μ = .ok x μ) (hx : seqL (vw μ x) = some xs) (E : Ends2 lo hi l u ρ μ) : dSlice b f lo hi ρ μ = mkL b (cutA xs l u) μ := by
  have fin : (match vw μ x with
      | .str z => if z.length ≤ sizeLine then .ok (.str (cutS z l u)) μ else .bad
      | .tup xs => if (dSlice.cutD xs l u).length < xs.length then .ok (.tup (dSlice.cutD xs l u)) μ else .bad
      | d => match seqL d with
        | some xs => mkL b (dSlice.cutD xs l u) μ
        | none => .bad : Res D) = mkL b (cutA xs l u) μ := by
    cases q : vw μ x <;> rw [q] at hx <;> first | (cases hx; rfl) | (simp only [seqL] at hx; cases hx)
  unfold dSlice
  rw [hf]
  simp only [Res.bind_ok]
  cases lo with
  | none =>
    cases E.l0 rfl
    simp only [Res.bind_ok]
    cases hi with
    | none => cases E.u0 rfl; simp only [Res.bind_ok]; exact fin
    | some g =>
      obtain ⟨i, rfl, e⟩ := E.u1 g rfl
      simp only [e, Res.bind_ok, vw_i]; exact fin
  | some g =>
    obtain ⟨i, rfl, e⟩ := E.l1 g rfl
    simp only [e, Res.bind_ok, vw_i]
    cases hi with
    | none => cases E.u0 rfl; simp only [Res.bind_ok]; exact fin
    | some g =>
      obtain ⟨i, rfl, e⟩ := E.u1 g rfl
      simp only [e, Res.bind_ok, vw_i]; exact fin
theorem ev_slice_m {α : Type} {e : α → D} {f : DE} {lo hi : Option DE} {ρ : Ev} {μ : Mu} {xs : List α} {l u : Option Int} (hf : f ρ μ = .ok (.lst (xs.map e)) μ) (E : Ends2 lo hi l u ρ μ) (hz : xs.length ≤ 1000) : dSlice false f lo hi ρ μ = .ok (.lst ((cutA xs l u).map e)) μ := by
  rw [ev_slice_l hf rfl E, cutA_map]
  exact mkL_f (sz (by have := cutA_len xs l u; rw [List.length_map]; omega))
theorem ev_slice_c {f : DE} {lo hi : Option DE} {ρ : Ev} {μ : Mu} {ns : List Int} {l u : Option Int} (hf : f ρ μ = .ok (.scr ns) μ) (E : Ends2 lo hi l u ρ μ) (hz : ns.length ≤ 1000) : dSlice false f lo hi ρ μ = .ok (.lst ((cutA ns l u).map .int)) μ := by
  rw [ev_slice_l hf rfl E, cutA_map]
  exact mkL_f (sz (by have := cutA_len ns l u; rw [List.length_map]; omega))
theorem cl_mvs (ws : List Mv) : closeds (ws.map mvD) = true := closeds_map (fun _ => rfl) ws
def MvIn (size : Nat) (deeds : List Str) (m : Mv) : Prop := 0 ≤ m.h ∧ m.h < size ∧ m.d ∈ deeds ∧ 0 ≤ m.t ∧ m.t < size
theorem f_law_moves (cells : List Int) (size : Nat) (deeds : List Str) (hb : ∀ c ∈ cells, Builtin.Int.intBits c ≤ 134000000) (h1 : 1 ≤ size) (hd : 1 ≤ deeds.length) (hd2 : deeds.length ≤ 100) (hc : cells.length ≤ 1000) :
    ∃ ms : List Mv, ms.length = cells.length ∧ (∀ m ∈ ms, MvIn size deeds m) ∧ ∀ μ, Φ_law_moves [.lst (cells.map .int), .int size, .lst (deeds.map .str)] μ = .ok (.lst (ms.map mvD)) μ := by
  suffices h : ∃ ms : List Mv, ms.length = cells.length ∧ (∀ m ∈ ms, MvIn size deeds m) ∧ ∃ μ', m_law_moves [some (.lst (cells.map .int)), some (.int size), some (.lst (deeds.map .str)), none, none, none] [] = .rt (.lst (ms.map mvD)) μ' by
    obtain ⟨sg, h1, h2, μ', h3⟩ := h
    exact ⟨sg, h1, h2, fun μ => callP_rt (by simp only [closeds, closed, cl_strs, cl_ints, Bool.and_self]) h3 (by simp only [closed, cl_mvs]) μ⟩
  unfold m_law_moves
  rw [seq_nx (ρ' := [some (.lst (cells.map .int)), some (.int size), some (.lst (deeds.map .str)), some (.ref 0), none, none]) (μ' := [.lst []]) (by
    rw [ev_set, ev_lst, ev_nil]
    simp only [Res.bind_ok]
    rw [mkL_t (sz (by decide))]; rfl)]
  have loop := sForL_nx (t := .one 4) (g := (sSeq (sSet 5 (dBin (dBin (dVar 4) (dCst (.int 1000000007)) (opMulA false)) (dCst (.int 2147483647)) opMod))
    (sExpr (dMet (dVar 3) isLst (dCons (dTup (dCons (dBin (dVar 5) (dVar 1) opMod) (dCons (dBin (dVar 2) (dBin (dBin (dVar 5) (dCst (.int 8)) opFdiv) (dCall (dCons (dVar 2) dNil) biLen) opMod) opIx) (dCons (dBin (dBin (dVar 5) (dCst (.int 64)) opFdiv) (dVar 1) opMod) dNil)))) dNil) meApp))))
    (fun k ρ μ => k ≤ cells.length → ∃ ms x y, μ = [.lst (ms.map mvD)] ∧ ρ = [some (.lst (cells.map .int)), some (.int size), some (.lst (deeds.map .str)), some (.ref 0), x, y] ∧ ms.length = k ∧ ∀ m ∈ ms, MvIn size deeds m) (cells.map .int) 0
    [some (.lst (cells.map .int)), some (.int size), some (.lst (deeds.map .str)), some (.ref 0), none, none] [.lst []] (fun _ => ⟨[], none, none, rfl, rfl, rfl, fun m hm => by cases hm⟩) (fun i d ρ μ hdd hi => by
      rw [List.getElem?_map] at hdd
      obtain ⟨c, hcc, rfl⟩ := Option.map_eq_some_iff.mp hdd
      have hlt : i < cells.length := (List.getElem?_eq_some_iff.mp hcc).1
      obtain ⟨ms, x, y, rfl, rfl, hlen, hms⟩ := hi (by omega)
      have hm : ∀ μ, opMulA false (.int c) (.int 1000000007) μ = .ok (.int (c * 1000000007)) μ := fun μ => op_mul_s (hb c (List.mem_of_getElem? hcc)) (by decide)
      generalize c * 1000000007 = N0 at hm
      have hN0 : 0 ≤ N0 % 2147483647 := Int.emod_nonneg _ (by decide)
      generalize hN : N0 % 2147483647 = N at hN0
      have hs0 : (0 : Int) < size := by omega
      have hd0 : (0 : Int) < deeds.length := by omega
      have b1 := Int.emod_nonneg N (show (size : Int) ≠ 0 by omega)
      have b2 := Int.emod_lt_of_pos N hs0
      have b3 := Int.emod_nonneg (N / 64) (show (size : Int) ≠ 0 by omega)
      have b4 := Int.emod_lt_of_pos (N / 64) hs0
      have b5 := Int.emod_nonneg (N / 8) (show (deeds.length : Int) ≠ 0 by omega)
      have b6 := Int.emod_lt_of_pos (N / 8) hd0
      obtain ⟨k, hk⟩ : ∃ k : Nat, N / 8 % (deeds.length : Int) = (k : Int) := ⟨_, (Int.toNat_of_nonneg b5).symm⟩
      have hkl : k < deeds.length := by omega
      have ik : ∀ μ, opIx (.lst (deeds.map .str)) (.int k) μ = .ok (.str deeds[k]) μ := fun μ => ix_str (List.getElem?_eq_getElem hkl) μ
      have d8 : ∀ μ, opFdiv (.int N) (.int 8) μ = .ok (.int (N / 8)) μ := fun μ => op_div_s (by decide) (by decide)
      have d64 : ∀ μ, opFdiv (.int N) (.int 64) μ = .ok (.int (N / 64)) μ := fun μ => op_div_s (by decide) (by decide)
      refine ⟨_, rfl, [some (.lst (cells.map .int)), some (.int size), some (.lst (deeds.map .str)), some (.ref 0), some (.int c), some (.int N)], [.lst ((ms ++ [(⟨N % size, deeds[k], N / 64 % size⟩ : Mv)]).map mvD)], .inl ?_, fun _ => ⟨ms ++ [(⟨N % size, deeds[k], N / 64 % size⟩ : Mv)], _, _, rfl, rfl, by simp [hlen], fun m hm => ?_⟩⟩
      · have ap : meApp (.ref 0) [.tup [.int (N % size), .str deeds[k], .int (N / 64 % size)]] [.lst (ms.map mvD)] = .ok .non [.lst ((ms ++ [(⟨N % size, deeds[k], N / 64 % size⟩ : Mv)]).map mvD)] := by
          unfold meApp
          simp only [List.getElem?_cons_zero]
          rw [if_pos (by rw [List.length_map, sizeLine_eq]; omega), List.map_append]; rfl
        have il : isLst (.ref 0) [.lst (ms.map mvD)] = true := rfl
        simp only [ev_seq, ev_set, ev_expr, dMet, ev_bin, ev_var, ev_cst, List.set_cons_succ, List.set_cons_zero, List.getElem?_cons_succ, List.getElem?_cons_zero, Res.bind_ok, out_ok, hm, op_mod_i (show (0 : Int) < 2147483647 by decide), hN, il, if_true, ev_cons, ev_nil, ev_tup, op_mod_i hs0, d8, d64, ev_call, bi_len_l, List.length_map, op_mod_i hd0, hk, ik]
        rw [if_pos (sz (by show 3 ≤ _; decide))]
        simp only [Res.bind_ok, ap, out_ok]
      · rcases List.mem_append.mp hm with h | h
        · exact hms m h
        · rw [List.mem_singleton.mp h]
          exact ⟨b1, b2, List.getElem_mem hkl, b3, b4⟩)
  obtain ⟨ρ1, μ1, e1, h2⟩ := loop
  rw [List.length_map] at h2
  obtain ⟨ms, x, y, rfl, rfl, hlen, hms⟩ := h2 (by omega)
  refine ⟨ms, by omega, hms, [.fz (.lst (ms.map mvD))], ?_⟩
  rw [seq_nx (by simp only [ev_for, ev_iseq, ev_var, List.getElem?_cons_zero, Res.bind_ok, it_l, Res.of_some, out_ok]; exact e1)]
  simp only [ev_ret, dFrzT, ev_var, List.getElem?_cons_succ, List.getElem?_cons_zero, Res.bind_ok, frzT, frz1, out_ok, List.set_cons_zero]
theorem f_law_rooms (c : Int) (size : Nat) (hb : Builtin.Int.intBits c ≤ 134000000) (h1 : 1 ≤ size) (h2 : size ≤ 100) :
    ∃ rs : List Int, (∀ r ∈ rs, 0 ≤ r ∧ r < size) ∧ rs.length ≤ size ∧ ∀ μ, Φ_law_rooms [.int c, .int size] μ = .ok (.lst (rs.map .int)) μ := by
  suffices h : ∃ rs : List Int, (∀ r ∈ rs, 0 ≤ r ∧ r < size) ∧ rs.length ≤ size ∧ ∃ μ', m_law_rooms [some (.int c), some (.int size), none, none, none] [] = .rt (.lst (rs.map .int)) μ' by
    obtain ⟨sg, h1, h2, μ', h3⟩ := h
    exact ⟨sg, h1, h2, fun μ => callP_rt (by rfl) h3 (by simp only [closed, cl_ints]) μ⟩
  unfold m_law_rooms
  have hm : opMulA false (.int c) (.int 1000000007) [] = .ok (.int (c * 1000000007)) [] := op_mul_s hb (by decide)
  generalize c * 1000000007 = N0 at hm
  have hN0 : 0 ≤ N0 % 2147483647 := Int.emod_nonneg _ (by decide)
  rw [seq_nx (ρ' := [some (.int c), some (.int size), some (.int (N0 % 2147483647)), none, none]) (μ' := []) (by simp [hm, op_mod_i])]
  generalize N0 % 2147483647 = N at hN0
  have hs0 : (0 : Int) < size := by omega
  -- the rooms by their bits
  let q : D → Bool := fun d => match d with | .int k => decide (Builtin.bitAnd (N / 2 ^ k.toNat) 1 = 1) | _ => false
  have cm := compL_eq (own := [4]) (tt := .one 4) (c := dBool (dBin (dBin (dBin (dVar 2) (dVar 4) opShr) (dCst (.int 1)) opBand) (dCst (.int 1)) opEq)) (f := dVar 4) (ρ := [some (.int c), some (.int size), some (.int N), none, none]) (μ := []) q id (rngD 0 size) (fun d hd => by
    obtain ⟨k, hk, rfl⟩ := mem_rng hd
    have sh : opShr (.int N) (.int k) [] = .ok (.int (N / 2 ^ ((k : Int)).toNat)) [] := by
      unfold opShr
      simp only [vw_i]
      exact if_pos (by omega)
    refine ⟨_, rfl, ?_, fun _ => by simp [wipeD]⟩
    simp only [wipeD, ev_bool, ev_bin, ev_var, ev_cst, List.set_cons_succ, List.set_cons_zero, List.getElem?_cons_succ, List.getElem?_cons_zero, Res.bind_ok, sh]
    simp only [opBand, vw_i, Res.bind_ok, op_eq_i, ev_asB]; rfl)
  rw [List.map_id] at cm
  obtain ⟨rs, hrs, hin⟩ : ∃ rs : List Int, (rngD 0 size).filter q = rs.map .int ∧ ∀ r ∈ rs, r ∈ (List.range size).map fun i : Nat => (i : Int) := by
    refine pre_map D.int _ _ fun d hd => ?_
    obtain ⟨k, hk, rfl⟩ := mem_rng ((List.mem_filter.mp hd).1)
    exact List.mem_map.mpr ⟨(k : Int), List.mem_map.mpr ⟨k, List.mem_range.mpr hk, rfl⟩, rfl⟩
  have hr : ∀ r ∈ rs, 0 ≤ r ∧ r < size := fun r h => by
    obtain ⟨k, hk, rfl⟩ := List.mem_map.mp (hin r h)
    have := List.mem_range.mp hk
    omega
  have hl : rs.length ≤ size := by
    have e := congrArg List.length hrs
    rw [List.length_map] at e
    have := List.length_filter_le q (rngD 0 size)
    have e2 : (rngD 0 size).length = size := by simp [rngD]
    omega
  rw [hrs] at cm
  rw [seq_nx (ρ' := [some (.int c), some (.int size), some (.int N), some (.lst (rs.map .int)), none]) (μ' := []) (by
    rw [ev_set, ev_comp, ev_rng1 (i := size) (by simp) (by omega) (by omega)]
    simp only [Res.bind_ok, Int.toNat_natCast, cm]
    rw [mkL_f (sz (by rw [List.length_map]; omega))]; rfl)]
  have eqn : opEq (.lst (rs.map .int)) (.lst []) [] = .ok (.bl (decide (rs = []))) [] := (em_lst em_int).opEq (a := rs) (b := []) (by decide) (fun _ _ => trivial) (fun _ _ => trivial) []
  have mk0 : mkL false [] [] = .ok (.lst []) [] := mkL_f (sz (by decide))
  have d256 : opFdiv (.int N) (.int 256) [] = .ok (.int (N / 256)) [] := op_div_s (by decide) (by decide)
  have d1024 : opFdiv (.int N) (.int 1024) [] = .ok (.int (N / 1024)) [] := op_div_s (by decide) (by decide)
  by_cases ht : rs = [] ∧ 0 < N / 256 % 4
  · refine ⟨[N / 1024 % size], fun r hr => ?_, h1, [], ?_⟩
    · rw [List.mem_singleton.mp hr]
      exact ⟨Int.emod_nonneg _ (by omega), Int.emod_lt_of_pos _ hs0⟩
    · refine seq_rt ?_
      obtain ⟨rfl, t2⟩ := ht
      simp only [ev_if, ev_and, ev_bool, ev_bin, ev_var, ev_cst, ev_lst, ev_nil, List.getElem?_cons_succ, List.getElem?_cons_zero, Res.bind_ok, mk0, eqn, eq_self, decide_true, ev_asB, if_true, d256, op_mod_i (show (0 : Int) < 4 by decide), op_gt_i, t2, out_ok, ev_ret, ev_cons, d1024, op_mod_i hs0]
      rw [mkL_f (sz (by show 1 ≤ _; decide))]; rfl
  · refine ⟨rs, hr, hl, [], ?_⟩
    rw [seq_nx (ρ' := [some (.int c), some (.int size), some (.int N), some (.lst (rs.map .int)), none]) (μ' := []) (by
      by_cases t1 : rs = []
      · have t2 : ¬ 0 < N / 256 % 4 := fun z => ht ⟨t1, z⟩
        subst t1
        simp only [ev_if, ev_and, ev_bool, ev_bin, ev_var, ev_cst, ev_lst, ev_nil, List.getElem?_cons_succ, List.getElem?_cons_zero, Res.bind_ok, mk0, eqn, eq_self, decide_true, ev_asB, if_true, d256, op_mod_i (show (0 : Int) < 4 by decide), op_gt_i, t2, decide_false, Bool.false_eq_true, if_false, out_ok, ev_skip]
      · simp only [ev_if, ev_and, ev_bool, ev_bin, ev_var, ev_cst, ev_lst, ev_nil, List.getElem?_cons_succ, List.getElem?_cons_zero, Res.bind_ok, mk0, eqn, t1, decide_false, ev_asB, Bool.false_eq_true, if_false, out_ok, ev_skip])]
    simp
end SB
set_option Elab.async false
set_option linter.all false
set_option maxRecDepth 10000
namespace SB
open PySem L2
theorem bits_lt {z : Int} {n : Nat} (h : Builtin.Int.intBits z ≤ n) : z.natAbs < 2 ^ n := by
  unfold Builtin.Int.intBits at h
  split at h
  · rename_i e
    have e : z = 0 := by simpa using e
    subst e
    exact Nat.pow_pos (by decide)
  · exact Nat.lt_of_lt_of_le Nat.lt_log2_self (Nat.pow_le_pow_right (by decide) h)
theorem bits_mono {a b : Int} {n : Nat} (h : Builtin.Int.intBits b ≤ n) (k : a.natAbs ≤ b.natAbs) : Builtin.Int.intBits a ≤ n := PyProof.Rows.intBits_le (Nat.lt_of_le_of_lt k (bits_lt h))
theorem bits_plus {a b : Int} {n : Nat} (h : Builtin.Int.intBits b ≤ n) (k : a.natAbs ≤ b.natAbs + 7) : Builtin.Int.intBits a ≤ n + 3 := by
  refine PyProof.Rows.intBits_le ?_
  have h1 := bits_lt h
  have h2 : 0 < 2 ^ n := Nat.pow_pos (by decide)
  rw [Nat.pow_add]
  generalize 2 ^ n = P at h1 h2
  omega
structure PartsOk (most size : Nat) (rs : List Int) (ms : List Mv) (sg : List (Str × Str)) (fs deeds : List Str) : Prop where
  s1 : 1 ≤ size
  s8 : size ≤ 8
  r : ∀ r ∈ rs, 0 ≤ r ∧ r < size
  rl : rs.length ≤ 8
  m : ∀ m ∈ ms, MvIn size deeds m
  ml : ms.length ≤ most
  d : ∀ w ∈ deeds, wordOk w
  g : ∀ p ∈ sg, wordOk p.1 ∧ wordOk p.2
  gl : sg.length ≤ 20
  f : ∀ w ∈ fs, wordOk w
  fl : fs.length ≤ 100
abbrev partsD (size : Nat) (rs : List Int) (ms : List Mv) (sg : List (Str × Str)) (fs : List Str) : D := .lst [.int size, .lst (rs.map .int), .lst (ms.map mvD), .dic (sg.map sgD), .lst (fs.map .str)]
theorem cellOf_bits {ns : List Int} {n : Nat} (hb : ∀ z ∈ ns, Builtin.Int.intBits z ≤ n) (k : Nat) : Builtin.Int.intBits (cellOf ns k) ≤ n := by
  unfold cellOf
  rw [List.getD_eq_getElem?_getD]
  by_cases h : k < ns.length
  · rw [List.getElem?_eq_getElem h]; exact hb _ (List.getElem_mem h)
  · rw [List.getElem?_eq_none (by omega)]; exact Nat.zero_le _
theorem f_law_deeds (c : Int) (ws : List Str) (h : ∀ μ, Φ_law_words [.int c] μ = .ok (.lst (ws.map .str)) μ) (μ : Mu) : Φ_law_deeds [.int c] μ = .ok (.lst (ws.map .str)) μ := by
  refine callP_rt (by rfl) (μ' := []) ?_ (by simp only [closed, cl_strs]) μ
  rw [show startD 1 [D.int c] = [some (.int c)] from rfl]
  simp [m_law_deeds, h]
theorem f_law_parts (ns : List Int) (hl : ns.length ≤ 63) (hb : ∀ z ∈ ns, Builtin.Int.intBits z ≤ 1048576) (most : Nat) (hm : most ≤ 100) :
    ∃ size rs ms sg fs deeds, PartsOk most size rs ms sg fs deeds ∧ ∀ μ, Φ_law_parts [.scr ns, .int 0, .int most] μ = .ok (partsD size rs ms sg fs) μ := by
  suffices h : ∃ size rs ms sg fs deeds, PartsOk most size rs ms sg fs deeds ∧ ∃ μ', m_law_parts [some (.scr ns), some (.int 0), some (.int most), none, none, none, none, none, none, none, none, none] [] = .rt (partsD size rs ms sg fs) μ' by
    obtain ⟨size, rs, ms, sg, fs, deeds, h1, μ', h3⟩ := h
    exact ⟨size, rs, ms, sg, fs, deeds, h1, fun μ => callP_rt (by rfl) h3 (by simp only [closed, closeds, cl_strs, cl_ints, cl_mvs, closede_sg, Bool.and_self]) μ⟩
  have cb := cellOf_bits hb
  unfold m_law_parts
  have c0 : ∀ μ, Φ_law_cell [.scr ns, .int 0] μ = .ok (.int (cellOf ns 0)) μ := fun μ => f_law_cell ns 0 μ
  have c1 : ∀ μ, Φ_law_cell [.scr ns, .int 1] μ = .ok (.int (cellOf ns 1)) μ := fun μ => f_law_cell ns 1 μ
  have c2 : ∀ μ, Φ_law_cell [.scr ns, .int 2] μ = .ok (.int (cellOf ns 2)) μ := fun μ => f_law_cell ns 2 μ
  have c3 : ∀ μ, Φ_law_cell [.scr ns, .int 3] μ = .ok (.int (cellOf ns 3)) μ := fun μ => f_law_cell ns 3 μ
  have b0 := cb 0
  have b1 := cb 1
  have b2 := cb 2
  have b3 := cb 3
  generalize cellOf ns 0 = x0 at c0 b0
  generalize cellOf ns 1 = x1 at c1 b1
  generalize cellOf ns 2 = x2 at c2 b2
  generalize cellOf ns 3 = x3 at c3 b3
  rw [seq_nx (ρ' := [some (.scr ns), some (.int 0), some (.int most), some (.int x0), none, none, none, none, none, none, none, none]) (μ' := []) (by simp [c0])]
  -- the size
  obtain ⟨k0, hk0⟩ : ∃ k : Nat, x0 % 8 = (k : Int) := ⟨(x0 % 8).toNat, by omega⟩
  obtain ⟨size, hsz, hs1, hs8⟩ : ∃ size : Nat, ([D.int 2, .int 3, .int 4, .int 3, .int 5, .int 1, .int 4, .int 8] : List D)[k0]? = some (.int size) ∧ 1 ≤ size ∧ size ≤ 8 := by
    have : k0 = 0 ∨ k0 = 1 ∨ k0 = 2 ∨ k0 = 3 ∨ k0 = 4 ∨ k0 = 5 ∨ k0 = 6 ∨ k0 = 7 := by omega
    rcases this with rfl | rfl | rfl | rfl | rfl | rfl | rfl | rfl
    · exact ⟨2, rfl, by decide, by decide⟩
    · exact ⟨3, rfl, by decide, by decide⟩
    · exact ⟨4, rfl, by decide, by decide⟩
    · exact ⟨3, rfl, by decide, by decide⟩
    · exact ⟨5, rfl, by decide, by decide⟩
    · exact ⟨1, rfl, by decide, by decide⟩
    · exact ⟨4, rfl, by decide, by decide⟩
    · exact ⟨8, rfl, by decide, by decide⟩
  have mk8 : ∀ μ, mkL false [D.int 2, .int 3, .int 4, .int 3, .int 5, .int 1, .int 4, .int 8] μ = .ok (.lst [D.int 2, .int 3, .int 4, .int 3, .int 5, .int 1, .int 4, .int 8]) μ := fun μ => mkL_f (sz (by show 8 ≤ _; decide))
  have ix8 : ∀ μ, opIx (.lst [D.int 2, .int 3, .int 4, .int 3, .int 5, .int 1, .int 4, .int 8]) (.int k0) μ = .ok (.int size) μ := fun μ => op_ix_l (by rw [atI_nat]; exact hsz)
  rw [seq_nx (ρ' := [some (.scr ns), some (.int 0), some (.int most), some (.int x0), some (.int size), none, none, none, none, none, none, none]) (μ' := []) (by
    simp only [ev_set, ev_bin, ev_lst, ev_cons, ev_nil, ev_cst, ev_var, List.set_cons_succ, List.set_cons_zero, List.getElem?_cons_succ, List.getElem?_cons_zero, Res.bind_ok, out_ok, mk8, op_mod_i (show (0 : Int) < 8 by decide), hk0, ix8])]
  -- the deeds
  obtain ⟨ws, hw5, hwo, hw⟩ := f_law_words (x0 / 8) (by have := bits_mono (a := x0 / 8) b0 (by omega); omega)
  obtain ⟨sp, hp5, hpo, hp⟩ := f_law_words (x0 / 16 + 5) (by have := bits_plus (a := x0 / 16 + 5) b0 (by omega); omega)
  obtain ⟨kd, hkd⟩ : ∃ k : Nat, 2 + x0 / 8 % 4 = (k : Int) := ⟨(2 + x0 / 8 % 4).toNat, by omega⟩
  have d8 : ∀ μ, opFdiv (.int x0) (.int 8) μ = .ok (.int (x0 / 8)) μ := fun μ => op_div_s (by decide) (by decide)
  have d16 : ∀ μ, opFdiv (.int x0) (.int 16) μ = .ok (.int (x0 / 16)) μ := fun μ => op_div_s (by decide) (by decide)
  generalize hds : cutA ws none (some (kd : Int)) = deeds
  have hdo : ∀ w ∈ deeds, wordOk w := fun w h => hwo w (cutA_mem (hds ▸ h))
  have hdl : 1 ≤ deeds.length ∧ deeds.length ≤ 5 := by
    rw [← hds]
    have e : (cutA ws none (some (kd : Int))).length = min kd 5 := by
      unfold cutA
      simp only [HT.sIx_none, HT.sIx_nat, List.length_take, List.length_drop, hw5]
      omega
    rw [e]; omega
  rw [seq_nx (ρ' := [some (.scr ns), some (.int 0), some (.int most), some (.int x0), some (.int size), some (.lst (deeds.map .str)), none, none, none, none, none, none]) (μ' := []) (by
    have e := ev_slice_m (e := D.str) (xs := ws) (f := dCall (dCons (dBin (dVar 3) (dCst (.int 8)) opFdiv) dNil) Φ_law_deeds) (lo := none) (hi := some (dBin (dCst (.int 2)) (dBin (dBin (dVar 3) (dCst (.int 8)) opFdiv) (dCst (.int 4)) opMod) (opAdd false))) (l := none) (u := some (kd : Int))
      (ρ := [some (.scr ns), some (.int 0), some (.int most), some (.int x0), some (.int size), none, none, none, none, none, none, none]) (μ := []) (by simp [d8, f_law_deeds _ ws hw]) (ends_0f (by simp [d8, op_mod_i, hkd])) (by omega)
    rw [hds] at e
    rw [ev_set, e]; rfl)]
  -- the signs
  obtain ⟨sg, hgo, hgl, hg⟩ := f_law_signs deeds sp x1 (by omega) hdo hp5 hpo (by omega)
  rw [seq_nx (ρ' := [some (.scr ns), some (.int 0), some (.int most), some (.int x0), some (.int size), some (.lst (deeds.map .str)), some (.dic (sg.map sgD)), none, none, none, none, none]) (μ' := []) (by simp [c1, d16, hp, hg])]
  -- the faults
  have hm2 : ∀ μ, opMulA false (.int x2) (.int 1000000007) μ = .ok (.int (x2 * 1000000007)) μ := fun μ => op_mul_s (by omega) (by decide)
  generalize x2 * 1000000007 = N0 at hm2
  rw [seq_nx (ρ' := [some (.scr ns), some (.int 0), some (.int most), some (.int x0), some (.int size), some (.lst (deeds.map .str)), some (.dic (sg.map sgD)), some (.int (N0 % 2147483647)), none, none, none, none]) (μ' := []) (by simp [c2, hm2, op_mod_i])]
  generalize N0 % 2147483647 = N
  let pw : Nat → Int := fun k => ([1, 3, 9, 27, 81] : List Int).getD k 1
  let q : D → Bool := fun d => match d with | .int k => decide (N / pw k.toNat % 3 = 1) | _ => false
  let v : D → D := fun d => match d with | .int k => .str (deeds.getD k.toNat "") | d => d
  have mk5 : ∀ μ, mkL false [D.int 1, .int 3, .int 9, .int 27, .int 81] μ = .ok (.lst [D.int 1, .int 3, .int 9, .int 27, .int 81]) μ := fun μ => mkL_f (sz (by show 5 ≤ _; decide))
  have cm := compL_eq (own := [9]) (tt := .one 9) (c := dBool (dBin (dBin (dBin (dVar 7) (dBin (dLst false (dCons (dCst (.int 1)) (dCons (dCst (.int 3)) (dCons (dCst (.int 9)) (dCons (dCst (.int 27)) (dCons (dCst (.int 81)) dNil)))))) (dVar 9) opIx) opFdiv) (dCst (.int 3)) opMod) (dCst (.int 1)) opEq)) (f := dBin (dVar 5) (dVar 9) opIx)
    (ρ := [some (.scr ns), some (.int 0), some (.int most), some (.int x0), some (.int size), some (.lst (deeds.map .str)), some (.dic (sg.map sgD)), some (.int N), none, none, none, none]) (μ := []) q v (rngD 0 deeds.length) (fun d hd => by
    obtain ⟨k, hk, rfl⟩ := mem_rng hd
    have hk5 : k = 0 ∨ k = 1 ∨ k = 2 ∨ k = 3 ∨ k = 4 := by omega
    have hpw : ([D.int 1, .int 3, .int 9, .int 27, .int 81] : List D)[k]? = some (.int (pw k)) ∧ 0 < pw k ∧ (pw k).natAbs < 2 ^ 64 := by
      rcases hk5 with rfl | rfl | rfl | rfl | rfl <;> exact ⟨rfl, by decide, by decide⟩
    have ixp : ∀ μ, opIx (.lst [D.int 1, .int 3, .int 9, .int 27, .int 81]) (.int k) μ = .ok (.int (pw k)) μ := fun μ => op_ix_l (by rw [atI_nat]; exact hpw.1)
    have dv : ∀ μ, opFdiv (.int N) (.int (pw k)) μ = .ok (.int (N / pw k)) μ := fun μ => op_div_s hpw.2.1 hpw.2.2
    refine ⟨_, rfl, ?_, fun _ => ?_⟩
    · simp only [wipeD, ev_bool, ev_bin, ev_var, ev_cst, ev_lst, ev_cons, ev_nil, List.set_cons_succ, List.set_cons_zero, List.getElem?_cons_succ, List.getElem?_cons_zero, Res.bind_ok, mk5, ixp, dv, op_mod_i (show (0 : Int) < 3 by decide), op_eq_i, ev_asB]; rfl
    · simp only [wipeD, ev_bin, ev_var, List.set_cons_succ, List.set_cons_zero, List.getElem?_cons_succ, List.getElem?_cons_zero, Res.bind_ok]
      have e : deeds[k]? = some (deeds.getD k "") := by rw [List.getD_eq_getElem?_getD, List.getElem?_eq_getElem hk]; rfl
      exact ix_str e [])
  obtain ⟨fs, hfs, hfo⟩ : ∃ fs : List Str, ((rngD 0 deeds.length).filter q).map v = fs.map .str ∧ ∀ f ∈ fs, f ∈ deeds := by
    refine pre_map D.str _ _ fun d hd => ?_
    obtain ⟨d', hd', rfl⟩ := List.mem_map.mp hd
    obtain ⟨k, hk, rfl⟩ := mem_rng (List.mem_filter.mp hd').1
    have e : deeds.getD k "" = deeds[k] := by rw [List.getD_eq_getElem?_getD, List.getElem?_eq_getElem hk]; rfl
    exact List.mem_map.mpr ⟨deeds[k], List.getElem_mem hk, by show D.str deeds[k] = .str (deeds.getD k ""); rw [e]⟩
  have hfl : fs.length ≤ 100 := by
    have e := congrArg List.length hfs
    rw [List.length_map, List.length_map] at e
    have := List.length_filter_le q (rngD 0 deeds.length)
    have e2 : (rngD 0 deeds.length).length = deeds.length := by simp [rngD]
    omega
  rw [hfs] at cm
  rw [seq_nx (ρ' := [some (.scr ns), some (.int 0), some (.int most), some (.int x0), some (.int size), some (.lst (deeds.map .str)), some (.dic (sg.map sgD)), some (.int N), some (.lst (fs.map .str)), none, none, none]) (μ' := []) (by
    rw [ev_set, ev_comp, ev_rng1 (i := deeds.length) (by simp) (by omega) (by omega)]
    simp only [Res.bind_ok, Int.toNat_natCast, cm]
    rw [mkL_f (sz (by rw [List.length_map]; omega))]; rfl)]
  -- the starts, the moves
  obtain ⟨rs, hro, hrl, hr⟩ := f_law_rooms x3 size (by omega) hs1 (by omega)
  rw [seq_nx (ρ' := [some (.scr ns), some (.int 0), some (.int most), some (.int x0), some (.int size), some (.lst (deeds.map .str)), some (.dic (sg.map sgD)), some (.int N), some (.lst (fs.map .str)), none, some (.lst (rs.map .int)), none]) (μ' := []) (by simp [c3, hr])]
  obtain ⟨ms, hml, hmo, hmv⟩ := f_law_moves (cutA ns (some 4) (some (4 + (most : Int)))) size deeds (fun c h => by have := hb c (cutA_mem h); omega) hs1 hdl.1 (by omega) (by have := cutA_len ns (some 4) (some (4 + (most : Int))); omega)
  rw [seq_nx (ρ' := [some (.scr ns), some (.int 0), some (.int most), some (.int x0), some (.int size), some (.lst (deeds.map .str)), some (.dic (sg.map sgD)), some (.int N), some (.lst (fs.map .str)), none, some (.lst (rs.map .int)), some (.lst (ms.map mvD))]) (μ' := []) (by
    have e := ev_slice_c (f := dVar 0) (lo := some (dBin (dVar 1) (dCst (.int 4)) (opAdd false))) (hi := some (dBin (dBin (dVar 1) (dCst (.int 4)) (opAdd false)) (dVar 2) (opAdd false))) (l := some 4) (u := some (4 + (most : Int))) (ns := ns)
      (ρ := [some (.scr ns), some (.int 0), some (.int most), some (.int x0), some (.int size), some (.lst (deeds.map .str)), some (.dic (sg.map sgD)), some (.int N), some (.lst (fs.map .str)), none, some (.lst (rs.map .int)), none]) (μ := []) (by simp) (ends_ff (by simp) (by simp)) (by omega)
    simp only [ev_set, ev_call, ev_cons, ev_nil, e, Res.bind_ok, ev_var, List.getElem?_cons_succ, List.getElem?_cons_zero, hmv, out_ok, List.set_cons_succ, List.set_cons_zero])]
  refine ⟨size, rs, ms, sg, fs, deeds, ⟨hs1, hs8, hro, Nat.le_trans hrl hs8, hmo, ?_, hdo, hgo, by omega, fun w h => hdo w (hfo w h), hfl⟩, [], ?_⟩
  · rw [hml]
    unfold cutA
    have e1 : HT.sIx ns.length ns.length (some (4 + (most : Int))) = min (4 + most) ns.length := by
      have := HT.sIx_nat ns.length ns.length (4 + most)
      rwa [Int.natCast_add] at this
    have e2 : HT.sIx ns.length 0 (some 4) = min 4 ns.length := HT.sIx_nat ns.length 0 4
    rw [e1, e2, List.length_take, List.length_drop]
    omega
  · have mk : ∀ μ, mkL false [D.int size, .lst (rs.map .int), .lst (ms.map mvD), .dic (sg.map sgD), .lst (fs.map .str)] μ = .ok (partsD size rs ms sg fs) μ := fun μ => mkL_f (sz (by show 5 ≤ _; decide))
    simp only [ev_ret, ev_lst, ev_cons, ev_nil, ev_var, List.getElem?_cons_succ, List.getElem?_cons_zero, Res.bind_ok, mk, out_ok]
end SB
set_option Elab.async false
set_option linter.all false
set_option maxRecDepth 100000
namespace SB
open PySem L2
noncomputable def m_is_word : DS :=
  (sRet (dAndV (dChain (dCst (.int 1)) (dCall (dCons (dVar 0) dNil) biLen) (dCst (.int 8)) opLe opLe) (dCall (dCons (dComp false [1] (.one 1) (iText (dVar 0)) dYes (dBin (dVar 1) (dCst (.str ("abcdefghijklmnopqrstuvwxyz" : Str))) opIn)) dNil) biAll)))
noncomputable def Φ_is_word : Fn := callP 2 m_is_word
noncomputable def m_must_word : DS :=
  (sIf (dNot (dBool (dCall (dCons (dVar 0) dNil) Φ_is_word))) sBad sSkip)
noncomputable def Φ_must_word : Fn := callP 1 m_must_word
noncomputable def m_must_room : DS :=
  (sIf (dNot (dBool (dChain (dCst (.int 0)) (dVar 0) (dVar 1) opLe opLt))) sBad sSkip)
noncomputable def Φ_must_room : Fn := callP 2 m_must_room
noncomputable def m_Machine_init : DS :=
  (sSeq (sIf (dBool (dBin (dVar 1) (dCst (.int 8)) opGt)) sBad sSkip)
  (sSeq (sIf (dBool (dBin (dCall (dCons (dVar 3) dNil) biLen) (dCst (.int 24)) opGt)) sBad sSkip)
  (sSeq (sFor (.one 6) (iSeq (dVar 2)) (sExpr (dCall (dCons (dVar 6) (dCons (dVar 1) dNil)) Φ_must_room)))
  (sSeq (sFor (.many [7, 8, 9]) (iSeq (dVar 3)) (sSeq (sExpr (dCall (dCons (dVar 7) (dCons (dVar 1) dNil)) Φ_must_room))
  (sSeq (sExpr (dCall (dCons (dVar 8) dNil) Φ_must_word))
  (sExpr (dCall (dCons (dVar 9) (dCons (dVar 1) dNil)) Φ_must_room)))))
  (sSeq (sFor (.many [8, 10]) (iItems (dVar 4)) (sSeq (sExpr (dCall (dCons (dVar 8) dNil) Φ_must_word))
  (sExpr (dCall (dCons (dVar 10) dNil) Φ_must_word))))
  (sSeq (sFor (.one 8) (iSeq (dVar 5)) (sExpr (dCall (dCons (dVar 8) dNil) Φ_must_word)))
  (sSeq (sFldD 0 0 (dVar 0) (dVar 1))
  (sSeq (sFldD 0 1 (dVar 0) (dSortSet false (dVar 2)))
  (sSeq (sFldD 0 2 (dVar 0) (dSortSet false (dVar 3)))
  (sSeq (sFldD 0 3 (dVar 0) (dComp false [6] (.one 6) (iRange1 (dVar 1)) dYes (dComp false [11] (.one 11) (iSeq (dFld 0 2 (dVar 0))) (dBool (dBin (dBin (dVar 11) (dCst (.int 0)) opIx) (dVar 6) opEq)) (dVar 11))))
  (sSeq (sFldD 0 4 (dVar 0) (dDictOf false (dVar 4)))
  (sFldD 0 5 (dVar 0) (dCall (dCons (dVar 5) dNil) (biList false))))))))))))))
noncomputable def Φ_Machine_init : Fn := callG 12 m_Machine_init
noncomputable def m_Machine_starts : DS :=
  (sRet (dCall (dCons (dFld 0 1 (dVar 0)) dNil) (biList false)))
noncomputable def Φ_Machine_starts : Fn := callP 1 m_Machine_starts
noncomputable def m_Machine_moves : DS :=
  (sRet (dCall (dCons (dFld 0 2 (dVar 0)) dNil) (biList false)))
noncomputable def Φ_Machine_moves : Fn := callP 1 m_Machine_moves
noncomputable def m_Machine_sign_of : DS :=
  (sRet (dGet (dFld 0 4 (dVar 0)) (dVar 1)))
noncomputable def Φ_Machine_sign_of : Fn := callP 2 m_Machine_sign_of
noncomputable def m_Machine_is_fault : DS :=
  (sRet (dBin (dVar 1) (dFld 0 5 (dVar 0)) opIn))
noncomputable def Φ_Machine_is_fault : Fn := callP 2 m_Machine_is_fault
noncomputable def m_moves_from : DS :=
  (sRet (dCall (dCons (dBin (dFld 0 3 (dVar 0)) (dVar 1) opIx) dNil) (biList false)))
noncomputable def Φ_moves_from : Fn := callP 2 m_moves_from
noncomputable def m_spread : DS :=
  (sSeq (sSet 2 (dDictN true (dVar 1)))
  (sSeq (sSet 3 (dListKeys true (dVar 1)))
  (sSeq (sSet 4 (dCst (.int 0)))
  (sSeq (sWhile (dBool (dBin (dVar 4) (dCall (dCons (dVar 3) dNil) biLen) opLt)) (sSeq (sAsg (.many [5, 6]) (dBin (dVar 3) (dVar 4) opIx))
  (sSeq (sFor (.one 7) (iSeq (dCall (dCons (dVar 0) (dCons (dVar 5) dNil)) Φ_moves_from)) (sIf (dBool (dBin (dMeth 0 (dVar 0) (dCons (dBin (dVar 7) (dCst (.int 1)) opIx) dNil) Φ_Machine_sign_of) (dCst .non) opIs)) (sSeq (sSet 8 (dTup (dCons (dBin (dVar 7) (dCst (.int 2)) opIx) (dCons (dOrV (dVar 6) (dMeth 0 (dVar 0) (dCons (dBin (dVar 7) (dCst (.int 1)) opIx) dNil) Φ_Machine_is_fault)) dNil))))
  (sIf (dBool (dBin (dVar 8) (dVar 2) opNin)) (sSeq (sSub (dVar 2) (dVar 8) (dBin (dBin (dVar 2) (dBin (dVar 3) (dVar 4) opIx) opIx) (dLst false (dCons (dVar 7) dNil)) (opAdd false)))
  (sExpr (dMet (dVar 3) isLst (dCons (dVar 8) dNil) meApp))) sSkip)) sSkip))
  (sAug 4 (dCst (.int 1)) opAddI))) 1000000)
  (sRet (dFrzT (dVar 2)))))))
noncomputable def Φ_spread : Fn := callP 9 m_spread
noncomputable def m_start_spots : DS :=
  (sSeq (sSet 1 dDnil)
  (sSeq (sFor (.one 2) (iSeq (dMeth 0 (dVar 0) dNil Φ_Machine_starts)) (sSub (dVar 1) (dTup (dCons (dVar 2) (dCons (dCst (.bl false)) dNil))) (dLst false (dCons (dVar 2) dNil))))
  (sRet (dFrzT (dVar 1)))))
noncomputable def Φ_start_spots : Fn := callP 3 m_start_spots
noncomputable def m_begun : DS :=
  (sRet (dCall (dCons (dVar 0) (dCons (dCall (dCons (dVar 0) dNil) Φ_start_spots) dNil)) Φ_spread))
noncomputable def Φ_begun : Fn := callP 1 m_begun
noncomputable def m_seen : DS :=
  (sSeq (sSet 3 dDnil)
  (sSeq (sFor (.one 4) (iKeys (dVar 1)) (sSeq (sAsg (.many [5, 6]) (dVar 4))
  (sFor (.one 7) (iSeq (dCall (dCons (dVar 0) (dCons (dVar 5) dNil)) Φ_moves_from)) (sIf (dBool (dBin (dMeth 0 (dVar 0) (dCons (dBin (dVar 7) (dCst (.int 1)) opIx) dNil) Φ_Machine_sign_of) (dVar 2) opEq)) (sSeq (sSet 8 (dTup (dCons (dBin (dVar 7) (dCst (.int 2)) opIx) (dCons (dOrV (dVar 6) (dMeth 0 (dVar 0) (dCons (dBin (dVar 7) (dCst (.int 1)) opIx) dNil) Φ_Machine_is_fault)) dNil))))
  (sIf (dBool (dBin (dVar 8) (dVar 3) opNin)) (sSub (dVar 3) (dVar 8) (dBin (dBin (dVar 1) (dVar 4) opIx) (dLst false (dCons (dVar 7) dNil)) (opAdd false))) sSkip)) sSkip))))
  (sRet (dCall (dCons (dVar 0) (dCons (dFrzT (dVar 3)) dNil)) Φ_spread))))
noncomputable def Φ_seen : Fn := callP 9 m_seen
noncomputable def m_spots_behind : DS :=
  (sSeq (sSet 2 (dCall (dCons (dVar 0) dNil) Φ_begun))
  (sSeq (sFor (.one 3) (iSeq (dVar 1)) (sSet 2 (dCall (dCons (dVar 0) (dCons (dVar 2) (dCons (dVar 3) dNil))) Φ_seen)))
  (sRet (dVar 2))))
noncomputable def Φ_spots_behind : Fn := callP 4 m_spots_behind
noncomputable def m_rooms_in : DS :=
  (sRet (dSortSet false (dComp false [1] (.one 1) (iKeys (dVar 0)) dYes (dBin (dVar 1) (dCst (.int 0)) opIx))))
noncomputable def Φ_rooms_in : Fn := callP 2 m_rooms_in
noncomputable def m_possible : DS :=
  (sRet (dCall (dCons (dCall (dCons (dVar 0) (dCons (dVar 1) dNil)) Φ_spots_behind) dNil) Φ_rooms_in))
noncomputable def Φ_possible : Fn := callP 2 m_possible
noncomputable def m_verdict_of : DS :=
  (sSeq (sSet 1 (dSortSet false (dComp false [2] (.one 2) (iKeys (dVar 0)) dYes (dBin (dVar 2) (dCst (.int 1)) opIx))))
  (sSeq (sIf (dBool (dBin (dVar 1) (dLst false dNil) opEq)) (sRet (dCst (.str ("never" : Str)))) sSkip)
  (sSeq (sIf (dBool (dBin (dVar 1) (dLst false (dCons (dCst (.bl true)) dNil)) opEq)) (sRet (dCst (.str ("sure" : Str)))) sSkip)
  (sSeq (sIf (dBool (dBin (dVar 1) (dLst false (dCons (dCst (.bl false)) dNil)) opEq)) (sRet (dCst (.str ("clear" : Str)))) sSkip)
  (sRet (dCst (.str ("maybe" : Str))))))))
noncomputable def Φ_verdict_of : Fn := callP 3 m_verdict_of
noncomputable def m_verdict : DS :=
  (sRet (dCall (dCons (dCall (dCons (dVar 0) (dCons (dVar 1) dNil)) Φ_spots_behind) dNil) Φ_verdict_of))
noncomputable def Φ_verdict : Fn := callP 2 m_verdict
noncomputable def m_as_run : DS :=
  (sRet (dTup (dCons (dBin (dVar 0) (dCst (.int 0)) opIx) (dCons (dSlice false (dVar 0) (some (dCst (.int 1))) none) dNil))))
noncomputable def Φ_as_run : Fn := callP 1 m_as_run
noncomputable def m_run_to : DS :=
  (sSeq (sSet 3 (dCall (dCons (dVar 0) (dCons (dVar 1) dNil)) Φ_spots_behind))
  (sSeq (sFor (.one 4) (iSeq (dLst false (dCons (dCst (.bl false)) (dCons (dCst (.bl true)) dNil)))) (sIf (dBool (dBin (dTup (dCons (dVar 2) (dCons (dVar 4) dNil))) (dVar 3) opIn)) (sRet (dCall (dCons (dBin (dVar 3) (dTup (dCons (dVar 2) (dCons (dVar 4) dNil))) opIx) dNil) Φ_as_run)) sSkip))
  (sRet (dCst .non))))
noncomputable def Φ_run_to : Fn := callP 5 m_run_to
noncomputable def m_run_with : DS :=
  (sSeq (sSet 3 (dCall (dCons (dVar 0) (dCons (dVar 1) dNil)) Φ_spots_behind))
  (sSeq (sFor (.one 4) (iKeys (dVar 3)) (sIf (dBool (dBin (dBin (dVar 4) (dCst (.int 1)) opIx) (dVar 2) opEq)) (sRet (dCall (dCons (dBin (dVar 3) (dVar 4) opIx) dNil) Φ_as_run)) sSkip))
  (sRet (dCst .non))))
noncomputable def Φ_run_with : Fn := callP 5 m_run_with
end SB
set_option Elab.async false
set_option linter.all false
set_option maxRecDepth 10000
namespace SB
open PySem L2
theorem at_end {α : Type} (μ : List α) (c : α) : (μ ++ [c])[μ.length]? = some c := by simp
theorem set_end {α : Type} (μ : List α) (c d : α) : (μ ++ [c]).set μ.length d = μ ++ [d] := by simp
theorem vw_end (μ : Mu) (k : Nat) (fs : List D) : vw (μ ++ [.ins k fs]) (.ref μ.length) = .ins k fs := by simp only [vw, at_end]
theorem f_must_room (r : Int) (size : Nat) (h0 : 0 ≤ r) (h1 : r < size) (μ : Mu) : Φ_must_room [.int r, .int size] μ = .ok .non μ := by
  refine callP_nx (by rfl) (ρ := [some (.int r), some (.int size)]) (μ' := []) ?_ μ
  rw [show startD 2 [D.int r, .int size] = [some (.int r), some (.int size)] from rfl]
  simp [m_must_room, h0, h1]
theorem chs_get (z : Str) (c : Nat) (h : c ∈ chs z) (hl : low z) : opIn (.str ⟨#[c]⟩) (.str LET) [] = .ok (.bl true) [] := by
  have hc := hl c h
  have e : chs LET = List.range' 97 26 := by decide +kernel
  have hm : c ∈ LET.cps.toList := by
    show c ∈ chs LET
    rw [e, List.mem_range']
    exact ⟨c - 97, by omega, by omega⟩
  unfold opIn isIn
  simp only [vw_s]
  simp only [decide_eq_true hm]
theorem f_is_word (z : Str) (h : wordOk z) (μ : Mu) : Φ_is_word [.str z] μ = .ok (.bl true) μ := by
  obtain ⟨h1, h2, h3⟩ := h
  refine callP_rt (by rfl) (μ' := []) ?_ rfl μ
  rw [show startD 2 [D.str z] = [some (.str z), none] from rfl]
  have cm := compL_eq (own := [1]) (tt := .one 1) (c := dYes) (f := dBin (dVar 1) (dCst (.str LET)) opIn) (ρ := [some (.str z), none]) (μ := []) (fun _ => true) (fun _ => .bl true) ((chs z).map fun c => .str ⟨#[c]⟩) (fun d hd => by
    obtain ⟨c, hc, rfl⟩ := List.mem_map.mp hd
    refine ⟨_, rfl, rfl, fun _ => ?_⟩
    simp [wipeD, chs_get z c hc h3])
  have bo : ∀ bs : List Bool, boolsOf (bs.map .bl) = some bs := by
    intro bs
    induction bs with
    | nil => rfl
    | cons b bs ih => simp only [List.map_cons, boolsOf, ih, Option.map_some]
  have hz := len_chs z
  have e1 : (((chs z).map fun c => D.str ⟨#[c]⟩).filter fun _ => true).map (fun _ => D.bl true) = ((chs z).map fun _ => true).map .bl := by
    rw [List.filter_eq_self.mpr fun _ _ => rfl, List.map_map, List.map_map]; rfl
  rw [e1] at cm
  have bl : biLen [.str z] [] = .ok (.int z.length) [] := if_pos (sz (by omega))
  have i1 : (1 : Int) ≤ z.length := by omega
  have i2 : (z.length : Int) ≤ 8 := by omega
  have it : iText (dVar 0) [some (.str z), none] [] = .ok ((chs z).map fun c => .str ⟨#[c]⟩) [] := rfl
  have al : biAll [.lst (((chs z).map fun _ => true).map .bl)] [] = .ok (.bl true) [] := by
    unfold biAll
    simp only [vw_l, seqL, bo]
    have : (((chs z).map fun _ => true).all id) = true := by
      rw [List.all_map, List.all_eq_true]; intro _ _; rfl
    rw [this]
  unfold m_is_word
  simp only [ev_ret, ev_andV, ev_chain, ev_cst, ev_call, ev_cons, ev_nil, ev_var, List.getElem?_cons_zero, Res.bind_ok, bl, op_le_i, i1, decide_true, vw_b, i2, ev_comp, it, cm]
  rw [mkL_f (sz (by rw [List.length_map, List.length_map]; omega))]
  simp only [Res.bind_ok, al, out_ok]
theorem f_must_word (z : Str) (h : wordOk z) (μ : Mu) : Φ_must_word [.str z] μ = .ok .non μ := by
  refine callP_nx (by rfl) (ρ := [some (.str z)]) (μ' := []) ?_ μ
  rw [show startD 1 [D.str z] = [some (.str z)] from rfl]
  simp [m_must_word, f_is_word z h]
theorem shp_ints : ∀ rs : List Int, shpAll (rs.map .int) = some .i
  | [] => rfl
  | r :: rs => by
    have : ((r :: rs).map D.int).all (fun y => (keyS .i y).isSome) = true := by
      rw [List.all_map, List.all_eq_true]; intro _ _; rfl
    show (match shpOf (.int r) with | some S => if ((r :: rs).map D.int).all (fun y => (keyS S y).isSome) then some S else none | none => none) = some .i
    simp only [shpOf, this, if_true]
theorem shp_mvs : ∀ ms : List Mv, ms ≠ [] → shpAll (ms.map mvD) = some (.ti [false, true, false])
  | [], h => absurd rfl h
  | m :: ms, _ => by
    have : ((m :: ms).map mvD).all (fun y => (keyS (.ti [false, true, false]) y).isSome) = true := by
      rw [List.all_map, List.all_eq_true]; intro m _; rfl
    show (match shpOf (mvD m) with | some S => if ((m :: ms).map mvD).all (fun y => (keyS S y).isSome) then some S else none | none => none) = _
    simp only [mvD, shpOf, List.map_cons, List.map_nil, isTx]
    simp only [mvD, List.map_cons] at this
    simp only [this, if_true]
theorem nub_len (S : Shp) : ∀ l : List D, (nubS S l).length ≤ l.length
  | [] => Nat.le_refl _
  | x :: l => by
    unfold nubS
    have := nub_len S l
    split <;> simp <;> omega
theorem sort_len (S : Shp) (l : List D) : (sortS S l).length = l.length := (sortS_perm S l).length_eq
/-- sorted(set(xs)) of typed things -/
theorem sset {α : Type} (e : α → D) (S : Shp) (xs : List α) (hk : ∀ x ∈ xs.map e, (keyS S x).isSome = true) : ∃ bs : List α, sortS S (nubS S (xs.map e)) = bs.map e ∧ (∀ x ∈ bs, x ∈ xs) ∧ (∀ x ∈ xs, e x ∈ bs.map e) ∧ bs.length ≤ xs.length := by
  have mem : ∀ d, d ∈ sortS S (nubS S (xs.map e)) ↔ d ∈ xs.map e := fun d => by rw [(sortS_perm S _).mem_iff, nubS_mem hk]
  obtain ⟨bs, e1, h1⟩ := pre_map e xs _ fun d hd => (mem d).mp hd
  refine ⟨bs, e1, h1, fun x hx => ?_, ?_⟩
  · rw [← e1, mem]; exact List.mem_map.mpr ⟨x, hx, rfl⟩
  · have h := congrArg List.length e1
    rw [List.length_map, sort_len] at h
    have := nub_len S (xs.map e)
    rw [List.length_map] at this
    omega
theorem mvD_inj {a b : Mv} (h : mvD a = mvD b) : a = b := by
  cases a; cases b
  simp only [mvD, D.tup.injEq, List.cons.injEq, D.int.injEq, D.str.injEq] at h
  obtain ⟨rfl, rfl, rfl, _⟩ := h
  rfl
theorem sset_mv (ms : List Mv) (h : ms.length < 64) : ∃ bs : List Mv, (∀ x, x ∈ bs ↔ x ∈ ms) ∧ bs.length ≤ ms.length ∧ ∀ (f : DE) (ρ : Ev) (μ μ' : Mu), f ρ μ = .ok (.lst (ms.map mvD)) μ' → dSortSet false f ρ μ = .ok (.lst (bs.map mvD)) μ' := by
  rcases Classical.em (ms = []) with c | c
  · subst c
    refine ⟨[], fun _ => Iff.rfl, Nat.le_refl _, fun f ρ μ μ' hf => ?_⟩
    unfold dSortSet
    rw [hf]; rfl
  · obtain ⟨bs, e1, h1, h2, h3⟩ := sset mvD (.ti [false, true, false]) ms (fun x hx => by obtain ⟨r, _, rfl⟩ := List.mem_map.mp hx; rfl)
    refine ⟨bs, fun x => ⟨h1 x, fun hx => ?_⟩, h3, fun f ρ μ μ' hf => ?_⟩
    · obtain ⟨y, hy, e⟩ := List.mem_map.mp (h2 x hx)
      exact mvD_inj e ▸ hy
    · unfold dSortSet
      rw [hf]
      simp only [Res.bind_ok, vw_l, seqL, shp_mvs ms c]
      rw [if_pos ⟨by rw [List.length_map]; exact h, rfl⟩, e1]
      exact mkL_f (sz (by rw [List.length_map]; omega))
end SB
set_option Elab.async false
set_option linter.all false
set_option maxRecDepth 10000
namespace SB
open PySem L2
abbrev rowD (ms : List Mv) : D := .lst (ms.map mvD)
/-- a machine as data -/
abbrev mcF (size : Nat) (bs : List Int) (kn : List Mv) (sg : List (Str × Str)) (fs : List Str) : List D :=
  [.int size, .lst (bs.map .int), .lst (kn.map mvD), .lst ((List.range size).map fun r : Nat => rowD (kn.filter fun m => decide (m.h = (r : Int)))), .dic (sg.map sgD), .lst (fs.map .str)]
abbrev mcD (size : Nat) (bs : List Int) (kn : List Mv) (sg : List (Str × Str)) (fs : List Str) : D := .ins 0 (mcF size bs kn sg fs)
@[simp] theorem mv_ix0 {m : Mv} {μ : Mu} : opIx (mvD m) (.int 0) μ = .ok (.int m.h) μ := op_ix_0
@[simp] theorem mv_ix1 {m : Mv} {μ : Mu} : opIx (mvD m) (.int 1) μ = .ok (.str m.d) μ := op_ix_1
@[simp] theorem mv_ix2 {m : Mv} {μ : Mu} : opIx (mvD m) (.int 2) μ = .ok (.int m.t) μ := op_ix_2
theorem dkind_sg (sg : List (Str × Str)) : sg.map sgD = [] ∨ dkind (sg.map sgD) = some false := by
  cases sg with
  | nil => exact .inl rfl
  | cons p sg => exact .inr rfl
/-- the leading moves, room by room -/
theorem comp_leading {ρ : Ev} {μ : Mu} {kn : List Mv} (size : Nat) (i j : Nat) (hi : i < ρ.length) (hj : j < ρ.length) (hij : i ≠ j) (h2 : 2 ≤ i) (h2j : 2 ≤ j) (hk : ∀ ρ' : Ev, ρ'[0]? = ρ[0]? → dFld 0 2 (dVar 0) ρ' μ = .ok (.lst (kn.map mvD)) μ) (hl : kn.length ≤ 1000) :
    compL [i] (.one i) dYes (dComp false [j] (.one j) (iSeq (dFld 0 2 (dVar 0))) (dBool (dBin (dBin (dVar j) (dCst (.int 0)) opIx) (dVar i) opEq)) (dVar j)) (rngD 0 size) ρ μ = .ok ((List.range size).map fun r : Nat => rowD (kn.filter fun m => decide (m.h = (r : Int)))) μ := by
  let v : D → D := fun d => match d with | .int k => rowD (kn.filter fun m => decide (m.h = k)) | d => d
  have cm := compL_eq (own := [i]) (tt := .one i) (c := dYes) (f := dComp false [j] (.one j) (iSeq (dFld 0 2 (dVar 0))) (dBool (dBin (dBin (dVar j) (dCst (.int 0)) opIx) (dVar i) opEq)) (dVar j)) (ρ := ρ) (μ := μ) (fun _ => true) v (rngD 0 size) (fun d hd => by
    obtain ⟨r, hr, rfl⟩ := mem_rng hd
    refine ⟨_, rfl, rfl, fun _ => ?_⟩
    have w0 : (wipeD ρ [i]).set i (some (.int r)) = ρ.set i (some (.int r)) := by simp [wipeD]
    rw [w0]
    let q : D → Bool := fun d => match d with | .tup (.int h :: _) => decide (h = (r : Int)) | _ => false
    have c2 := compL_eq (own := [j]) (tt := .one j) (c := dBool (dBin (dBin (dVar j) (dCst (.int 0)) opIx) (dVar i) opEq)) (f := dVar j) (ρ := ρ.set i (some (.int r))) (μ := μ) q id (kn.map mvD) (fun d hd => by
      obtain ⟨m, _, rfl⟩ := List.mem_map.mp hd
      have g1 : ((wipeD (ρ.set i (some (.int r))) [j]).set j (some (mvD m)))[j]? = some (some (mvD m)) := by simp [wipeD, hj]
      have g2 : ((wipeD (ρ.set i (some (.int r))) [j]).set j (some (mvD m)))[i]? = some (some (.int r)) := by
        simp only [wipeD, List.set_set]
        rw [List.getElem?_set_ne (Ne.symm hij), List.getElem?_set_self hi]
      refine ⟨_, rfl, ?_, fun _ => ?_⟩
      · simp only [ev_bool, ev_bin, ev_var, g1, g2, ev_cst, Res.bind_ok, mv_ix0, op_eq_i, ev_asB]; rfl
      · simp only [ev_var, g1]; rfl)
    rw [List.map_id] at c2
    have e : (kn.map mvD).filter q = (kn.filter fun m => decide (m.h = (r : Int))).map mvD := by
      rw [List.filter_map]; rfl
    rw [e] at c2
    have h0 := hk (ρ.set i (some (.int r))) (by rw [List.getElem?_set_ne (by omega)])
    rw [ev_comp, ev_iseq, h0]
    simp only [Res.bind_ok, it_l, Res.of_some, c2]
    exact mkL_f (sz (by have := List.length_filter_le (fun m : Mv => decide (m.h = (r : Int))) kn; rw [List.length_map]; omega)))
  rw [cm, List.filter_eq_self.mpr fun _ _ => rfl]
  unfold rngD
  rw [List.map_map]
  refine congrArg (fun l => Res.ok l μ) (List.map_congr_left fun r _ => ?_)
  show v (.int (0 + r)) = _
  rw [Int.zero_add]
theorem f_Machine (size : Nat) (rs : List Int) (ms : List Mv) (sg : List (Str × Str)) (fs : List Str) (bs : List Int) (kn : List Mv) (h1 : 1 ≤ size) (h8 : size ≤ 8) (hr : ∀ r ∈ rs, 0 ≤ r ∧ r < size) (hm : ∀ m ∈ ms, 0 ≤ m.h ∧ m.h < size ∧ wordOk m.d ∧ 0 ≤ m.t ∧ m.t < size) (hml : ms.length ≤ 24)
    (hg : ∀ p ∈ sg, wordOk p.1 ∧ wordOk p.2) (hf : ∀ w ∈ fs, wordOk w) (hfl : fs.length ≤ 1000) (hbs : ∀ (f : DE) (ρ : Ev) (μ μ' : Mu), f ρ μ = .ok (.lst (rs.map .int)) μ' → dSortSet false f ρ μ = .ok (.lst (bs.map .int)) μ') (hkn : ∀ (f : DE) (ρ : Ev) (μ μ' : Mu), f ρ μ = .ok (.lst (ms.map mvD)) μ' → dSortSet false f ρ μ = .ok (.lst (kn.map mvD)) μ') (hkl : kn.length ≤ 24)
    {fsE : DEs} {ρ : Ev} {μ : Mu} (ha : fsE ρ μ = .ok [.int size, .lst (rs.map .int), .lst (ms.map mvD), .dic (sg.map sgD), .lst (fs.map .str)] μ) :
    dMake false 0 fsE Φ_Machine_init ρ μ = .ok (mcD size bs kn sg fs) (μ ++ [.fz (mcD size bs kn sg fs)]) := by
  have init : Φ_Machine_init [.ref μ.length, .int size, .lst (rs.map .int), .lst (ms.map mvD), .dic (sg.map sgD), .lst (fs.map .str)] (μ ++ [.ins 0 []]) = .ok .non (μ ++ [.ins 0 (mcF size bs kn sg fs)]) := by
    suffices h : ∃ ρ', m_Machine_init [some (.ref μ.length), some (.int size), some (.lst (rs.map .int)), some (.lst (ms.map mvD)), some (.dic (sg.map sgD)), some (.lst (fs.map .str)), none, none, none, none, none, none] (μ ++ [.ins 0 []]) = .nx ρ' (μ ++ [.ins 0 (mcF size bs kn sg fs)]) by
      obtain ⟨ρ', h⟩ := h
      unfold Φ_Machine_init callG
      rw [show startD 12 [.ref μ.length, .int size, .lst (rs.map .int), .lst (ms.map mvD), .dic (sg.map sgD), .lst (fs.map .str)] = [some (.ref μ.length), some (.int size), some (.lst (rs.map .int)), some (.lst (ms.map mvD)), some (.dic (sg.map sgD)), some (.lst (fs.map .str)), none, none, none, none, none, none] from rfl, h]
    unfold m_Machine_init
    rw [seq_nx (by
      have : ¬ (8 : Int) < size := by omega
      simp only [ev_if, ev_bool, ev_bin, ev_var, ev_cst, List.getElem?_cons_succ, List.getElem?_cons_zero, Res.bind_ok, op_gt_i, this, decide_false, ev_asB, out_ok, Bool.false_eq_true, if_false, ev_skip]; rfl)]
    rw [seq_nx (by
      have : ¬ (24 : Int) < ms.length := by omega
      simp only [ev_if, ev_bool, ev_bin, ev_var, ev_cst, ev_call, ev_cons, ev_nil, List.getElem?_cons_succ, List.getElem?_cons_zero, Res.bind_ok, bi_len_l, List.length_map, op_gt_i, this, decide_false, ev_asB, out_ok, Bool.false_eq_true, if_false, ev_skip]; rfl)]
    -- the four loops
    have l1 := sForL_nx (t := .one 6) (g := sExpr (dCall (dCons (dVar 6) (dCons (dVar 1) dNil)) Φ_must_room)) (fun _ ρ μ' => μ' = μ ++ [.ins 0 []] ∧ ∃ x6, ρ = [some (.ref μ.length), some (.int size), some (.lst (rs.map .int)), some (.lst (ms.map mvD)), some (.dic (sg.map sgD)), some (.lst (fs.map .str)), x6, none, none, none, none, none])
      (rs.map .int) 0 [some (.ref μ.length), some (.int size), some (.lst (rs.map .int)), some (.lst (ms.map mvD)), some (.dic (sg.map sgD)), some (.lst (fs.map .str)), none, none, none, none, none, none] (μ ++ [.ins 0 []]) ⟨rfl, none, rfl⟩ (fun i d ρ μ' hd hi => by
        rw [List.getElem?_map] at hd
        obtain ⟨r, hrr, rfl⟩ := Option.map_eq_some_iff.mp hd
        obtain ⟨rfl, x6, rfl⟩ := hi
        have hrb := hr r (List.mem_of_getElem? hrr)
        have fm := f_must_room r size hrb.1 hrb.2
        exact ⟨_, rfl, _, _, .inl (by simp only [ev_expr, ev_call, ev_cons, ev_nil, ev_var, List.set_cons_succ, List.set_cons_zero, List.getElem?_cons_succ, List.getElem?_cons_zero, Res.bind_ok, fm, out_ok]; rfl), rfl, _, rfl⟩)
    obtain ⟨ρ1, μ1, e1, rfl, x6, rfl⟩ := l1
    rw [seq_nx (by simp only [ev_for, ev_iseq, ev_var, List.getElem?_cons_succ, List.getElem?_cons_zero, Res.bind_ok, it_l, Res.of_some, out_ok]; exact e1)]
    have l2 := sForL_nx (t := .many [7, 8, 9]) (g := sSeq (sExpr (dCall (dCons (dVar 7) (dCons (dVar 1) dNil)) Φ_must_room)) (sSeq (sExpr (dCall (dCons (dVar 8) dNil) Φ_must_word)) (sExpr (dCall (dCons (dVar 9) (dCons (dVar 1) dNil)) Φ_must_room))))
      (fun _ ρ μ' => μ' = μ ++ [.ins 0 []] ∧ ∃ x7 x8 x9, ρ = [some (.ref μ.length), some (.int size), some (.lst (rs.map .int)), some (.lst (ms.map mvD)), some (.dic (sg.map sgD)), some (.lst (fs.map .str)), x6, x7, x8, x9, none, none])
      (ms.map mvD) 0 [some (.ref μ.length), some (.int size), some (.lst (rs.map .int)), some (.lst (ms.map mvD)), some (.dic (sg.map sgD)), some (.lst (fs.map .str)), x6, none, none, none, none, none] (μ ++ [.ins 0 []]) ⟨rfl, none, none, none, rfl⟩ (fun i d ρ μ' hd hi => by
        rw [List.getElem?_map] at hd
        obtain ⟨m, hmm, rfl⟩ := Option.map_eq_some_iff.mp hd
        obtain ⟨rfl, x7, x8, x9, rfl⟩ := hi
        obtain ⟨a1, a2, a3, a4, a5⟩ := hm m (List.mem_of_getElem? hmm)
        have fm := f_must_room m.h size a1 a2
        have fn := f_must_room m.t size a4 a5
        have fw := f_must_word m.d a3
        exact ⟨_, rfl, _, _, .inl (by simp only [ev_seq, ev_expr, ev_call, ev_cons, ev_nil, ev_var, List.set_cons_succ, List.set_cons_zero, List.getElem?_cons_succ, List.getElem?_cons_zero, Res.bind_ok, fm, fn, fw, out_ok]; rfl), rfl, _, _, _, rfl⟩)
    obtain ⟨ρ2, μ2, e2, rfl, x7, x8, x9, rfl⟩ := l2
    rw [seq_nx (by simp only [ev_for, ev_iseq, ev_var, List.getElem?_cons_succ, List.getElem?_cons_zero, Res.bind_ok, it_l, Res.of_some, out_ok]; exact e2)]
    have l3 := sForL_nx (t := .many [8, 10]) (g := sSeq (sExpr (dCall (dCons (dVar 8) dNil) Φ_must_word)) (sExpr (dCall (dCons (dVar 10) dNil) Φ_must_word)))
      (fun _ ρ μ' => μ' = μ ++ [.ins 0 []] ∧ ∃ x8 x10, ρ = [some (.ref μ.length), some (.int size), some (.lst (rs.map .int)), some (.lst (ms.map mvD)), some (.dic (sg.map sgD)), some (.lst (fs.map .str)), x6, x7, x8, x9, x10, none])
      ((sg.map sgD).map fun p => .tup [p.1, p.2]) 0 [some (.ref μ.length), some (.int size), some (.lst (rs.map .int)), some (.lst (ms.map mvD)), some (.dic (sg.map sgD)), some (.lst (fs.map .str)), x6, x7, x8, x9, none, none] (μ ++ [.ins 0 []]) ⟨rfl, x8, none, rfl⟩ (fun i d ρ μ' hd hi => by
        rw [List.map_map, List.getElem?_map] at hd
        obtain ⟨p, hpp, rfl⟩ := Option.map_eq_some_iff.mp hd
        obtain ⟨rfl, x8, x10, rfl⟩ := hi
        have fw := f_must_word p.1 (hg p (List.mem_of_getElem? hpp)).1
        have fv := f_must_word p.2 (hg p (List.mem_of_getElem? hpp)).2
        exact ⟨_, rfl, _, _, .inl (by simp only [sgD, ev_seq, ev_expr, ev_call, ev_cons, ev_nil, ev_var, List.set_cons_succ, List.set_cons_zero, List.getElem?_cons_succ, List.getElem?_cons_zero, Res.bind_ok, fv, fw, out_ok]; rfl), rfl, _, _, rfl⟩)
    obtain ⟨ρ3, μ3, e3, rfl, x8, x10, rfl⟩ := l3
    rw [seq_nx (by simp only [ev_for, iItems, ev_var, List.getElem?_cons_succ, List.getElem?_cons_zero, Res.bind_ok, if_pos (dkind_sg sg), out_ok]; exact e3)]
    have l4 := sForL_nx (t := .one 8) (g := sExpr (dCall (dCons (dVar 8) dNil) Φ_must_word))
      (fun _ ρ μ' => μ' = μ ++ [.ins 0 []] ∧ ∃ x8, ρ = [some (.ref μ.length), some (.int size), some (.lst (rs.map .int)), some (.lst (ms.map mvD)), some (.dic (sg.map sgD)), some (.lst (fs.map .str)), x6, x7, x8, x9, x10, none])
      (fs.map .str) 0 [some (.ref μ.length), some (.int size), some (.lst (rs.map .int)), some (.lst (ms.map mvD)), some (.dic (sg.map sgD)), some (.lst (fs.map .str)), x6, x7, x8, x9, x10, none] (μ ++ [.ins 0 []]) ⟨rfl, x8, rfl⟩ (fun i d ρ μ' hd hi => by
        rw [List.getElem?_map] at hd
        obtain ⟨w, hww, rfl⟩ := Option.map_eq_some_iff.mp hd
        obtain ⟨rfl, x8, rfl⟩ := hi
        have fw := f_must_word w (hf w (List.mem_of_getElem? hww))
        exact ⟨_, rfl, _, _, .inl (by simp only [ev_expr, ev_call, ev_cons, ev_nil, ev_var, List.set_cons_succ, List.set_cons_zero, List.getElem?_cons_succ, List.getElem?_cons_zero, Res.bind_ok, fw, out_ok]; rfl), rfl, _, rfl⟩)
    obtain ⟨ρ4, μ4, e4, rfl, x8, rfl⟩ := l4
    rw [seq_nx (by simp only [ev_for, ev_iseq, ev_var, List.getElem?_cons_succ, List.getElem?_cons_zero, Res.bind_ok, it_l, Res.of_some, out_ok]; exact e4)]
    -- the fields
    generalize hρ : ([some (.ref μ.length), some (.int size), some (.lst (rs.map .int)), some (.lst (ms.map mvD)), some (.dic (sg.map sgD)), some (.lst (fs.map .str)), x6, x7, x8, x9, x10, none] : Ev) = ρ5
    have v0 : ∀ μ, dVar 0 ρ5 μ = .ok (.ref μ.length) μ ∨ True := fun _ => .inr trivial
    have q0 : ∀ ν, dVar 0 ρ5 ν = .ok (.ref μ.length) ν := fun ν => by subst hρ; rfl
    have q1 : ∀ ν, dVar 1 ρ5 ν = .ok (.int size) ν := fun ν => by subst hρ; rfl
    have q2 : ∀ ν, dVar 2 ρ5 ν = .ok (.lst (rs.map .int)) ν := fun ν => by subst hρ; rfl
    have q3 : ∀ ν, dVar 3 ρ5 ν = .ok (.lst (ms.map mvD)) ν := fun ν => by subst hρ; rfl
    have q4 : ∀ ν, dVar 4 ρ5 ν = .ok (.dic (sg.map sgD)) ν := fun ν => by subst hρ; rfl
    have q5 : ∀ ν, dVar 5 ρ5 ν = .ok (.lst (fs.map .str)) ν := fun ν => by subst hρ; rfl
    have fld : ∀ (k : Nat) (xs : List D) (d : D) (f : DE), k = xs.length → f ρ5 (μ ++ [.ins 0 xs]) = .ok d (μ ++ [.ins 0 xs]) → sFldD 0 k (dVar 0) f ρ5 (μ ++ [.ins 0 xs]) = .nx ρ5 (μ ++ [.ins 0 (xs ++ [d])]) := by
      intro k xs d f hk hf'
      subst hk
      unfold sFldD
      rw [hf']
      simp only [out_ok, q0, at_end, if_true, set_end]
      rw [if_neg (Nat.lt_irrefl _)]
    refine ⟨ρ5, ?_⟩
    rw [seq_nx (fld 0 [] _ _ rfl (q1 _))]
    rw [seq_nx (fld 1 _ _ _ rfl (hbs _ _ _ _ (q2 _)))]
    rw [seq_nx (fld 2 _ _ _ rfl (hkn _ _ _ _ (q3 _)))]
    rw [seq_nx (fld 3 _ (.lst ((List.range size).map fun r : Nat => rowD (kn.filter fun m => decide (m.h = (r : Int))))) _ rfl (by
      have cl := comp_leading (ρ := ρ5) (μ := μ ++ [.ins 0 ([] ++ [.int size] ++ [.lst (bs.map .int)] ++ [.lst (kn.map mvD)])]) (kn := kn) size 6 11 (by subst hρ; show 6 < 12; decide) (by subst hρ; show 11 < 12; decide) (by decide) (by decide) (by decide) (fun ρ' h0 => by
        have : ρ'[0]? = some (some (.ref μ.length)) := by rw [h0]; subst hρ; rfl
        simp only [dFld, ev_var, this, Res.bind_ok, vw_end]; rfl) (by omega)
      rw [ev_comp, ev_rng1 (i := size) (q1 _) (by omega) (by omega)]
      simp only [Res.bind_ok, Int.toNat_natCast]
      rw [cl]
      simp only [Res.bind_ok]
      exact mkL_f (sz (by rw [List.length_map, List.length_range]; omega))))]
    rw [seq_nx (fld 4 _ (.dic (sg.map sgD)) _ rfl (by simp only [dDictOf, q4, Res.bind_ok, if_pos (dkind_sg sg)]; rfl))]
    rw [fld 5 _ (.lst (fs.map .str)) _ rfl (by
      simp only [ev_call, ev_cons, ev_nil, q5, Res.bind_ok, biList, vw_l, seqL]
      exact mkL_f (sz (by rw [List.length_map]; omega)))]; rfl
  unfold dMake
  rw [ha]
  simp only [Res.bind_ok, init, Bool.false_eq_true, if_false, at_end, set_end]
end SB
set_option Elab.async false
set_option linter.all false
set_option maxRecDepth 10000
namespace SB
open PySem L2
def spD (s : Spt) : D := .tup [.int s.1, .bl s.2]
theorem keq_sp (a b : Spt) : keq (spD a) (spD b) = decide (a = b) := by
  obtain ⟨i, p⟩ := a
  obtain ⟨j, q⟩ := b
  simp only [spD, keq, keqs, Bool.and_true, Prod.mk.injEq, Bool.decide_and]
  rw [Bool.eq_iff_iff]
  simp only [Bool.and_eq_true, beq_iff_eq, decide_eq_true_eq]
theorem kfits_sp {α : Type} (e : α → D) (ws : List (Spt × α)) (s : Spt) : kfits (ws.map fun p => (spD p.1, e p.2)) (spD s) = true := by
  cases ws with
  | nil => rfl
  | cons p ws => rfl
def getW {α : Type} (ws : List (Spt × α)) (s : Spt) : Option α := (ws.find? fun p => decide (p.1 = s)).map (·.2)
theorem dget_sp {α : Type} (e : α → D) (ws : List (Spt × α)) (s : Spt) : dget (ws.map fun p => (spD p.1, e p.2)) (spD s) = (getW ws s).map e := by
  unfold dget getW
  induction ws with
  | nil => rfl
  | cons p ws ih =>
    simp only [List.map_cons, List.find?_cons, keq_sp]
    by_cases h : p.1 = s
    · simp [h]
    · simp only [decide_eq_false h]; exact ih
theorem getW_none {α : Type} {ws : List (Spt × α)} {s : Spt} : getW ws s = none ↔ s ∉ ws.map (·.1) := by
  unfold getW
  simp only [Option.map_eq_none_iff, List.find?_eq_none, decide_eq_true_eq, List.mem_map, not_exists, not_and]
theorem dput_sp {α : Type} (e : α → D) {ws : List (Spt × α)} {s : Spt} (w : α) (h : s ∉ ws.map (·.1)) : dput (ws.map fun p => (spD p.1, e p.2)) (spD s) (e w) = (ws ++ [(s, w)]).map fun p => (spD p.1, e p.2) := by
  unfold dput
  have n : ((ws.map fun p => (spD p.1, e p.2)).any fun p => keq p.1 (spD s)) = false := by
    rw [List.any_map, List.any_eq_false]
    intro p hp
    simp only [Function.comp, keq_sp, decide_eq_true_eq]
    exact fun z => h (z ▸ List.mem_map_of_mem hp)
  rw [n, if_neg (by decide), List.map_append]
  rfl
end SB
set_option Elab.async false
set_option linter.all false
set_option maxRecDepth 10000
namespace SB
open PySem L2
abbrev optD (o : Option Str) : D := (o.map D.str).getD .non
theorem isNon_opt {o : Option Str} {μ : Mu} : isNon (vw μ (optD o)) = o.isNone := by cases o <;> rfl
structure McD (A : D) (M : Mc) (size : Nat) : Prop where
  cl : closed A = true
  ic : ∀ μ, insC (vw μ A) = some 0
  s1 : 1 ≤ size
  s8 : size ≤ 8
  st : ∀ r ∈ M.st, 0 ≤ r ∧ r < size
  knh : ∀ m ∈ M.kn, 0 ≤ m.h ∧ m.h < size
  knt : ∀ m ∈ M.kn, 0 ≤ m.t ∧ m.t < size
  kno : ∀ m ∈ M.kn, okS m.d
  sgo : ∀ p ∈ M.sg, okS p.2
  stl : M.st.length ≤ 64
  knl : M.kn.length ≤ 24
  stn : M.st.Nodup
  starts : ∀ μ, Φ_Machine_starts [A] μ = .ok (.lst (M.st.map .int)) μ
  moves : ∀ μ, Φ_Machine_moves [A] μ = .ok (.lst (M.kn.map mvD)) μ
  sign_of : ∀ z μ, Φ_Machine_sign_of [A, .str z] μ = .ok (optD (getS M.sg z)) μ
  is_fault : ∀ z, okS z → ∀ μ, Φ_Machine_is_fault [A, .str z] μ = .ok (.bl (decide (z ∈ M.fs))) μ
  from_ : ∀ r : Int, 0 ≤ r → r < size → ∀ μ, Φ_moves_from [A, .int r] μ = .ok (.lst ((M.kn.filter fun m => decide (m.h = r)).map mvD)) μ
def wayD (w : Way) : D := .lst (.int w.1 :: w.2.map mvD)
abbrev Ws : Type := List (Spt × Way)
abbrev wsE (ws : Ws) : List (D × D) := ws.map fun p => (spD p.1, wayD p.2)
abbrev keysW (ws : Ws) : List Spt := ws.map (·.1)
theorem cl_sp (s : Spt) : closed (spD s) = true := rfl
theorem cl_way (w : Way) : closed (wayD w) = true := by simp only [wayD, closed, closeds, cl_mvs, Bool.and_self]
theorem cl_ws : ∀ ws : Ws, closede (wsE ws) = true
  | [] => rfl
  | p :: ws => by simp only [List.map_cons, closede, cl_sp, cl_way, cl_ws ws, Bool.and_self]
theorem isSpot_sp {s : Spt} (h0 : 0 ≤ s.1) (h1 : s.1 < 8) : isSpot (spD s) = true := by
  obtain ⟨r, b⟩ := s
  simp only at h0 h1
  have : r = 0 ∨ r = 1 ∨ r = 2 ∨ r = 3 ∨ r = 4 ∨ r = 5 ∨ r = 6 ∨ r = 7 := by omega
  rcases this with rfl | rfl | rfl | rfl | rfl | rfl | rfl | rfl <;> cases b <;> rfl
def cntW (b : Bool) (ws : Ws) : Nat := (ws.filter fun p => p.1.2 == b).length
theorem cntW_snoc (b : Bool) (ws : Ws) (p : Spt × Way) : cntW b (ws ++ [p]) = cntW b ws + (if p.1.2 = b then 1 else 0) := by
  unfold cntW
  rw [List.filter_append, List.length_append]
  congr 1
  by_cases h : p.1.2 = b
  · rw [if_pos h, List.filter_cons_of_pos (by simpa using h)]; rfl
  · rw [if_neg h, List.filter_cons_of_neg (by simpa using h)]; rfl
theorem cntW_le {size : Nat} {ws : Ws} (b : Bool) (nd : (keysW ws).Nodup) (rg : ∀ p ∈ ws, 0 ≤ p.1.1 ∧ p.1.1 < size) : cntW b ws ≤ size := by
  have h1 : ((ws.filter fun p => p.1.2 == b).map (·.1)).Nodup := nd.sublist (List.filter_sublist.map _)
  have h2 := len_nodup (m := (List.range size).map fun i : Nat => ((i : Int), b)) h1 fun x hx => by
    obtain ⟨p, hp, rfl⟩ := List.mem_map.mp hx
    obtain ⟨hp1, hp2⟩ := List.mem_filter.mp hp
    have hr := rg p hp1
    refine List.mem_map.mpr ⟨p.1.1.toNat, List.mem_range.mpr (by omega), ?_⟩
    exact Prod.ext (by show (p.1.1.toNat : Int) = p.1.1; omega) (eq_of_beq hp2).symm
  rw [List.length_map, List.length_map, List.length_range] at h2
  exact h2
theorem lenW_le {size : Nat} {ws : Ws} (nd : (keysW ws).Nodup) (rg : ∀ p ∈ ws, 0 ≤ p.1.1 ∧ p.1.1 < size) : ws.length ≤ 2 * size := by
  have h := len_nodup (m := ((List.range size).map fun i : Nat => ((i : Int), true)) ++ (List.range size).map fun i : Nat => ((i : Int), false)) nd fun x hx => by
    obtain ⟨p, hp, rfl⟩ := List.mem_map.mp hx
    have hr := rg p hp
    obtain ⟨⟨r, b⟩, w⟩ := p
    simp only at hr ⊢
    cases b
    · exact List.mem_append_right _ (List.mem_map.mpr ⟨r.toNat, List.mem_range.mpr (by omega), Prod.ext (by show (r.toNat : Int) = r; omega) rfl⟩)
    · exact List.mem_append_left _ (List.mem_map.mpr ⟨r.toNat, List.mem_range.mpr (by omega), Prod.ext (by show (r.toNat : Int) = r; omega) rfl⟩)
  rw [List.length_map, List.length_append, List.length_map, List.length_map, List.length_range] at h
  omega
structure GrowOk (M : Mc) (size K : Nat) (P : Spt → Way → Prop) (ws0 ws : Ws) : Prop where
  nd : (keysW ws).Nodup
  rg : ∀ p ∈ ws, 0 ≤ p.1.1 ∧ p.1.1 < size
  ps : ∀ p ∈ ws, P p.1 p.2
  lf : ∀ p ∈ ws, p.1.2 = false → p.2.2.length + 1 ≤ K + cntW false ws
  lt : ∀ p ∈ ws, p.1.2 = true → p.2.2.length + 1 ≤ K + 8 + cntW true ws
  pre : ∃ t, ws = ws0 ++ t
theorem GrowOk.len {M : Mc} {size K : Nat} {P : Spt → Way → Prop} {ws0 ws : Ws} (h : GrowOk M size K P ws0 ws) (s8 : size ≤ 8) : ∀ p ∈ ws, p.2.2.length ≤ K + (if p.1.2 then 15 else 7) := by
  intro p hp
  have c1 := cntW_le false h.nd h.rg
  have c2 := cntW_le true h.nd h.rg
  cases q : p.1.2 with
  | false => have := h.lf p hp q; simp only [Bool.false_eq_true, if_false]; omega
  | true => have := h.lt p hp q; simp only [if_true]; omega
theorem cntW_pos {b : Bool} {ws : Ws} {p : Spt × Way} (h : p ∈ ws) (k : p.1.2 = b) : 1 ≤ cntW b ws :=
  List.length_pos_of_mem (List.mem_filter.mpr ⟨h, by simpa using k⟩)
theorem grow_start {M : Mc} {size K : Nat} {P : Spt → Way → Prop} {ws0 : Ws} (nd : (keysW ws0).Nodup) (rg : ∀ p ∈ ws0, 0 ≤ p.1.1 ∧ p.1.1 < size) (ps : ∀ p ∈ ws0, P p.1 p.2) (len : ∀ p ∈ ws0, p.2.2.length ≤ K + (if p.1.2 then 8 else 0)) : GrowOk M size K P ws0 ws0 where
  nd := nd
  rg := rg
  ps := ps
  lf := fun p hp q => by
    have h1 := len p hp
    have h2 := cntW_pos hp q
    rw [q] at h1
    simp only [Bool.false_eq_true, if_false] at h1
    omega
  lt := fun p hp q => by
    have h1 := len p hp
    have h2 := cntW_pos hp q
    rw [q] at h1
    simp only [if_true] at h1
    omega
  pre := ⟨[], by rw [List.append_nil]⟩
theorem grow_add {M : Mc} {size K : Nat} {P : Spt → Way → Prop} {ws0 ws : Ws} (h : GrowOk M size K P ws0 ws) (s8 : size ≤ 8) {sp : Spt} {w : Way} {m : Mv} (hp : (sp, w) ∈ ws) (ht : 0 ≤ m.t ∧ m.t < size) (hn : M.go sp m ∉ keysW ws) (hP : P (M.go sp m) (w.1, w.2 ++ [m])) :
    GrowOk M size K P ws0 (ws ++ [(M.go sp m, (w.1, w.2 ++ [m]))]) where
  nd := by
    rw [keysW, List.map_append, List.nodup_append]
    refine ⟨h.nd, by simp, fun a ha b hb => ?_⟩
    simp only [List.map_cons, List.map_nil, List.mem_singleton] at hb
    exact fun e => hn (hb ▸ e ▸ ha)
  rg := fun p hp' => by
    rcases List.mem_append.mp hp' with q | q
    · exact h.rg p q
    · rw [List.mem_singleton.mp q]; exact ht
  ps := fun p hp' => by
    rcases List.mem_append.mp hp' with q | q
    · exact h.ps p q
    · rw [List.mem_singleton.mp q]; exact hP
  lf := fun p hp' q => by
    rw [cntW_snoc]
    rcases List.mem_append.mp hp' with k | k
    · have := h.lf p k q; omega
    · have e := List.mem_singleton.mp k
      subst e
      simp only at q
      have hs : sp.2 = false := by
        simp only [Mc.go, Bool.or_eq_false_iff] at q; exact q.1
      have := h.lf _ hp hs
      simp only at this
      rw [if_pos q]
      simp only [List.length_append, List.length_singleton]
      omega
  lt := fun p hp' q => by
    rw [cntW_snoc]
    rcases List.mem_append.mp hp' with k | k
    · have := h.lt p k q; omega
    · have e := List.mem_singleton.mp k
      subst e
      simp only at q
      rw [if_pos q]
      simp only [List.length_append, List.length_singleton]
      cases hs : sp.2 with
      | true =>
        have := h.lt _ hp hs
        simp only at this
        omega
      | false =>
        have := h.lf _ hp hs
        have c1 := cntW_le false h.nd h.rg
        simp only at this
        omega
  pre := by
    obtain ⟨t, e⟩ := h.pre
    exact ⟨t ++ [(M.go sp m, (w.1, w.2 ++ [m]))], by rw [e, List.append_assoc]⟩
theorem keysW_snoc (ws : Ws) (p : Spt × Way) : keysW (ws ++ [p]) = keysW ws ++ [p.1] := by rw [keysW, List.map_append]; rfl
theorem getW_isSome {α : Type} {ws : List (Spt × α)} {s : Spt} : (getW ws s).isSome = decide (s ∈ ws.map (·.1)) := by
  by_cases h : s ∈ ws.map (·.1)
  · rw [decide_eq_true h]
    cases q : getW ws s with
    | some _ => rfl
    | none => exact absurd h (getW_none.mp q)
  · rw [decide_eq_false h, getW_none.mpr h]; rfl
theorem op_nin_sp {ws : Ws} {s : Spt} {y : D} {μ : Mu} (h : vw μ y = .dic (wsE ws)) : opNin (spD s) y μ = .ok (.bl (!decide (s ∈ keysW ws))) μ := by
  unfold opNin isIn
  rw [h]
  simp only [wsE, kfits_sp wayD ws s, dget_sp wayD ws s, Option.isSome_map, getW_isSome, if_true]
theorem getW_of {ws : Ws} (nd : (keysW ws).Nodup) {s : Spt} {w : Way} (h : (s, w) ∈ ws) : getW ws s = some w := by
  induction ws with
  | nil => cases h
  | cons p ws ih =>
    rw [keysW, List.map_cons, List.nodup_cons] at nd
    unfold getW
    rw [List.find?_cons]
    by_cases e : p.1 = s
    · simp only [e, decide_true, Option.map_some]
      rcases List.mem_cons.mp h with q | q
      · rw [← q]
      · exact absurd (List.mem_map.mpr ⟨_, q, e.symm⟩) nd.1
    · simp only [e, decide_false]
      rcases List.mem_cons.mp h with q | q
      · exact absurd (by rw [← q]) e
      · exact ih nd.2 q
theorem op_ix_sp {ws : Ws} (nd : (keysW ws).Nodup) {s : Spt} {w : Way} (hw : (s, w) ∈ ws) {y : D} {μ : Mu} (h : vw μ y = .dic (wsE ws)) : opIx y (spD s) μ = .ok (wayD w) μ := by
  unfold opIx
  rw [h]
  simp only [wsE, kfits_sp wayD ws s, dget_sp wayD ws s, getW_of nd hw, Option.map_some, if_true, Res.of_some]
theorem set_sp {ws : Ws} {s : Spt} (w : Way) (hn : s ∉ keysW ws) (hl : ws.length ≤ 1000) {n : Nat} {μ : Mu} (h : μ[n]? = some (.dic (wsE ws))) : setIxD (.ref n) (spD s) (wayD w) μ = some (μ.set n (.dic (wsE (ws ++ [(s, w)])))) := by
  unfold setIxD
  simp only [h]
  rw [kfits_sp wayD ws s, dput_sp wayD w hn, if_pos]
  rw [Bool.true_and, decide_eq_true_eq, List.length_map, sizeLine_eq]
  omega
theorem way_add {w : Way} {m : Mv} (hl : w.2.length ≤ 100000) (μ : Mu) : opAdd false (wayD w) (.lst [mvD m]) μ = .ok (wayD (w.1, w.2 ++ [m])) μ := by
  unfold opAdd
  simp only [wayD, vw_l]
  rw [mkL_f (sz (by simp; omega))]
  simp
theorem op_ix_r {n : Nat} {xs : List D} {i : Int} {d : D} {μ : Mu} (h : μ[n]? = some (.lst xs)) (k : atI xs i = some d) : opIx (.ref n) (.int i) μ = .ok d μ := by
  unfold opIx
  simp only [vw, h, seqL, k, Res.of_some]
theorem bi_len_r {n : Nat} {xs : List D} {μ : Mu} (h : μ[n]? = some (.lst xs)) : biLen [.ref n] μ = .ok (.int xs.length) μ := by
  simp only [biLen, vw, h, seqL]
theorem me_app {n : Nat} {xs : List D} {d : D} {μ : Mu} (h : μ[n]? = some (.lst xs)) (hl : xs.length ≤ 1000000) : meApp (.ref n) [d] μ = .ok .non (μ.set n (.lst (xs ++ [d]))) := by
  unfold meApp
  simp only [h]
  rw [if_pos (by rw [sizeLine_eq]; omega)]
theorem is_lst_r {n : Nat} {xs : List D} {μ : Mu} (h : μ[n]? = some (.lst xs)) : isLst (.ref n) μ = true := by
  simp only [isLst, vw, h, seqL, Option.isSome_some]
end SB
set_option Elab.async false
set_option linter.all false
set_option maxRecDepth 10000
namespace SB
open PySem L2
theorem f_spread {A : D} {M : Mc} {size : Nat} (h : McD A M size) {ws0 : Ws} {K : Nat} {P : Spt → Way → Prop} (hK : K ≤ 10000) (g0 : GrowOk M size K P ws0 ws0)
    (stp : ∀ sp w m, P sp w → m ∈ M.kn → m.h = sp.1 → getS M.sg m.d = none → P (M.go sp m) (w.1, w.2 ++ [m])) :
    ∃ ws, GrowOk M size K P ws0 ws ∧ M.Closed (· ∈ keysW ws) ∧ ∀ μ, Φ_spread [A, .dic (wsE ws0)] μ = .ok (.dic (wsE ws)) μ := by
  suffices hh : ∃ d, (∃ ws, GrowOk M size K P ws0 ws ∧ M.Closed (· ∈ keysW ws) ∧ d = .dic (wsE ws)) ∧ closed d = true ∧ ∀ μ, Φ_spread [A, .dic (wsE ws0)] μ = .ok d μ by
    obtain ⟨d, ⟨ws, h1, h2, rfl⟩, _, k⟩ := hh
    exact ⟨ws, h1, h2, k⟩
  refine callP_wp _ (by simp only [closeds, closed, h.cl, cl_ws, Bool.and_self]) ?_
  show WP _ _ _ _ (m_spread [some A, some (.dic (wsE ws0)), none, none, none, none, none, none, none] [])
  unfold m_spread
  have s8 := h.s8
  refine wp_seq (wp_set (d := .ref 0) (μ' := [.dic (wsE ws0)]) ?_ (by (simp only [List.set_cons_succ, List.set_cons_zero] <;> try rfl)) ?_)
  · unfold dDictN
    (simp only [ev_cst, ev_var, ev_bin, ev_call, ev_nil, ev_cons, ev_bool, ev_asB, ev_not, ev_and, ev_or, ev_tup, ev_lst, ev_yes, ev_chain, ev_andV2, ev_orV, orB_bb, orB_t, orB_f, andB_bb, andB_t, andB_f, ite_andB, ite_orB, op_is, op_isn, ev_bor, ev_borT, borT_ok, bor_b, bor_i, bor_s, bor_n, bor1, bor2, bora1, bora2, ev_notV, ev_ifE, ev_frzT, ev_met, ev_fld, ev_un, un_neg, ev_dnil, ev_methC, ev_iseq, ev_isi, List.getElem?_cons_succ, List.getElem?_cons_zero, List.set_cons_succ, List.set_cons_zero, Res.bind_ok, Res.of_some, vw_i, vw_b, vw_s, vw_n, vw_t, vw_l, vw_d, vw_k, vw_c, it_l, it_t, it_s, op_add_i, op_sub_i, op_lt_i, op_le_i, op_gt_i, op_ge_i, op_eq_i, op_ne_i, op_eq_b, op_ne_b, bi_len_l, bi_len_t, bi_len_d, bi_len_c, op_ix_0, op_ix_1, op_ix_2, tp1, tp2, tp3, tp4, tp5, mk0, mk1, mk2, mk3, mk4, mk5, if_true, if_false, Bool.false_eq_true, Bool.not_true, Bool.not_false, Bool.true_and, Bool.false_and, Bool.true_or, Bool.false_or, bt_one, bt_tup, bt_lst, sa_nil, sa_cons, wipeD, List.length_map] <;> try rfl)
    have : ((wsE ws0).all fun p => isSpot p.1) = true := by
      rw [List.all_eq_true]
      intro p hp
      obtain ⟨q, hq, rfl⟩ := List.mem_map.mp hp
      have := g0.rg q hq
      exact isSpot_sp this.1 (by omega)
    rw [if_pos this]; rfl
  have e1 : (wsE ws0).map (·.1) = (keysW ws0).map spD := by simp [List.map_map]
  refine wp_seq (wp_set (d := .ref 1) (μ' := [.dic (wsE ws0), .lst ((keysW ws0).map spD)]) ?_ (by (simp only [List.set_cons_succ, List.set_cons_zero] <;> try rfl)) ?_)
  · have hl := lenW_le g0.nd g0.rg
    unfold dListKeys
    (simp only [ev_cst, ev_var, ev_bin, ev_call, ev_nil, ev_cons, ev_bool, ev_asB, ev_not, ev_and, ev_or, ev_tup, ev_lst, ev_yes, ev_chain, ev_andV2, ev_orV, orB_bb, orB_t, orB_f, andB_bb, andB_t, andB_f, ite_andB, ite_orB, op_is, op_isn, ev_bor, ev_borT, borT_ok, bor_b, bor_i, bor_s, bor_n, bor1, bor2, bora1, bora2, ev_notV, ev_ifE, ev_frzT, ev_met, ev_fld, ev_un, un_neg, ev_dnil, ev_methC, ev_iseq, ev_isi, List.getElem?_cons_succ, List.getElem?_cons_zero, List.set_cons_succ, List.set_cons_zero, Res.bind_ok, Res.of_some, vw_i, vw_b, vw_s, vw_n, vw_t, vw_l, vw_d, vw_k, vw_c, it_l, it_t, it_s, op_add_i, op_sub_i, op_lt_i, op_le_i, op_gt_i, op_ge_i, op_eq_i, op_ne_i, op_eq_b, op_ne_b, bi_len_l, bi_len_t, bi_len_d, bi_len_c, op_ix_0, op_ix_1, op_ix_2, tp1, tp2, tp3, tp4, tp5, mk0, mk1, mk2, mk3, mk4, mk5, if_true, if_false, Bool.false_eq_true, Bool.not_true, Bool.not_false, Bool.true_and, Bool.false_and, Bool.true_or, Bool.false_or, bt_one, bt_tup, bt_lst, sa_nil, sa_cons, wipeD, List.length_map, e1] <;> try rfl)
    rw [mkL_t (sz (by rw [List.length_map, List.length_map]; omega))]; rfl
  refine wp_seq (wp_set (by (simp only [ev_cst, ev_var, ev_bin, ev_call, ev_nil, ev_cons, ev_bool, ev_asB, ev_not, ev_and, ev_or, ev_tup, ev_lst, ev_yes, ev_chain, ev_andV2, ev_orV, orB_bb, orB_t, orB_f, andB_bb, andB_t, andB_f, ite_andB, ite_orB, op_is, op_isn, ev_bor, ev_borT, borT_ok, bor_b, bor_i, bor_s, bor_n, bor1, bor2, bora1, bora2, ev_notV, ev_ifE, ev_frzT, ev_met, ev_fld, ev_un, un_neg, ev_dnil, ev_methC, ev_iseq, ev_isi, List.getElem?_cons_succ, List.getElem?_cons_zero, List.set_cons_succ, List.set_cons_zero, Res.bind_ok, Res.of_some, vw_i, vw_b, vw_s, vw_n, vw_t, vw_l, vw_d, vw_k, vw_c, it_l, it_t, it_s, op_add_i, op_sub_i, op_lt_i, op_le_i, op_gt_i, op_ge_i, op_eq_i, op_ne_i, op_eq_b, op_ne_b, bi_len_l, bi_len_t, bi_len_d, bi_len_c, op_ix_0, op_ix_1, op_ix_2, tp1, tp2, tp3, tp4, tp5, mk0, mk1, mk2, mk3, mk4, mk5, if_true, if_false, Bool.false_eq_true, Bool.not_true, Bool.not_false, Bool.true_and, Bool.false_and, Bool.true_or, Bool.false_or, bt_one, bt_tup, bt_lst, sa_nil, sa_cons, wipeD, List.length_map] <;> try rfl)) (by (simp only [List.set_cons_succ, List.set_cons_zero] <;> try rfl)) ?_)
  refine wp_seq (wp_while (fun k ρ μ => ∃ ws x5 x6 x7 x8, μ = [.dic (wsE ws), .lst ((keysW ws).map spD)] ∧ ρ = [some A, some (.dic (wsE ws0)), some (.ref 0), some (.ref 1), some (.int k), x5, x6, x7, x8] ∧ GrowOk M size K P ws0 ws ∧ k ≤ ws.length ∧
    ∀ (i : Nat) p, i < k → ws[i]? = some p → ∀ m ∈ M.kn, m.h = p.1.1 → getS M.sg m.d = none → M.go p.1 m ∈ keysW ws) ?_ ?_ ?_)
  · exact ⟨ws0, _, _, _, _, rfl, rfl, g0, Nat.zero_le _, fun i p hi => absurd hi (Nat.not_lt_zero _)⟩
  · rintro k ρ μ ⟨ws, _, _, _, _, _, _, hg, hk, _⟩
    have := lenW_le hg.nd hg.rg
    omega
  rintro k ρ μ ⟨ws, x5, x6, x7, x8, rfl, rfl, hg, hk, hcl⟩
  have bl : biLen [.ref 1] [.dic (wsE ws), .lst ((keysW ws).map spD)] = .ok (.int ws.length) [.dic (wsE ws), .lst ((keysW ws).map spD)] := by
    rw [bi_len_r (xs := (keysW ws).map spD) rfl]; simp
  refine ⟨decide ((k : Int) < (ws.length : Int)), _, by (simp only [ev_cst, ev_var, ev_bin, ev_call, ev_nil, ev_cons, ev_bool, ev_asB, ev_not, ev_and, ev_or, ev_tup, ev_lst, ev_yes, ev_chain, ev_andV2, ev_orV, orB_bb, orB_t, orB_f, andB_bb, andB_t, andB_f, ite_andB, ite_orB, op_is, op_isn, ev_bor, ev_borT, borT_ok, bor_b, bor_i, bor_s, bor_n, bor1, bor2, bora1, bora2, ev_notV, ev_ifE, ev_frzT, ev_met, ev_fld, ev_un, un_neg, ev_dnil, ev_methC, ev_iseq, ev_isi, List.getElem?_cons_succ, List.getElem?_cons_zero, List.set_cons_succ, List.set_cons_zero, Res.bind_ok, Res.of_some, vw_i, vw_b, vw_s, vw_n, vw_t, vw_l, vw_d, vw_k, vw_c, it_l, it_t, it_s, op_add_i, op_sub_i, op_lt_i, op_le_i, op_gt_i, op_ge_i, op_eq_i, op_ne_i, op_eq_b, op_ne_b, bi_len_l, bi_len_t, bi_len_d, bi_len_c, op_ix_0, op_ix_1, op_ix_2, tp1, tp2, tp3, tp4, tp5, mk0, mk1, mk2, mk3, mk4, mk5, if_true, if_false, Bool.false_eq_true, Bool.not_true, Bool.not_false, Bool.true_and, Bool.false_and, Bool.true_or, Bool.false_or, bt_one, bt_tup, bt_lst, sa_nil, sa_cons, wipeD, List.length_map, bl] <;> try rfl), fun hb => ?_, fun hb => ?_⟩
  · have hlt : k < ws.length := by have := of_decide_eq_true hb; omega
    obtain ⟨⟨sp, w⟩, hsp⟩ : ∃ p, ws[k]? = some p := ⟨_, List.getElem?_eq_getElem hlt⟩
    have hmem : (sp, w) ∈ ws := List.mem_of_getElem? hsp
    have hr := hg.rg _ hmem
    simp only at hr
    have ix : ∀ ws', (∃ t, ws' = ws ++ t) → opIx (.ref 1) (.int k) [.dic (wsE ws'), .lst ((keysW ws').map spD)] = .ok (spD sp) [.dic (wsE ws'), .lst ((keysW ws').map spD)] := by
      rintro ws' ⟨t, rfl⟩
      refine op_ix_r rfl ?_
      rw [atI_nat, List.getElem?_map, List.getElem?_map, List.getElem?_append_left hlt, hsp]; rfl
    refine wp_seq (wp_asg (by (simp only [ev_cst, ev_var, ev_bin, ev_call, ev_nil, ev_cons, ev_bool, ev_asB, ev_not, ev_and, ev_or, ev_tup, ev_lst, ev_yes, ev_chain, ev_andV2, ev_orV, orB_bb, orB_t, orB_f, andB_bb, andB_t, andB_f, ite_andB, ite_orB, op_is, op_isn, ev_bor, ev_borT, borT_ok, bor_b, bor_i, bor_s, bor_n, bor1, bor2, bora1, bora2, ev_notV, ev_ifE, ev_frzT, ev_met, ev_fld, ev_un, un_neg, ev_dnil, ev_methC, ev_iseq, ev_isi, List.getElem?_cons_succ, List.getElem?_cons_zero, List.set_cons_succ, List.set_cons_zero, Res.bind_ok, Res.of_some, vw_i, vw_b, vw_s, vw_n, vw_t, vw_l, vw_d, vw_k, vw_c, it_l, it_t, it_s, op_add_i, op_sub_i, op_lt_i, op_le_i, op_gt_i, op_ge_i, op_eq_i, op_ne_i, op_eq_b, op_ne_b, bi_len_l, bi_len_t, bi_len_d, bi_len_c, op_ix_0, op_ix_1, op_ix_2, tp1, tp2, tp3, tp4, tp5, mk0, mk1, mk2, mk3, mk4, mk5, if_true, if_false, Bool.false_eq_true, Bool.not_true, Bool.not_false, Bool.true_and, Bool.false_and, Bool.true_or, Bool.false_or, bt_one, bt_tup, bt_lst, sa_nil, sa_cons, wipeD, List.length_map, ix ws ⟨[], by rw [List.append_nil]⟩, spD] <;> try rfl)) (by (simp only [bt_one, bt_tup, bt_lst, sa_nil, sa_cons, List.set_cons_succ, List.set_cons_zero] <;> try rfl)) ?_)
    refine wp_seq (wp_for (e := mvD) (M.kn.filter fun m => decide (m.h = sp.1)) (fun done ρ μ => ∃ ws' x7 x8, μ = [.dic (wsE ws'), .lst ((keysW ws').map spD)] ∧ ρ = [some A, some (.dic (wsE ws0)), some (.ref 0), some (.ref 1), some (.int k), some (.int sp.1), some (.bl sp.2), x7, x8] ∧ GrowOk M size K P ws0 ws' ∧ (∃ t, ws' = ws ++ t) ∧
      ∀ m ∈ done, getS M.sg m.d = none → M.go sp m ∈ keysW ws') (by (simp only [ev_cst, ev_var, ev_bin, ev_call, ev_nil, ev_cons, ev_bool, ev_asB, ev_not, ev_and, ev_or, ev_tup, ev_lst, ev_yes, ev_chain, ev_andV2, ev_orV, orB_bb, orB_t, orB_f, andB_bb, andB_t, andB_f, ite_andB, ite_orB, op_is, op_isn, ev_bor, ev_borT, borT_ok, bor_b, bor_i, bor_s, bor_n, bor1, bor2, bora1, bora2, ev_notV, ev_ifE, ev_frzT, ev_met, ev_fld, ev_un, un_neg, ev_dnil, ev_methC, ev_iseq, ev_isi, List.getElem?_cons_succ, List.getElem?_cons_zero, List.set_cons_succ, List.set_cons_zero, Res.bind_ok, Res.of_some, vw_i, vw_b, vw_s, vw_n, vw_t, vw_l, vw_d, vw_k, vw_c, it_l, it_t, it_s, op_add_i, op_sub_i, op_lt_i, op_le_i, op_gt_i, op_ge_i, op_eq_i, op_ne_i, op_eq_b, op_ne_b, bi_len_l, bi_len_t, bi_len_d, bi_len_c, op_ix_0, op_ix_1, op_ix_2, tp1, tp2, tp3, tp4, tp5, mk0, mk1, mk2, mk3, mk4, mk5, if_true, if_false, Bool.false_eq_true, Bool.not_true, Bool.not_false, Bool.true_and, Bool.false_and, Bool.true_or, Bool.false_or, bt_one, bt_tup, bt_lst, sa_nil, sa_cons, wipeD, List.length_map, h.from_ sp.1 hr.1 hr.2] <;> try rfl)) ⟨ws, _, _, rfl, rfl, hg, ⟨[], by rw [List.append_nil]⟩, fun m hm => absurd hm List.not_mem_nil⟩ ?_ ?_)
    · rintro done m rest ρ μ hq ⟨ws', y7, y8, rfl, rfl, hg', ⟨t, rfl⟩, hd⟩
      refine ⟨_, rfl, ?_⟩
      have hmm : m ∈ M.kn.filter fun m => decide (m.h = sp.1) := by rw [hq]; simp
      obtain ⟨hm, hh⟩ := List.mem_filter.mp hmm
      have hh := of_decide_eq_true hh
      have hmo := h.kno m hm
      show WP _ _ _ _ (sIf _ _ _ [some A, some (.dic (wsE ws0)), some (.ref 0), some (.ref 1), some (.int k), some (.int sp.1), some (.bl sp.2), some (mvD m), y8] _)
      refine wp_if (b := (getS M.sg m.d).isNone) (by (simp only [ev_cst, ev_var, ev_bin, ev_call, ev_nil, ev_cons, ev_bool, ev_asB, ev_not, ev_and, ev_or, ev_tup, ev_lst, ev_yes, ev_chain, ev_andV2, ev_orV, orB_bb, orB_t, orB_f, andB_bb, andB_t, andB_f, ite_andB, ite_orB, op_is, op_isn, ev_bor, ev_borT, borT_ok, bor_b, bor_i, bor_s, bor_n, bor1, bor2, bora1, bora2, ev_notV, ev_ifE, ev_frzT, ev_met, ev_fld, ev_un, un_neg, ev_dnil, ev_methC, ev_iseq, ev_isi, List.getElem?_cons_succ, List.getElem?_cons_zero, List.set_cons_succ, List.set_cons_zero, Res.bind_ok, Res.of_some, vw_i, vw_b, vw_s, vw_n, vw_t, vw_l, vw_d, vw_k, vw_c, it_l, it_t, it_s, op_add_i, op_sub_i, op_lt_i, op_le_i, op_gt_i, op_ge_i, op_eq_i, op_ne_i, op_eq_b, op_ne_b, bi_len_l, bi_len_t, bi_len_d, bi_len_c, op_ix_0, op_ix_1, op_ix_2, tp1, tp2, tp3, tp4, tp5, mk0, mk1, mk2, mk3, mk4, mk5, if_true, if_false, Bool.false_eq_true, Bool.not_true, Bool.not_false, Bool.true_and, Bool.false_and, Bool.true_or, Bool.false_or, bt_one, bt_tup, bt_lst, sa_nil, sa_cons, wipeD, List.length_map, h.ic, mv_ix1, h.sign_of, isNon_opt] <;> try rfl)) (fun hb => ?_) (fun hb => ?_)
      · have hn : getS M.sg m.d = none := by simpa using hb
        refine wp_seq (wp_set (d := spD (M.go sp m)) (by (simp only [ev_cst, ev_var, ev_bin, ev_call, ev_nil, ev_cons, ev_bool, ev_asB, ev_not, ev_and, ev_or, ev_tup, ev_lst, ev_yes, ev_chain, ev_andV2, ev_orV, orB_bb, orB_t, orB_f, andB_bb, andB_t, andB_f, ite_andB, ite_orB, op_is, op_isn, ev_bor, ev_borT, borT_ok, bor_b, bor_i, bor_s, bor_n, bor1, bor2, bora1, bora2, ev_notV, ev_ifE, ev_frzT, ev_met, ev_fld, ev_un, un_neg, ev_dnil, ev_methC, ev_iseq, ev_isi, List.getElem?_cons_succ, List.getElem?_cons_zero, List.set_cons_succ, List.set_cons_zero, Res.bind_ok, Res.of_some, vw_i, vw_b, vw_s, vw_n, vw_t, vw_l, vw_d, vw_k, vw_c, it_l, it_t, it_s, op_add_i, op_sub_i, op_lt_i, op_le_i, op_gt_i, op_ge_i, op_eq_i, op_ne_i, op_eq_b, op_ne_b, bi_len_l, bi_len_t, bi_len_d, bi_len_c, op_ix_0, op_ix_1, op_ix_2, tp1, tp2, tp3, tp4, tp5, mk0, mk1, mk2, mk3, mk4, mk5, if_true, if_false, Bool.false_eq_true, Bool.not_true, Bool.not_false, Bool.true_and, Bool.false_and, Bool.true_or, Bool.false_or, bt_one, bt_tup, bt_lst, sa_nil, sa_cons, wipeD, List.length_map, h.ic, mv_ix1, mv_ix2, h.is_fault m.d hmo] <;> try rfl)) (by (simp only [List.set_cons_succ, List.set_cons_zero] <;> try rfl)) ?_)
        refine wp_if (b := !decide (M.go sp m ∈ keysW (ws ++ t))) (by (simp only [ev_cst, ev_var, ev_bin, ev_call, ev_nil, ev_cons, ev_bool, ev_asB, ev_not, ev_and, ev_or, ev_tup, ev_lst, ev_yes, ev_chain, ev_andV2, ev_orV, orB_bb, orB_t, orB_f, andB_bb, andB_t, andB_f, ite_andB, ite_orB, op_is, op_isn, ev_bor, ev_borT, borT_ok, bor_b, bor_i, bor_s, bor_n, bor1, bor2, bora1, bora2, ev_notV, ev_ifE, ev_frzT, ev_met, ev_fld, ev_un, un_neg, ev_dnil, ev_methC, ev_iseq, ev_isi, List.getElem?_cons_succ, List.getElem?_cons_zero, List.set_cons_succ, List.set_cons_zero, Res.bind_ok, Res.of_some, vw_i, vw_b, vw_s, vw_n, vw_t, vw_l, vw_d, vw_k, vw_c, it_l, it_t, it_s, op_add_i, op_sub_i, op_lt_i, op_le_i, op_gt_i, op_ge_i, op_eq_i, op_ne_i, op_eq_b, op_ne_b, bi_len_l, bi_len_t, bi_len_d, bi_len_c, op_ix_0, op_ix_1, op_ix_2, tp1, tp2, tp3, tp4, tp5, mk0, mk1, mk2, mk3, mk4, mk5, if_true, if_false, Bool.false_eq_true, Bool.not_true, Bool.not_false, Bool.true_and, Bool.false_and, Bool.true_or, Bool.false_or, bt_one, bt_tup, bt_lst, sa_nil, sa_cons, wipeD, List.length_map, op_nin_sp (ws := ws ++ t) (y := .ref 0) (μ := [.dic (wsE (ws ++ t)), .lst ((keysW (ws ++ t)).map spD)]) rfl] <;> try rfl)) (fun hb => ?_) (fun hb => ?_)
        · have hni : M.go sp m ∉ keysW (ws ++ t) := by simpa using hb
          have hmem' : (sp, w) ∈ ws ++ t := List.mem_append_left _ hmem
          have hln := hg'.len s8 _ hmem'
          have hll := lenW_le hg'.nd hg'.rg
          have hwl : w.2.length ≤ 100000 := by
            simp only at hln
            split at hln <;> omega
          refine wp_seq (wp_sub (d := wayD (w.1, w.2 ++ [m])) (x := .ref 0) (y := spD (M.go sp m)) (by (simp only [ev_cst, ev_var, ev_bin, ev_call, ev_nil, ev_cons, ev_bool, ev_asB, ev_not, ev_and, ev_or, ev_tup, ev_lst, ev_yes, ev_chain, ev_andV2, ev_orV, orB_bb, orB_t, orB_f, andB_bb, andB_t, andB_f, ite_andB, ite_orB, op_is, op_isn, ev_bor, ev_borT, borT_ok, bor_b, bor_i, bor_s, bor_n, bor1, bor2, bora1, bora2, ev_notV, ev_ifE, ev_frzT, ev_met, ev_fld, ev_un, un_neg, ev_dnil, ev_methC, ev_iseq, ev_isi, List.getElem?_cons_succ, List.getElem?_cons_zero, List.set_cons_succ, List.set_cons_zero, Res.bind_ok, Res.of_some, vw_i, vw_b, vw_s, vw_n, vw_t, vw_l, vw_d, vw_k, vw_c, it_l, it_t, it_s, op_add_i, op_sub_i, op_lt_i, op_le_i, op_gt_i, op_ge_i, op_eq_i, op_ne_i, op_eq_b, op_ne_b, bi_len_l, bi_len_t, bi_len_d, bi_len_c, op_ix_0, op_ix_1, op_ix_2, tp1, tp2, tp3, tp4, tp5, mk0, mk1, mk2, mk3, mk4, mk5, if_true, if_false, Bool.false_eq_true, Bool.not_true, Bool.not_false, Bool.true_and, Bool.false_and, Bool.true_or, Bool.false_or, bt_one, bt_tup, bt_lst, sa_nil, sa_cons, wipeD, List.length_map, ix _ ⟨t, rfl⟩, op_ix_sp hg'.nd hmem' (y := .ref 0) (μ := [.dic (wsE (ws ++ t)), .lst ((keysW (ws ++ t)).map spD)]) rfl, way_add hwl] <;> try rfl)) (by (simp only [ev_cst, ev_var, ev_bin, ev_call, ev_nil, ev_cons, ev_bool, ev_asB, ev_not, ev_and, ev_or, ev_tup, ev_lst, ev_yes, ev_chain, ev_andV2, ev_orV, orB_bb, orB_t, orB_f, andB_bb, andB_t, andB_f, ite_andB, ite_orB, op_is, op_isn, ev_bor, ev_borT, borT_ok, bor_b, bor_i, bor_s, bor_n, bor1, bor2, bora1, bora2, ev_notV, ev_ifE, ev_frzT, ev_met, ev_fld, ev_un, un_neg, ev_dnil, ev_methC, ev_iseq, ev_isi, List.getElem?_cons_succ, List.getElem?_cons_zero, List.set_cons_succ, List.set_cons_zero, Res.bind_ok, Res.of_some, vw_i, vw_b, vw_s, vw_n, vw_t, vw_l, vw_d, vw_k, vw_c, it_l, it_t, it_s, op_add_i, op_sub_i, op_lt_i, op_le_i, op_gt_i, op_ge_i, op_eq_i, op_ne_i, op_eq_b, op_ne_b, bi_len_l, bi_len_t, bi_len_d, bi_len_c, op_ix_0, op_ix_1, op_ix_2, tp1, tp2, tp3, tp4, tp5, mk0, mk1, mk2, mk3, mk4, mk5, if_true, if_false, Bool.false_eq_true, Bool.not_true, Bool.not_false, Bool.true_and, Bool.false_and, Bool.true_or, Bool.false_or, bt_one, bt_tup, bt_lst, sa_nil, sa_cons, wipeD, List.length_map] <;> try rfl)) (by (simp only [ev_cst, ev_var, ev_bin, ev_call, ev_nil, ev_cons, ev_bool, ev_asB, ev_not, ev_and, ev_or, ev_tup, ev_lst, ev_yes, ev_chain, ev_andV2, ev_orV, orB_bb, orB_t, orB_f, andB_bb, andB_t, andB_f, ite_andB, ite_orB, op_is, op_isn, ev_bor, ev_borT, borT_ok, bor_b, bor_i, bor_s, bor_n, bor1, bor2, bora1, bora2, ev_notV, ev_ifE, ev_frzT, ev_met, ev_fld, ev_un, un_neg, ev_dnil, ev_methC, ev_iseq, ev_isi, List.getElem?_cons_succ, List.getElem?_cons_zero, List.set_cons_succ, List.set_cons_zero, Res.bind_ok, Res.of_some, vw_i, vw_b, vw_s, vw_n, vw_t, vw_l, vw_d, vw_k, vw_c, it_l, it_t, it_s, op_add_i, op_sub_i, op_lt_i, op_le_i, op_gt_i, op_ge_i, op_eq_i, op_ne_i, op_eq_b, op_ne_b, bi_len_l, bi_len_t, bi_len_d, bi_len_c, op_ix_0, op_ix_1, op_ix_2, tp1, tp2, tp3, tp4, tp5, mk0, mk1, mk2, mk3, mk4, mk5, if_true, if_false, Bool.false_eq_true, Bool.not_true, Bool.not_false, Bool.true_and, Bool.false_and, Bool.true_or, Bool.false_or, bt_one, bt_tup, bt_lst, sa_nil, sa_cons, wipeD, List.length_map] <;> try rfl)) (set_sp _ hni (by omega) rfl) ?_)
          simp only [List.set_cons_zero]
          refine wp_expr (d := .non) (μ' := [.dic (wsE (ws ++ t ++ [(M.go sp m, (w.1, w.2 ++ [m]))])), .lst ((keysW (ws ++ t ++ [(M.go sp m, (w.1, w.2 ++ [m]))])).map spD)]) ?_ ?_
          · have ml := me_app (n := 1) (xs := (keysW (ws ++ t)).map spD) (d := spD (M.go sp m)) (μ := [.dic (wsE (ws ++ t ++ [(M.go sp m, (w.1, w.2 ++ [m]))])), .lst ((keysW (ws ++ t)).map spD)]) rfl (by rw [List.length_map, List.length_map]; omega)
            (simp only [ev_cst, ev_var, ev_bin, ev_call, ev_nil, ev_cons, ev_bool, ev_asB, ev_not, ev_and, ev_or, ev_tup, ev_lst, ev_yes, ev_chain, ev_andV2, ev_orV, orB_bb, orB_t, orB_f, andB_bb, andB_t, andB_f, ite_andB, ite_orB, op_is, op_isn, ev_bor, ev_borT, borT_ok, bor_b, bor_i, bor_s, bor_n, bor1, bor2, bora1, bora2, ev_notV, ev_ifE, ev_frzT, ev_met, ev_fld, ev_un, un_neg, ev_dnil, ev_methC, ev_iseq, ev_isi, List.getElem?_cons_succ, List.getElem?_cons_zero, List.set_cons_succ, List.set_cons_zero, Res.bind_ok, Res.of_some, vw_i, vw_b, vw_s, vw_n, vw_t, vw_l, vw_d, vw_k, vw_c, it_l, it_t, it_s, op_add_i, op_sub_i, op_lt_i, op_le_i, op_gt_i, op_ge_i, op_eq_i, op_ne_i, op_eq_b, op_ne_b, bi_len_l, bi_len_t, bi_len_d, bi_len_c, op_ix_0, op_ix_1, op_ix_2, tp1, tp2, tp3, tp4, tp5, mk0, mk1, mk2, mk3, mk4, mk5, if_true, if_false, Bool.false_eq_true, Bool.not_true, Bool.not_false, Bool.true_and, Bool.false_and, Bool.true_or, Bool.false_or, bt_one, bt_tup, bt_lst, sa_nil, sa_cons, wipeD, List.length_map, is_lst_r (n := 1) (xs := (keysW (ws ++ t)).map spD) (μ := [.dic (wsE (ws ++ t ++ [(M.go sp m, (w.1, w.2 ++ [m]))])), .lst ((keysW (ws ++ t)).map spD)]) rfl, ml] <;> try rfl)
            rw [keysW_snoc, List.map_append]; rfl
          refine ⟨_, _, _, rfl, rfl, grow_add hg' s8 hmem' (h.knt m hm) hni (stp sp w m (hg.ps _ hmem) hm hh hn), ⟨t ++ [(M.go sp m, (w.1, w.2 ++ [m]))], by rw [List.append_assoc]⟩, fun m' hm' hn' => ?_⟩
          rw [keysW_snoc]
          rcases List.mem_append.mp hm' with q | q
          · exact List.mem_append_left _ (hd m' q hn')
          · rw [List.mem_singleton.mp q]; exact List.mem_append_right _ (List.mem_singleton.mpr rfl)
        · have hni : M.go sp m ∈ keysW (ws ++ t) := by simpa using hb
          refine wp_skip ⟨ws ++ t, _, _, rfl, rfl, hg', ⟨t, rfl⟩, fun m' hm' hn' => ?_⟩
          rcases List.mem_append.mp hm' with q | q
          · exact hd m' q hn'
          · rw [List.mem_singleton.mp q]; exact hni
      · refine wp_skip ⟨ws ++ t, _, _, rfl, rfl, hg', ⟨t, rfl⟩, fun m' hm' hn' => ?_⟩
        rcases List.mem_append.mp hm' with q | q
        · exact hd m' q hn'
        · rw [List.mem_singleton.mp q] at hn'
          rw [hn'] at hb
          exact absurd hb (by decide)
    · rintro ρ μ ⟨ws', y7, y8, rfl, rfl, hg', ⟨t, rfl⟩, hd⟩
      refine wp_aug (x := .int k) (y := .int 1) (z := .int (k + 1 : Nat)) rfl (by (simp only [ev_cst, ev_var, ev_bin, ev_call, ev_nil, ev_cons, ev_bool, ev_asB, ev_not, ev_and, ev_or, ev_tup, ev_lst, ev_yes, ev_chain, ev_andV2, ev_orV, orB_bb, orB_t, orB_f, andB_bb, andB_t, andB_f, ite_andB, ite_orB, op_is, op_isn, ev_bor, ev_borT, borT_ok, bor_b, bor_i, bor_s, bor_n, bor1, bor2, bora1, bora2, ev_notV, ev_ifE, ev_frzT, ev_met, ev_fld, ev_un, un_neg, ev_dnil, ev_methC, ev_iseq, ev_isi, List.getElem?_cons_succ, List.getElem?_cons_zero, List.set_cons_succ, List.set_cons_zero, Res.bind_ok, Res.of_some, vw_i, vw_b, vw_s, vw_n, vw_t, vw_l, vw_d, vw_k, vw_c, it_l, it_t, it_s, op_add_i, op_sub_i, op_lt_i, op_le_i, op_gt_i, op_ge_i, op_eq_i, op_ne_i, op_eq_b, op_ne_b, bi_len_l, bi_len_t, bi_len_d, bi_len_c, op_ix_0, op_ix_1, op_ix_2, tp1, tp2, tp3, tp4, tp5, mk0, mk1, mk2, mk3, mk4, mk5, if_true, if_false, Bool.false_eq_true, Bool.not_true, Bool.not_false, Bool.true_and, Bool.false_and, Bool.true_or, Bool.false_or, bt_one, bt_tup, bt_lst, sa_nil, sa_cons, wipeD, List.length_map] <;> try rfl)) (by rfl) (by (simp only [List.set_cons_succ, List.set_cons_zero] <;> try rfl)) ?_
      refine ⟨ws ++ t, _, _, _, _, rfl, rfl, hg', by rw [List.length_append]; omega, fun i p hi hp m hm hh hn => ?_⟩
      rcases Nat.lt_or_ge i k with q | q
      · rw [List.getElem?_append_left (by omega)] at hp
        have := hcl i p q hp m hm hh hn
        rw [keysW, List.map_append]
        exact List.mem_append_left _ this
      · have : i = k := by omega
        subst this
        rw [List.getElem?_append_left hlt, hsp] at hp
        cases hp
        exact hd m (List.mem_filter.mpr ⟨hm, decide_eq_true hh⟩) hn
  · have hge : ws.length ≤ k := by have := of_decide_eq_false hb; omega
    refine wp_ret (d := .dic (wsE ws)) (μ' := [.fz (.dic (wsE ws)), .lst ((keysW ws).map spD)]) (by (simp only [ev_cst, ev_var, ev_bin, ev_call, ev_nil, ev_cons, ev_bool, ev_asB, ev_not, ev_and, ev_or, ev_tup, ev_lst, ev_yes, ev_chain, ev_andV2, ev_orV, orB_bb, orB_t, orB_f, andB_bb, andB_t, andB_f, ite_andB, ite_orB, op_is, op_isn, ev_bor, ev_borT, borT_ok, bor_b, bor_i, bor_s, bor_n, bor1, bor2, bora1, bora2, ev_notV, ev_ifE, ev_frzT, ev_met, ev_fld, ev_un, un_neg, ev_dnil, ev_methC, ev_iseq, ev_isi, List.getElem?_cons_succ, List.getElem?_cons_zero, List.set_cons_succ, List.set_cons_zero, Res.bind_ok, Res.of_some, vw_i, vw_b, vw_s, vw_n, vw_t, vw_l, vw_d, vw_k, vw_c, it_l, it_t, it_s, op_add_i, op_sub_i, op_lt_i, op_le_i, op_gt_i, op_ge_i, op_eq_i, op_ne_i, op_eq_b, op_ne_b, bi_len_l, bi_len_t, bi_len_d, bi_len_c, op_ix_0, op_ix_1, op_ix_2, tp1, tp2, tp3, tp4, tp5, mk0, mk1, mk2, mk3, mk4, mk5, if_true, if_false, Bool.false_eq_true, Bool.not_true, Bool.not_false, Bool.true_and, Bool.false_and, Bool.true_or, Bool.false_or, bt_one, bt_tup, bt_lst, sa_nil, sa_cons, wipeD, List.length_map, frzT, frz1] <;> try rfl)) ⟨⟨ws, hg, fun sp m hs hm hh hn => ?_, rfl⟩, by simp only [closed, cl_ws]⟩
    obtain ⟨p, hp, rfl⟩ := List.mem_map.mp hs
    obtain ⟨i, hi, hp'⟩ := List.mem_iff_getElem.mp hp
    exact hcl i p (by omega) (by rw [← hp', List.getElem?_eq_getElem hi]) m hm hh hn
end SB
set_option Elab.async false
set_option linter.all false
set_option maxRecDepth 10000
namespace SB
open PySem L2
structure SpOk (M : Mc) (size : Nat) (ss : List Str) (ws : Ws) : Prop where
  nd : (keysW ws).Nodup
  rg : ∀ p ∈ ws, 0 ≤ p.1.1 ∧ p.1.1 < size
  at_ : ∀ p ∈ ws, M.At ss p.1 p.2
  len : ∀ p ∈ ws, p.2.2.length ≤ 8 * ss.length + (if p.1.2 then 15 else 7)
  all : ∀ sp, M.Reach ss sp → sp ∈ keysW ws
theorem SpOk.mem {M : Mc} {size : Nat} {ss : List Str} {ws : Ws} (h : SpOk M size ss ws) (sp : Spt) : sp ∈ keysW ws ↔ M.Reach ss sp :=
  ⟨fun q => by obtain ⟨p, hp, rfl⟩ := List.mem_map.mp q; exact ⟨p.2, h.at_ p hp⟩, h.all sp⟩
theorem SpOk.few {M : Mc} {size : Nat} {ss : List Str} {ws : Ws} (h : SpOk M size ss ws) (s8 : size ≤ 8) : ws.length ≤ 16 := by
  have := lenW_le h.nd h.rg; omega
theorem op_eq_opt {o : Option Str} (ho : ∀ z, o = some z → okS z) {s : Str} (hs : okS s) (μ : Mu) : opEq (optD o) (.str s) μ = .ok (.bl (decide (o = some s))) μ := by
  cases o with
  | none =>
    have := opEq_pl (μ := μ) (a := .non) (b := .str s) rfl (em_str.pl s hs) (by decide) (by simp [dp])
    rw [show optD (none : Option Str) = .non from rfl, this]
    simp [deq, pd, PyData.eqv]
  | some z =>
    rw [show optD (some z) = .str z from rfl, em_str.opEq (by decide) (ho z rfl) hs]
    simp
theorem getS_mem {sg : List (Str × Str)} {k v : Str} (h : getS sg k = some v) : ∃ p ∈ sg, p.1 = k ∧ p.2 = v := by
  unfold getS at h
  obtain ⟨p, hp, rfl⟩ := Option.map_eq_some_iff.mp h
  exact ⟨p, List.mem_of_find?_eq_some hp, by simpa using List.find?_some hp, rfl⟩
theorem McD.sgs {A : D} {M : Mc} {size : Nat} (h : McD A M size) {d z : Str} (hz : getS M.sg d = some z) : okS z := by
  obtain ⟨p, hp, _, rfl⟩ := getS_mem hz
  exact h.sgo p hp
theorem ev_keys {f : DE} {ρ : Ev} {μ : Mu} {es : List (D × D)} (h : f ρ μ = .ok (.dic es) μ) : iKeys f ρ μ = .ok (es.map (·.1)) μ := by
  unfold iKeys
  rw [h]; rfl
/-- spots behind one sign more, ahead of unseen deeds -/
structure StepOk (M : Mc) (size : Nat) (ss : List Str) (ws : Ws) : Prop where
  nd : (keysW ws).Nodup
  rg : ∀ p ∈ ws, 0 ≤ p.1.1 ∧ p.1.1 < size
  at_ : ∀ p ∈ ws, M.At ss p.1 p.2
  len : ∀ p ∈ ws, p.2.2.length ≤ 8 * ss.length + (if p.1.2 then 8 else 0)
theorem StepOk.grow {M : Mc} {size : Nat} {ss : List Str} {ws : Ws} (h : StepOk M size ss ws) : GrowOk M size (8 * ss.length) (M.At ss) ws ws := grow_start h.nd h.rg h.at_ h.len
theorem StepOk.add {M : Mc} {size : Nat} {ss : List Str} {ws : Ws} (h : StepOk M size ss ws) {sp : Spt} {w : Way} (hn : sp ∉ keysW ws) (hr : 0 ≤ sp.1 ∧ sp.1 < size) (ha : M.At ss sp w) (hl : w.2.length ≤ 8 * ss.length + (if sp.2 then 8 else 0)) : StepOk M size ss (ws ++ [(sp, w)]) where
  nd := by
    rw [keysW, List.map_append, List.nodup_append]
    refine ⟨h.nd, by simp, fun a ha b hb => ?_⟩
    simp only [List.map_cons, List.map_nil, List.mem_singleton] at hb
    exact fun e => hn (hb ▸ e ▸ ha)
  rg := fun p hp => by
    rcases List.mem_append.mp hp with q | q
    · exact h.rg p q
    · rw [List.mem_singleton.mp q]; exact hr
  at_ := fun p hp => by
    rcases List.mem_append.mp hp with q | q
    · exact h.at_ p q
    · rw [List.mem_singleton.mp q]; exact ha
  len := fun p hp => by
    rcases List.mem_append.mp hp with q | q
    · exact h.len p q
    · rw [List.mem_singleton.mp q]; exact hl
theorem StepOk.done {A : D} {M : Mc} {size : Nat} (h : McD A M size) {ss : List Str} {ws0 : Ws} (k : StepOk M size ss ws0) (hl : ss.length ≤ 1000)
    (hall : ∀ ws, (∀ sp ∈ keysW ws0, sp ∈ keysW ws) → M.Closed (· ∈ keysW ws) → ∀ sp, M.Reach ss sp → sp ∈ keysW ws) : ∃ ws, SpOk M size ss ws ∧ ∀ μ, Φ_spread [A, .dic (wsE ws0)] μ = .ok (.dic (wsE ws)) μ := by
  obtain ⟨ws, g, cl, e⟩ := f_spread h (K := 8 * ss.length) (by omega) k.grow fun sp w m ha hm hh hg => Mc.at_unseen ha hm hh hg
  obtain ⟨t, ht⟩ := g.pre
  exact ⟨ws, ⟨g.nd, g.rg, g.ps, g.len h.s8, hall ws (fun sp hs => by rw [ht, keysW, List.map_append]; exact List.mem_append_left _ hs) cl⟩, e⟩
theorem f_seen {A : D} {M : Mc} {size : Nat} (h : McD A M size) {ss : List Str} {ws : Ws} (ok : SpOk M size ss ws) (hl : ss.length ≤ 900) {s : Str} (hs : okS s) :
    ∃ ws', SpOk M size (ss ++ [s]) ws' ∧ ∀ μ, Φ_seen [A, .dic (wsE ws), .str s] μ = .ok (.dic (wsE ws')) μ := by
  suffices hh : ∃ d, (∃ ws', SpOk M size (ss ++ [s]) ws' ∧ d = .dic (wsE ws')) ∧ closed d = true ∧ ∀ μ, Φ_seen [A, .dic (wsE ws), .str s] μ = .ok d μ by
    obtain ⟨d, ⟨ws', h1, rfl⟩, _, k⟩ := hh
    exact ⟨ws', h1, k⟩
  refine callP_wp _ (by simp only [closeds, closed, h.cl, cl_ws, Bool.and_self]) ?_
  show WP _ _ _ _ (m_seen [some A, some (.dic (wsE ws)), some (.str s), none, none, none, none, none, none] [])
  unfold m_seen
  have s8 := h.s8
  refine wp_seq (wp_set (d := .ref 0) (μ' := [.dic (wsE [])]) (by (simp only [ev_cst, ev_var, ev_bin, ev_call, ev_nil, ev_cons, ev_bool, ev_asB, ev_not, ev_and, ev_or, ev_tup, ev_lst, ev_yes, ev_chain, ev_andV2, ev_orV, orB_bb, orB_t, orB_f, andB_bb, andB_t, andB_f, ite_andB, ite_orB, op_is, op_isn, ev_bor, ev_borT, borT_ok, bor_b, bor_i, bor_s, bor_n, bor1, bor2, bora1, bora2, ev_notV, ev_ifE, ev_frzT, ev_met, ev_fld, ev_un, un_neg, ev_dnil, ev_methC, ev_iseq, ev_isi, List.getElem?_cons_succ, List.getElem?_cons_zero, List.set_cons_succ, List.set_cons_zero, Res.bind_ok, Res.of_some, vw_i, vw_b, vw_s, vw_n, vw_t, vw_l, vw_d, vw_k, vw_c, it_l, it_t, it_s, op_add_i, op_sub_i, op_lt_i, op_le_i, op_gt_i, op_ge_i, op_eq_i, op_ne_i, op_eq_b, op_ne_b, bi_len_l, bi_len_t, bi_len_d, bi_len_c, op_ix_0, op_ix_1, op_ix_2, tp1, tp2, tp3, tp4, tp5, mk0, mk1, mk2, mk3, mk4, mk5, if_true, if_false, Bool.false_eq_true, Bool.not_true, Bool.not_false, Bool.true_and, Bool.false_and, Bool.true_or, Bool.false_or, bt_one, bt_tup, bt_lst, sa_nil, sa_cons, wipeD, List.length_map] <;> try rfl)) (by (simp only [List.set_cons_succ, List.set_cons_zero] <;> try rfl)) ?_)
  have e1 : (wsE ws).map (·.1) = (keysW ws).map spD := by simp [List.map_map]
  refine wp_seq (wp_for (e := fun p : Spt × Way => spD p.1) ws (fun done ρ μ => ∃ f x4 x5 x6 x7 x8, μ = [.dic (wsE f)] ∧ ρ = [some A, some (.dic (wsE ws)), some (.str s), some (.ref 0), x4, x5, x6, x7, x8] ∧ StepOk M size (ss ++ [s]) f ∧
    ∀ p ∈ done, ∀ m ∈ M.kn, m.h = p.1.1 → getS M.sg m.d = some s → M.go p.1 m ∈ keysW f) (by rw [ev_keys (es := wsE ws) (by (simp only [ev_cst, ev_var, ev_bin, ev_call, ev_nil, ev_cons, ev_bool, ev_asB, ev_not, ev_and, ev_or, ev_tup, ev_lst, ev_yes, ev_chain, ev_andV2, ev_orV, orB_bb, orB_t, orB_f, andB_bb, andB_t, andB_f, ite_andB, ite_orB, op_is, op_isn, ev_bor, ev_borT, borT_ok, bor_b, bor_i, bor_s, bor_n, bor1, bor2, bora1, bora2, ev_notV, ev_ifE, ev_frzT, ev_met, ev_fld, ev_un, un_neg, ev_dnil, ev_methC, ev_iseq, ev_isi, List.getElem?_cons_succ, List.getElem?_cons_zero, List.set_cons_succ, List.set_cons_zero, Res.bind_ok, Res.of_some, vw_i, vw_b, vw_s, vw_n, vw_t, vw_l, vw_d, vw_k, vw_c, it_l, it_t, it_s, op_add_i, op_sub_i, op_lt_i, op_le_i, op_gt_i, op_ge_i, op_eq_i, op_ne_i, op_eq_b, op_ne_b, bi_len_l, bi_len_t, bi_len_d, bi_len_c, op_ix_0, op_ix_1, op_ix_2, tp1, tp2, tp3, tp4, tp5, mk0, mk1, mk2, mk3, mk4, mk5, if_true, if_false, Bool.false_eq_true, Bool.not_true, Bool.not_false, Bool.true_and, Bool.false_and, Bool.true_or, Bool.false_or, bt_one, bt_tup, bt_lst, sa_nil, sa_cons, wipeD, List.length_map] <;> try rfl))]; rw [e1, List.map_map]; rfl)
    ⟨[], _, _, _, _, _, rfl, rfl, ⟨List.nodup_nil, fun p hp => absurd hp List.not_mem_nil, fun p hp => absurd hp List.not_mem_nil, fun p hp => absurd hp List.not_mem_nil⟩, fun p hp => absurd hp List.not_mem_nil⟩ ?_ ?_)
  · rintro done ⟨sp, w⟩ rest ρ μ hq ⟨f, x4, x5, x6, x7, x8, rfl, rfl, hf, hd⟩
    refine ⟨_, rfl, ?_⟩
    have hmem : (sp, w) ∈ ws := by rw [hq]; simp
    have hr := ok.rg _ hmem
    have hat := ok.at_ _ hmem
    have hln := ok.len _ hmem
    simp only at hr hat hln
    show WP _ _ _ _ (sSeq _ _ [some A, some (.dic (wsE ws)), some (.str s), some (.ref 0), some (spD sp), x5, x6, x7, x8] _)
    refine wp_seq (wp_asg (by (simp only [ev_cst, ev_var, ev_bin, ev_call, ev_nil, ev_cons, ev_bool, ev_asB, ev_not, ev_and, ev_or, ev_tup, ev_lst, ev_yes, ev_chain, ev_andV2, ev_orV, orB_bb, orB_t, orB_f, andB_bb, andB_t, andB_f, ite_andB, ite_orB, op_is, op_isn, ev_bor, ev_borT, borT_ok, bor_b, bor_i, bor_s, bor_n, bor1, bor2, bora1, bora2, ev_notV, ev_ifE, ev_frzT, ev_met, ev_fld, ev_un, un_neg, ev_dnil, ev_methC, ev_iseq, ev_isi, List.getElem?_cons_succ, List.getElem?_cons_zero, List.set_cons_succ, List.set_cons_zero, Res.bind_ok, Res.of_some, vw_i, vw_b, vw_s, vw_n, vw_t, vw_l, vw_d, vw_k, vw_c, it_l, it_t, it_s, op_add_i, op_sub_i, op_lt_i, op_le_i, op_gt_i, op_ge_i, op_eq_i, op_ne_i, op_eq_b, op_ne_b, bi_len_l, bi_len_t, bi_len_d, bi_len_c, op_ix_0, op_ix_1, op_ix_2, tp1, tp2, tp3, tp4, tp5, mk0, mk1, mk2, mk3, mk4, mk5, if_true, if_false, Bool.false_eq_true, Bool.not_true, Bool.not_false, Bool.true_and, Bool.false_and, Bool.true_or, Bool.false_or, bt_one, bt_tup, bt_lst, sa_nil, sa_cons, wipeD, List.length_map, spD] <;> try rfl)) (by (simp only [bt_one, bt_tup, bt_lst, sa_nil, sa_cons, List.set_cons_succ, List.set_cons_zero] <;> try rfl)) ?_)
    refine wp_for (e := mvD) (M.kn.filter fun m => decide (m.h = sp.1)) (fun done2 ρ μ => ∃ f x7 x8, μ = [.dic (wsE f)] ∧ ρ = [some A, some (.dic (wsE ws)), some (.str s), some (.ref 0), some (spD sp), some (.int sp.1), some (.bl sp.2), x7, x8] ∧ StepOk M size (ss ++ [s]) f ∧
      (∀ p ∈ done, ∀ m ∈ M.kn, m.h = p.1.1 → getS M.sg m.d = some s → M.go p.1 m ∈ keysW f) ∧ ∀ m ∈ done2, getS M.sg m.d = some s → M.go sp m ∈ keysW f)
      (by (simp only [ev_cst, ev_var, ev_bin, ev_call, ev_nil, ev_cons, ev_bool, ev_asB, ev_not, ev_and, ev_or, ev_tup, ev_lst, ev_yes, ev_chain, ev_andV2, ev_orV, orB_bb, orB_t, orB_f, andB_bb, andB_t, andB_f, ite_andB, ite_orB, op_is, op_isn, ev_bor, ev_borT, borT_ok, bor_b, bor_i, bor_s, bor_n, bor1, bor2, bora1, bora2, ev_notV, ev_ifE, ev_frzT, ev_met, ev_fld, ev_un, un_neg, ev_dnil, ev_methC, ev_iseq, ev_isi, List.getElem?_cons_succ, List.getElem?_cons_zero, List.set_cons_succ, List.set_cons_zero, Res.bind_ok, Res.of_some, vw_i, vw_b, vw_s, vw_n, vw_t, vw_l, vw_d, vw_k, vw_c, it_l, it_t, it_s, op_add_i, op_sub_i, op_lt_i, op_le_i, op_gt_i, op_ge_i, op_eq_i, op_ne_i, op_eq_b, op_ne_b, bi_len_l, bi_len_t, bi_len_d, bi_len_c, op_ix_0, op_ix_1, op_ix_2, tp1, tp2, tp3, tp4, tp5, mk0, mk1, mk2, mk3, mk4, mk5, if_true, if_false, Bool.false_eq_true, Bool.not_true, Bool.not_false, Bool.true_and, Bool.false_and, Bool.true_or, Bool.false_or, bt_one, bt_tup, bt_lst, sa_nil, sa_cons, wipeD, List.length_map, h.from_ sp.1 hr.1 hr.2] <;> try rfl)) ⟨f, _, _, rfl, rfl, hf, hd, fun p hp => absurd hp List.not_mem_nil⟩ ?_ ?_
    · rintro done2 m rest2 ρ μ hq2 ⟨f, y7, y8, rfl, rfl, hf, hd, hd2⟩
      refine ⟨_, rfl, ?_⟩
      have hmm : m ∈ M.kn.filter fun m => decide (m.h = sp.1) := by rw [hq2]; simp
      obtain ⟨hm, hh⟩ := List.mem_filter.mp hmm
      have hh := of_decide_eq_true hh
      have hmo := h.kno m hm
      show WP _ _ _ _ (sIf _ _ _ [some A, some (.dic (wsE ws)), some (.str s), some (.ref 0), some (spD sp), some (.int sp.1), some (.bl sp.2), some (mvD m), y8] _)
      refine wp_if (b := decide (getS M.sg m.d = some s)) (by (simp only [ev_cst, ev_var, ev_bin, ev_call, ev_nil, ev_cons, ev_bool, ev_asB, ev_not, ev_and, ev_or, ev_tup, ev_lst, ev_yes, ev_chain, ev_andV2, ev_orV, orB_bb, orB_t, orB_f, andB_bb, andB_t, andB_f, ite_andB, ite_orB, op_is, op_isn, ev_bor, ev_borT, borT_ok, bor_b, bor_i, bor_s, bor_n, bor1, bor2, bora1, bora2, ev_notV, ev_ifE, ev_frzT, ev_met, ev_fld, ev_un, un_neg, ev_dnil, ev_methC, ev_iseq, ev_isi, List.getElem?_cons_succ, List.getElem?_cons_zero, List.set_cons_succ, List.set_cons_zero, Res.bind_ok, Res.of_some, vw_i, vw_b, vw_s, vw_n, vw_t, vw_l, vw_d, vw_k, vw_c, it_l, it_t, it_s, op_add_i, op_sub_i, op_lt_i, op_le_i, op_gt_i, op_ge_i, op_eq_i, op_ne_i, op_eq_b, op_ne_b, bi_len_l, bi_len_t, bi_len_d, bi_len_c, op_ix_0, op_ix_1, op_ix_2, tp1, tp2, tp3, tp4, tp5, mk0, mk1, mk2, mk3, mk4, mk5, if_true, if_false, Bool.false_eq_true, Bool.not_true, Bool.not_false, Bool.true_and, Bool.false_and, Bool.true_or, Bool.false_or, bt_one, bt_tup, bt_lst, sa_nil, sa_cons, wipeD, List.length_map, h.ic, mv_ix1, h.sign_of, op_eq_opt (fun z hz => h.sgs hz) hs] <;> try rfl)) (fun hb => ?_) (fun hb => ?_)
      · have hn := of_decide_eq_true hb
        refine wp_seq (wp_set (d := spD (M.go sp m)) (by (simp only [ev_cst, ev_var, ev_bin, ev_call, ev_nil, ev_cons, ev_bool, ev_asB, ev_not, ev_and, ev_or, ev_tup, ev_lst, ev_yes, ev_chain, ev_andV2, ev_orV, orB_bb, orB_t, orB_f, andB_bb, andB_t, andB_f, ite_andB, ite_orB, op_is, op_isn, ev_bor, ev_borT, borT_ok, bor_b, bor_i, bor_s, bor_n, bor1, bor2, bora1, bora2, ev_notV, ev_ifE, ev_frzT, ev_met, ev_fld, ev_un, un_neg, ev_dnil, ev_methC, ev_iseq, ev_isi, List.getElem?_cons_succ, List.getElem?_cons_zero, List.set_cons_succ, List.set_cons_zero, Res.bind_ok, Res.of_some, vw_i, vw_b, vw_s, vw_n, vw_t, vw_l, vw_d, vw_k, vw_c, it_l, it_t, it_s, op_add_i, op_sub_i, op_lt_i, op_le_i, op_gt_i, op_ge_i, op_eq_i, op_ne_i, op_eq_b, op_ne_b, bi_len_l, bi_len_t, bi_len_d, bi_len_c, op_ix_0, op_ix_1, op_ix_2, tp1, tp2, tp3, tp4, tp5, mk0, mk1, mk2, mk3, mk4, mk5, if_true, if_false, Bool.false_eq_true, Bool.not_true, Bool.not_false, Bool.true_and, Bool.false_and, Bool.true_or, Bool.false_or, bt_one, bt_tup, bt_lst, sa_nil, sa_cons, wipeD, List.length_map, h.ic, mv_ix1, mv_ix2, h.is_fault m.d hmo] <;> try rfl)) (by (simp only [List.set_cons_succ, List.set_cons_zero] <;> try rfl)) ?_)
        refine wp_if (b := !decide (M.go sp m ∈ keysW f)) (by (simp only [ev_cst, ev_var, ev_bin, ev_call, ev_nil, ev_cons, ev_bool, ev_asB, ev_not, ev_and, ev_or, ev_tup, ev_lst, ev_yes, ev_chain, ev_andV2, ev_orV, orB_bb, orB_t, orB_f, andB_bb, andB_t, andB_f, ite_andB, ite_orB, op_is, op_isn, ev_bor, ev_borT, borT_ok, bor_b, bor_i, bor_s, bor_n, bor1, bor2, bora1, bora2, ev_notV, ev_ifE, ev_frzT, ev_met, ev_fld, ev_un, un_neg, ev_dnil, ev_methC, ev_iseq, ev_isi, List.getElem?_cons_succ, List.getElem?_cons_zero, List.set_cons_succ, List.set_cons_zero, Res.bind_ok, Res.of_some, vw_i, vw_b, vw_s, vw_n, vw_t, vw_l, vw_d, vw_k, vw_c, it_l, it_t, it_s, op_add_i, op_sub_i, op_lt_i, op_le_i, op_gt_i, op_ge_i, op_eq_i, op_ne_i, op_eq_b, op_ne_b, bi_len_l, bi_len_t, bi_len_d, bi_len_c, op_ix_0, op_ix_1, op_ix_2, tp1, tp2, tp3, tp4, tp5, mk0, mk1, mk2, mk3, mk4, mk5, if_true, if_false, Bool.false_eq_true, Bool.not_true, Bool.not_false, Bool.true_and, Bool.false_and, Bool.true_or, Bool.false_or, bt_one, bt_tup, bt_lst, sa_nil, sa_cons, wipeD, List.length_map, op_nin_sp (ws := f) (y := .ref 0) (μ := [.dic (wsE f)]) rfl] <;> try rfl)) (fun hb => ?_) (fun hb => ?_)
        · have hni : M.go sp m ∉ keysW f := by simpa using hb
          have hll := lenW_le hf.nd hf.rg
          have hwl : w.2.length ≤ 8 * ss.length + 15 := by
            split at hln <;> omega
          refine wp_sub (d := wayD (w.1, w.2 ++ [m])) (x := .ref 0) (y := spD (M.go sp m)) (by (simp only [ev_cst, ev_var, ev_bin, ev_call, ev_nil, ev_cons, ev_bool, ev_asB, ev_not, ev_and, ev_or, ev_tup, ev_lst, ev_yes, ev_chain, ev_andV2, ev_orV, orB_bb, orB_t, orB_f, andB_bb, andB_t, andB_f, ite_andB, ite_orB, op_is, op_isn, ev_bor, ev_borT, borT_ok, bor_b, bor_i, bor_s, bor_n, bor1, bor2, bora1, bora2, ev_notV, ev_ifE, ev_frzT, ev_met, ev_fld, ev_un, un_neg, ev_dnil, ev_methC, ev_iseq, ev_isi, List.getElem?_cons_succ, List.getElem?_cons_zero, List.set_cons_succ, List.set_cons_zero, Res.bind_ok, Res.of_some, vw_i, vw_b, vw_s, vw_n, vw_t, vw_l, vw_d, vw_k, vw_c, it_l, it_t, it_s, op_add_i, op_sub_i, op_lt_i, op_le_i, op_gt_i, op_ge_i, op_eq_i, op_ne_i, op_eq_b, op_ne_b, bi_len_l, bi_len_t, bi_len_d, bi_len_c, op_ix_0, op_ix_1, op_ix_2, tp1, tp2, tp3, tp4, tp5, mk0, mk1, mk2, mk3, mk4, mk5, if_true, if_false, Bool.false_eq_true, Bool.not_true, Bool.not_false, Bool.true_and, Bool.false_and, Bool.true_or, Bool.false_or, bt_one, bt_tup, bt_lst, sa_nil, sa_cons, wipeD, List.length_map, op_ix_sp ok.nd hmem (y := .dic (wsE ws)) (μ := [.dic (wsE f)]) rfl, way_add (w := w) (m := m) (by omega)] <;> try rfl)) (by (simp only [ev_cst, ev_var, ev_bin, ev_call, ev_nil, ev_cons, ev_bool, ev_asB, ev_not, ev_and, ev_or, ev_tup, ev_lst, ev_yes, ev_chain, ev_andV2, ev_orV, orB_bb, orB_t, orB_f, andB_bb, andB_t, andB_f, ite_andB, ite_orB, op_is, op_isn, ev_bor, ev_borT, borT_ok, bor_b, bor_i, bor_s, bor_n, bor1, bor2, bora1, bora2, ev_notV, ev_ifE, ev_frzT, ev_met, ev_fld, ev_un, un_neg, ev_dnil, ev_methC, ev_iseq, ev_isi, List.getElem?_cons_succ, List.getElem?_cons_zero, List.set_cons_succ, List.set_cons_zero, Res.bind_ok, Res.of_some, vw_i, vw_b, vw_s, vw_n, vw_t, vw_l, vw_d, vw_k, vw_c, it_l, it_t, it_s, op_add_i, op_sub_i, op_lt_i, op_le_i, op_gt_i, op_ge_i, op_eq_i, op_ne_i, op_eq_b, op_ne_b, bi_len_l, bi_len_t, bi_len_d, bi_len_c, op_ix_0, op_ix_1, op_ix_2, tp1, tp2, tp3, tp4, tp5, mk0, mk1, mk2, mk3, mk4, mk5, if_true, if_false, Bool.false_eq_true, Bool.not_true, Bool.not_false, Bool.true_and, Bool.false_and, Bool.true_or, Bool.false_or, bt_one, bt_tup, bt_lst, sa_nil, sa_cons, wipeD, List.length_map] <;> try rfl)) (by (simp only [ev_cst, ev_var, ev_bin, ev_call, ev_nil, ev_cons, ev_bool, ev_asB, ev_not, ev_and, ev_or, ev_tup, ev_lst, ev_yes, ev_chain, ev_andV2, ev_orV, orB_bb, orB_t, orB_f, andB_bb, andB_t, andB_f, ite_andB, ite_orB, op_is, op_isn, ev_bor, ev_borT, borT_ok, bor_b, bor_i, bor_s, bor_n, bor1, bor2, bora1, bora2, ev_notV, ev_ifE, ev_frzT, ev_met, ev_fld, ev_un, un_neg, ev_dnil, ev_methC, ev_iseq, ev_isi, List.getElem?_cons_succ, List.getElem?_cons_zero, List.set_cons_succ, List.set_cons_zero, Res.bind_ok, Res.of_some, vw_i, vw_b, vw_s, vw_n, vw_t, vw_l, vw_d, vw_k, vw_c, it_l, it_t, it_s, op_add_i, op_sub_i, op_lt_i, op_le_i, op_gt_i, op_ge_i, op_eq_i, op_ne_i, op_eq_b, op_ne_b, bi_len_l, bi_len_t, bi_len_d, bi_len_c, op_ix_0, op_ix_1, op_ix_2, tp1, tp2, tp3, tp4, tp5, mk0, mk1, mk2, mk3, mk4, mk5, if_true, if_false, Bool.false_eq_true, Bool.not_true, Bool.not_false, Bool.true_and, Bool.false_and, Bool.true_or, Bool.false_or, bt_one, bt_tup, bt_lst, sa_nil, sa_cons, wipeD, List.length_map] <;> try rfl)) (set_sp _ hni (by omega) rfl) ?_
          refine ⟨f ++ [(M.go sp m, (w.1, w.2 ++ [m]))], _, _, rfl, rfl, hf.add hni (h.knt m hm) (Mc.at_seen hat hm hh hn) ?_, fun p hp m' hm' hh' hn' => ?_, fun m' hm' hn' => ?_⟩
          · simp only [List.length_append, List.length_singleton]
            cases q : sp.2 with
            | true =>
              rw [q] at hln
              simp only [if_true] at hln
              simp only [Mc.go, q, Bool.true_or, if_true]
              omega
            | false =>
              rw [q] at hln
              simp only [Bool.false_eq_true, if_false] at hln
              split <;> omega
          · rw [keysW_snoc]; exact List.mem_append_left _ (hd p hp m' hm' hh' hn')
          · rw [keysW_snoc]
            rcases List.mem_append.mp hm' with q | q
            · exact List.mem_append_left _ (hd2 m' q hn')
            · rw [List.mem_singleton.mp q]; exact List.mem_append_right _ (List.mem_singleton.mpr rfl)
        · have hni : M.go sp m ∈ keysW f := by simpa using hb
          refine wp_skip ⟨f, _, _, rfl, rfl, hf, hd, fun m' hm' hn' => ?_⟩
          rcases List.mem_append.mp hm' with q | q
          · exact hd2 m' q hn'
          · rw [List.mem_singleton.mp q]; exact hni
      · refine wp_skip ⟨f, _, _, rfl, rfl, hf, hd, fun m' hm' hn' => ?_⟩
        rcases List.mem_append.mp hm' with q | q
        · exact hd2 m' q hn'
        · rw [List.mem_singleton.mp q] at hn'
          exact absurd hn' (of_decide_eq_false hb)
    · rintro ρ μ ⟨f, y7, y8, rfl, rfl, hf, hd, hd2⟩
      refine ⟨f, _, _, _, _, _, rfl, rfl, hf, fun p hp m hm hh hn => ?_⟩
      rcases List.mem_append.mp hp with q | q
      · exact hd p q m hm hh hn
      · rw [List.mem_singleton.mp q] at hh ⊢
        exact hd2 m (List.mem_filter.mpr ⟨hm, decide_eq_true hh⟩) hn
  · rintro ρ μ ⟨f, x4, x5, x6, x7, x8, rfl, rfl, hf, hd⟩
    obtain ⟨ws', ok', e⟩ := hf.done h (by simp only [List.length_append, List.length_singleton]; omega) fun ws' hsub cl sp hr =>
      Mc.reach_snoc (L := (· ∈ keysW ws)) (L' := (· ∈ keysW ws')) ok.all (fun sp m hsp hm hh hn => by
        obtain ⟨p, hp, rfl⟩ := List.mem_map.mp hsp
        exact hsub _ (hd p hp m hm hh hn)) cl sp hr
    refine wp_ret (d := .dic (wsE ws')) (μ' := [.fz (.dic (wsE f))]) (by (simp only [ev_cst, ev_var, ev_bin, ev_call, ev_nil, ev_cons, ev_bool, ev_asB, ev_not, ev_and, ev_or, ev_tup, ev_lst, ev_yes, ev_chain, ev_andV2, ev_orV, orB_bb, orB_t, orB_f, andB_bb, andB_t, andB_f, ite_andB, ite_orB, op_is, op_isn, ev_bor, ev_borT, borT_ok, bor_b, bor_i, bor_s, bor_n, bor1, bor2, bora1, bora2, ev_notV, ev_ifE, ev_frzT, ev_met, ev_fld, ev_un, un_neg, ev_dnil, ev_methC, ev_iseq, ev_isi, List.getElem?_cons_succ, List.getElem?_cons_zero, List.set_cons_succ, List.set_cons_zero, Res.bind_ok, Res.of_some, vw_i, vw_b, vw_s, vw_n, vw_t, vw_l, vw_d, vw_k, vw_c, it_l, it_t, it_s, op_add_i, op_sub_i, op_lt_i, op_le_i, op_gt_i, op_ge_i, op_eq_i, op_ne_i, op_eq_b, op_ne_b, bi_len_l, bi_len_t, bi_len_d, bi_len_c, op_ix_0, op_ix_1, op_ix_2, tp1, tp2, tp3, tp4, tp5, mk0, mk1, mk2, mk3, mk4, mk5, if_true, if_false, Bool.false_eq_true, Bool.not_true, Bool.not_false, Bool.true_and, Bool.false_and, Bool.true_or, Bool.false_or, bt_one, bt_tup, bt_lst, sa_nil, sa_cons, wipeD, List.length_map, frzT, frz1, e] <;> try rfl)) ⟨⟨ws', ok', rfl⟩, by simp only [closed, cl_ws]⟩
/-- the starts' spots, whichever come twice -/
theorem dput_same {ws : Ws} {s : Spt} {w : Way} (h : ∀ p ∈ ws, p.1 = s → p.2 = w) (hm : s ∈ keysW ws) : dput (wsE ws) (spD s) (wayD w) = wsE ws := by
  unfold dput
  have n : ((wsE ws).any fun p => keq p.1 (spD s)) = true := by
    obtain ⟨p, hp, e⟩ := List.mem_map.mp hm
    rw [List.any_eq_true]
    exact ⟨(spD p.1, wayD p.2), List.mem_map.mpr ⟨p, hp, rfl⟩, by simp only [keq_sp, decide_eq_true_eq]; exact e⟩
  rw [n, if_pos rfl, List.map_map]
  refine List.map_congr_left fun p hp => ?_
  simp only [Function.comp, keq_sp, decide_eq_true_eq]
  by_cases e : p.1 = s
  · rw [if_pos e, h p hp e]
  · rw [if_neg e]
theorem set_same {ws : Ws} {s : Spt} {w : Way} (h : ∀ p ∈ ws, p.1 = s → p.2 = w) (hm : s ∈ keysW ws) (hl : ws.length ≤ 1000) {n : Nat} {μ : Mu} (hn : μ[n]? = some (.dic (wsE ws))) : setIxD (.ref n) (spD s) (wayD w) μ = some (μ.set n (.dic (wsE ws))) := by
  unfold setIxD
  simp only [hn]
  rw [kfits_sp wayD ws s, dput_same h hm, if_pos]
  rw [Bool.true_and, decide_eq_true_eq, List.length_map, sizeLine_eq]
  omega
/-- spots of some rooms, each with no moves -/
structure StOk (size : Nat) (rs : List Int) (ws : Ws) : Prop where
  nd : (keysW ws).Nodup
  eq : ∀ p ∈ ws, p.1.2 = false ∧ p.2 = (p.1.1, []) ∧ p.1.1 ∈ rs
  all : ∀ r ∈ rs, (r, false) ∈ keysW ws
theorem wp_rooms {A : D} {size : Nat} {rs done : List Int} {f : Ws} {N C B : Ev → Mu → Prop} {R : D → Mu → Prop} {n : Nat} {o ix val : DE} {ρ : Ev} {μ : Mu} {r : Int} (s8 : size ≤ 8) (hr : ∀ r ∈ done, 0 ≤ r ∧ r < size) (hf : StOk size done f) (h1 : val ρ μ = .ok (.lst [.int r]) μ) (h2 : o ρ μ = .ok (.ref n) μ) (h3 : ix ρ μ = .ok (.tup [.int r, .bl false]) μ) (hn : μ[n]? = some (.dic (wsE f)))
    (k : ∀ f', StOk size (done ++ [r]) f' → N ρ (μ.set n (.dic (wsE f')))) : WP N R C B (sSub o ix val ρ μ) := by
  have hl : f.length ≤ 16 := by
    have := lenW_le (size := size) hf.nd fun p hp => hr _ (hf.eq p hp).2.2
    omega
  by_cases hm : (r, false) ∈ keysW f
  · refine wp_sub (d := wayD (r, [])) (y := spD (r, false)) h1 h2 h3 (set_same (ws := f) (fun p hp e => ?_) hm (by omega) hn) (k f ⟨hf.nd, fun p hp => ?_, fun x hx => ?_⟩)
    · rw [(hf.eq p hp).2.1, e]
    · obtain ⟨a, b, c⟩ := hf.eq p hp
      exact ⟨a, b, List.mem_append_left _ c⟩
    · rcases List.mem_append.mp hx with q | q
      · exact hf.all x q
      · rw [List.mem_singleton.mp q]; exact hm
  · refine wp_sub (d := wayD (r, [])) (y := spD (r, false)) h1 h2 h3 (set_sp _ hm (by omega) hn) (k (f ++ [((r, false), (r, []))]) ⟨?_, fun p hp => ?_, fun x hx => ?_⟩)
    · rw [keysW, List.map_append, List.nodup_append]
      refine ⟨hf.nd, by simp, fun a ha b hb => ?_⟩
      simp only [List.map_cons, List.map_nil, List.mem_singleton] at hb
      exact fun e => hm (hb ▸ e ▸ ha)
    · rcases List.mem_append.mp hp with q | q
      · obtain ⟨a, b, c⟩ := hf.eq p q
        exact ⟨a, b, List.mem_append_left _ c⟩
      · rw [List.mem_singleton.mp q]
        exact ⟨rfl, rfl, List.mem_append_right _ (List.mem_singleton.mpr rfl)⟩
    · rw [keysW_snoc]
      rcases List.mem_append.mp hx with q | q
      · exact List.mem_append_left _ (hf.all x q)
      · rw [List.mem_singleton.mp q]; exact List.mem_append_right _ (List.mem_singleton.mpr rfl)
theorem f_start_spots {A : D} {M : Mc} {size : Nat} (h : McD A M size) : ∃ ws, StOk size M.st ws ∧ ∀ μ, Φ_start_spots [A] μ = .ok (.dic (wsE ws)) μ := by
  suffices hh : ∃ d, (∃ ws, StOk size M.st ws ∧ d = .dic (wsE ws)) ∧ closed d = true ∧ ∀ μ, Φ_start_spots [A] μ = .ok d μ by
    obtain ⟨d, ⟨ws', h1, rfl⟩, _, k⟩ := hh
    exact ⟨ws', h1, k⟩
  refine callP_wp _ (by simp only [closeds, h.cl, Bool.and_self]) ?_
  show WP _ _ _ _ (m_start_spots [some A, none, none] [])
  unfold m_start_spots
  refine wp_seq (wp_set (d := .ref 0) (μ' := [.dic (wsE [])]) (by (simp only [ev_cst, ev_var, ev_bin, ev_call, ev_nil, ev_cons, ev_bool, ev_asB, ev_not, ev_and, ev_or, ev_tup, ev_lst, ev_yes, ev_chain, ev_andV2, ev_orV, orB_bb, orB_t, orB_f, andB_bb, andB_t, andB_f, ite_andB, ite_orB, op_is, op_isn, ev_bor, ev_borT, borT_ok, bor_b, bor_i, bor_s, bor_n, bor1, bor2, bora1, bora2, ev_notV, ev_ifE, ev_frzT, ev_met, ev_fld, ev_un, un_neg, ev_dnil, ev_methC, ev_iseq, ev_isi, List.getElem?_cons_succ, List.getElem?_cons_zero, List.set_cons_succ, List.set_cons_zero, Res.bind_ok, Res.of_some, vw_i, vw_b, vw_s, vw_n, vw_t, vw_l, vw_d, vw_k, vw_c, it_l, it_t, it_s, op_add_i, op_sub_i, op_lt_i, op_le_i, op_gt_i, op_ge_i, op_eq_i, op_ne_i, op_eq_b, op_ne_b, bi_len_l, bi_len_t, bi_len_d, bi_len_c, op_ix_0, op_ix_1, op_ix_2, tp1, tp2, tp3, tp4, tp5, mk0, mk1, mk2, mk3, mk4, mk5, if_true, if_false, Bool.false_eq_true, Bool.not_true, Bool.not_false, Bool.true_and, Bool.false_and, Bool.true_or, Bool.false_or, bt_one, bt_tup, bt_lst, sa_nil, sa_cons, wipeD, List.length_map] <;> try rfl)) (by (simp only [List.set_cons_succ, List.set_cons_zero] <;> try rfl)) ?_)
  refine wp_seq (wp_for (e := D.int) M.st (fun done ρ μ => ∃ f x2, μ = [.dic (wsE f)] ∧ ρ = [some A, some (.ref 0), x2] ∧ StOk size done f) (by (simp only [ev_cst, ev_var, ev_bin, ev_call, ev_nil, ev_cons, ev_bool, ev_asB, ev_not, ev_and, ev_or, ev_tup, ev_lst, ev_yes, ev_chain, ev_andV2, ev_orV, orB_bb, orB_t, orB_f, andB_bb, andB_t, andB_f, ite_andB, ite_orB, op_is, op_isn, ev_bor, ev_borT, borT_ok, bor_b, bor_i, bor_s, bor_n, bor1, bor2, bora1, bora2, ev_notV, ev_ifE, ev_frzT, ev_met, ev_fld, ev_un, un_neg, ev_dnil, ev_methC, ev_iseq, ev_isi, List.getElem?_cons_succ, List.getElem?_cons_zero, List.set_cons_succ, List.set_cons_zero, Res.bind_ok, Res.of_some, vw_i, vw_b, vw_s, vw_n, vw_t, vw_l, vw_d, vw_k, vw_c, it_l, it_t, it_s, op_add_i, op_sub_i, op_lt_i, op_le_i, op_gt_i, op_ge_i, op_eq_i, op_ne_i, op_eq_b, op_ne_b, bi_len_l, bi_len_t, bi_len_d, bi_len_c, op_ix_0, op_ix_1, op_ix_2, tp1, tp2, tp3, tp4, tp5, mk0, mk1, mk2, mk3, mk4, mk5, if_true, if_false, Bool.false_eq_true, Bool.not_true, Bool.not_false, Bool.true_and, Bool.false_and, Bool.true_or, Bool.false_or, bt_one, bt_tup, bt_lst, sa_nil, sa_cons, wipeD, List.length_map, h.ic, h.starts] <;> try rfl))
    ⟨[], _, rfl, rfl, List.nodup_nil, fun p hp => absurd hp List.not_mem_nil, fun p hp => absurd hp List.not_mem_nil⟩ ?_ ?_)
  · rintro done r rest ρ μ hq ⟨f, x2, rfl, rfl, hf⟩
    refine ⟨_, rfl, ?_⟩
    refine wp_rooms (A := A) (size := size) (rs := M.st) (done := done) (f := f) (n := 0) (r := r) h.s8 (fun x hx => h.st x (by rw [hq]; exact List.mem_append_left _ hx)) hf (by (simp only [ev_cst, ev_var, ev_bin, ev_call, ev_nil, ev_cons, ev_bool, ev_asB, ev_not, ev_and, ev_or, ev_tup, ev_lst, ev_yes, ev_chain, ev_andV2, ev_orV, orB_bb, orB_t, orB_f, andB_bb, andB_t, andB_f, ite_andB, ite_orB, op_is, op_isn, ev_bor, ev_borT, borT_ok, bor_b, bor_i, bor_s, bor_n, bor1, bor2, bora1, bora2, ev_notV, ev_ifE, ev_frzT, ev_met, ev_fld, ev_un, un_neg, ev_dnil, ev_methC, ev_iseq, ev_isi, List.getElem?_cons_succ, List.getElem?_cons_zero, List.set_cons_succ, List.set_cons_zero, Res.bind_ok, Res.of_some, vw_i, vw_b, vw_s, vw_n, vw_t, vw_l, vw_d, vw_k, vw_c, it_l, it_t, it_s, op_add_i, op_sub_i, op_lt_i, op_le_i, op_gt_i, op_ge_i, op_eq_i, op_ne_i, op_eq_b, op_ne_b, bi_len_l, bi_len_t, bi_len_d, bi_len_c, op_ix_0, op_ix_1, op_ix_2, tp1, tp2, tp3, tp4, tp5, mk0, mk1, mk2, mk3, mk4, mk5, if_true, if_false, Bool.false_eq_true, Bool.not_true, Bool.not_false, Bool.true_and, Bool.false_and, Bool.true_or, Bool.false_or, bt_one, bt_tup, bt_lst, sa_nil, sa_cons, wipeD, List.length_map] <;> try rfl)) (by (simp only [ev_cst, ev_var, ev_bin, ev_call, ev_nil, ev_cons, ev_bool, ev_asB, ev_not, ev_and, ev_or, ev_tup, ev_lst, ev_yes, ev_chain, ev_andV2, ev_orV, orB_bb, orB_t, orB_f, andB_bb, andB_t, andB_f, ite_andB, ite_orB, op_is, op_isn, ev_bor, ev_borT, borT_ok, bor_b, bor_i, bor_s, bor_n, bor1, bor2, bora1, bora2, ev_notV, ev_ifE, ev_frzT, ev_met, ev_fld, ev_un, un_neg, ev_dnil, ev_methC, ev_iseq, ev_isi, List.getElem?_cons_succ, List.getElem?_cons_zero, List.set_cons_succ, List.set_cons_zero, Res.bind_ok, Res.of_some, vw_i, vw_b, vw_s, vw_n, vw_t, vw_l, vw_d, vw_k, vw_c, it_l, it_t, it_s, op_add_i, op_sub_i, op_lt_i, op_le_i, op_gt_i, op_ge_i, op_eq_i, op_ne_i, op_eq_b, op_ne_b, bi_len_l, bi_len_t, bi_len_d, bi_len_c, op_ix_0, op_ix_1, op_ix_2, tp1, tp2, tp3, tp4, tp5, mk0, mk1, mk2, mk3, mk4, mk5, if_true, if_false, Bool.false_eq_true, Bool.not_true, Bool.not_false, Bool.true_and, Bool.false_and, Bool.true_or, Bool.false_or, bt_one, bt_tup, bt_lst, sa_nil, sa_cons, wipeD, List.length_map] <;> try rfl)) (by (simp only [ev_cst, ev_var, ev_bin, ev_call, ev_nil, ev_cons, ev_bool, ev_asB, ev_not, ev_and, ev_or, ev_tup, ev_lst, ev_yes, ev_chain, ev_andV2, ev_orV, orB_bb, orB_t, orB_f, andB_bb, andB_t, andB_f, ite_andB, ite_orB, op_is, op_isn, ev_bor, ev_borT, borT_ok, bor_b, bor_i, bor_s, bor_n, bor1, bor2, bora1, bora2, ev_notV, ev_ifE, ev_frzT, ev_met, ev_fld, ev_un, un_neg, ev_dnil, ev_methC, ev_iseq, ev_isi, List.getElem?_cons_succ, List.getElem?_cons_zero, List.set_cons_succ, List.set_cons_zero, Res.bind_ok, Res.of_some, vw_i, vw_b, vw_s, vw_n, vw_t, vw_l, vw_d, vw_k, vw_c, it_l, it_t, it_s, op_add_i, op_sub_i, op_lt_i, op_le_i, op_gt_i, op_ge_i, op_eq_i, op_ne_i, op_eq_b, op_ne_b, bi_len_l, bi_len_t, bi_len_d, bi_len_c, op_ix_0, op_ix_1, op_ix_2, tp1, tp2, tp3, tp4, tp5, mk0, mk1, mk2, mk3, mk4, mk5, if_true, if_false, Bool.false_eq_true, Bool.not_true, Bool.not_false, Bool.true_and, Bool.false_and, Bool.true_or, Bool.false_or, bt_one, bt_tup, bt_lst, sa_nil, sa_cons, wipeD, List.length_map] <;> try rfl)) rfl fun f' hf' => ?_
    exact ⟨f', _, rfl, rfl, hf'⟩
  · rintro ρ μ ⟨f, x2, rfl, rfl, hf⟩
    exact wp_ret (d := .dic (wsE f)) (μ' := [.fz (.dic (wsE f))]) (by (simp only [ev_cst, ev_var, ev_bin, ev_call, ev_nil, ev_cons, ev_bool, ev_asB, ev_not, ev_and, ev_or, ev_tup, ev_lst, ev_yes, ev_chain, ev_andV2, ev_orV, orB_bb, orB_t, orB_f, andB_bb, andB_t, andB_f, ite_andB, ite_orB, op_is, op_isn, ev_bor, ev_borT, borT_ok, bor_b, bor_i, bor_s, bor_n, bor1, bor2, bora1, bora2, ev_notV, ev_ifE, ev_frzT, ev_met, ev_fld, ev_un, un_neg, ev_dnil, ev_methC, ev_iseq, ev_isi, List.getElem?_cons_succ, List.getElem?_cons_zero, List.set_cons_succ, List.set_cons_zero, Res.bind_ok, Res.of_some, vw_i, vw_b, vw_s, vw_n, vw_t, vw_l, vw_d, vw_k, vw_c, it_l, it_t, it_s, op_add_i, op_sub_i, op_lt_i, op_le_i, op_gt_i, op_ge_i, op_eq_i, op_ne_i, op_eq_b, op_ne_b, bi_len_l, bi_len_t, bi_len_d, bi_len_c, op_ix_0, op_ix_1, op_ix_2, tp1, tp2, tp3, tp4, tp5, mk0, mk1, mk2, mk3, mk4, mk5, if_true, if_false, Bool.false_eq_true, Bool.not_true, Bool.not_false, Bool.true_and, Bool.false_and, Bool.true_or, Bool.false_or, bt_one, bt_tup, bt_lst, sa_nil, sa_cons, wipeD, List.length_map, frzT, frz1] <;> try rfl)) ⟨⟨f, hf, rfl⟩, by simp only [closed, cl_ws]⟩
theorem f_begun {A : D} {M : Mc} {size : Nat} (h : McD A M size) : ∃ ws, SpOk M size [] ws ∧ ∀ μ, Φ_begun [A] μ = .ok (.dic (wsE ws)) μ := by
  obtain ⟨ws0, h0, e0⟩ := f_start_spots h
  have st : StepOk M size [] ws0 := ⟨h0.nd, fun p hp => h.st _ (h0.eq p hp).2.2, fun p hp => by
    obtain ⟨a, b, c⟩ := h0.eq p hp
    obtain ⟨⟨r, f⟩, w⟩ := p
    simp only at a b c
    subst a b
    exact Mc.at_start c, fun p hp => by rw [(h0.eq p hp).2.1]; exact Nat.zero_le _⟩
  obtain ⟨ws, ok, e⟩ := st.done h (Nat.zero_le _) fun ws' hsub cl sp hr => Mc.reach_nil (L := (· ∈ keysW ws')) (fun r hr => hsub _ (h0.all r hr)) cl sp hr
  refine ⟨ws, ok, fun μ => callP_wpe (by simp only [closeds, h.cl, Bool.and_self]) (by simp only [closed, cl_ws]) ?_ μ⟩
  show WP _ _ _ _ (m_begun [some A] [])
  unfold m_begun
  exact wp_ret (by (simp only [ev_cst, ev_var, ev_bin, ev_call, ev_nil, ev_cons, ev_bool, ev_asB, ev_not, ev_and, ev_or, ev_tup, ev_lst, ev_yes, ev_chain, ev_andV2, ev_orV, orB_bb, orB_t, orB_f, andB_bb, andB_t, andB_f, ite_andB, ite_orB, op_is, op_isn, ev_bor, ev_borT, borT_ok, bor_b, bor_i, bor_s, bor_n, bor1, bor2, bora1, bora2, ev_notV, ev_ifE, ev_frzT, ev_met, ev_fld, ev_un, un_neg, ev_dnil, ev_methC, ev_iseq, ev_isi, List.getElem?_cons_succ, List.getElem?_cons_zero, List.set_cons_succ, List.set_cons_zero, Res.bind_ok, Res.of_some, vw_i, vw_b, vw_s, vw_n, vw_t, vw_l, vw_d, vw_k, vw_c, it_l, it_t, it_s, op_add_i, op_sub_i, op_lt_i, op_le_i, op_gt_i, op_ge_i, op_eq_i, op_ne_i, op_eq_b, op_ne_b, bi_len_l, bi_len_t, bi_len_d, bi_len_c, op_ix_0, op_ix_1, op_ix_2, tp1, tp2, tp3, tp4, tp5, mk0, mk1, mk2, mk3, mk4, mk5, if_true, if_false, Bool.false_eq_true, Bool.not_true, Bool.not_false, Bool.true_and, Bool.false_and, Bool.true_or, Bool.false_or, bt_one, bt_tup, bt_lst, sa_nil, sa_cons, wipeD, List.length_map, e0, e] <;> try rfl)) rfl
theorem f_spots_behind {A : D} {M : Mc} {size : Nat} (h : McD A M size) {ss : List Str} (hl : ss.length ≤ 900) (hs : ∀ s ∈ ss, okS s) : ∃ ws, SpOk M size ss ws ∧ ∀ μ, Φ_spots_behind [A, .lst (ss.map .str)] μ = .ok (.dic (wsE ws)) μ := by
  suffices hh : ∃ d, (∃ ws, SpOk M size ss ws ∧ d = .dic (wsE ws)) ∧ closed d = true ∧ ∀ μ, Φ_spots_behind [A, .lst (ss.map .str)] μ = .ok d μ by
    obtain ⟨d, ⟨ws', h1, rfl⟩, _, k⟩ := hh
    exact ⟨ws', h1, k⟩
  refine callP_wp _ (by simp only [closeds, closed, h.cl, cl_strs, Bool.and_self]) ?_
  show WP _ _ _ _ (m_spots_behind [some A, some (.lst (ss.map .str)), none, none] [])
  unfold m_spots_behind
  obtain ⟨ws0, ok0, e0⟩ := f_begun h
  refine wp_seq (wp_set (by (simp only [ev_cst, ev_var, ev_bin, ev_call, ev_nil, ev_cons, ev_bool, ev_asB, ev_not, ev_and, ev_or, ev_tup, ev_lst, ev_yes, ev_chain, ev_andV2, ev_orV, orB_bb, orB_t, orB_f, andB_bb, andB_t, andB_f, ite_andB, ite_orB, op_is, op_isn, ev_bor, ev_borT, borT_ok, bor_b, bor_i, bor_s, bor_n, bor1, bor2, bora1, bora2, ev_notV, ev_ifE, ev_frzT, ev_met, ev_fld, ev_un, un_neg, ev_dnil, ev_methC, ev_iseq, ev_isi, List.getElem?_cons_succ, List.getElem?_cons_zero, List.set_cons_succ, List.set_cons_zero, Res.bind_ok, Res.of_some, vw_i, vw_b, vw_s, vw_n, vw_t, vw_l, vw_d, vw_k, vw_c, it_l, it_t, it_s, op_add_i, op_sub_i, op_lt_i, op_le_i, op_gt_i, op_ge_i, op_eq_i, op_ne_i, op_eq_b, op_ne_b, bi_len_l, bi_len_t, bi_len_d, bi_len_c, op_ix_0, op_ix_1, op_ix_2, tp1, tp2, tp3, tp4, tp5, mk0, mk1, mk2, mk3, mk4, mk5, if_true, if_false, Bool.false_eq_true, Bool.not_true, Bool.not_false, Bool.true_and, Bool.false_and, Bool.true_or, Bool.false_or, bt_one, bt_tup, bt_lst, sa_nil, sa_cons, wipeD, List.length_map, e0] <;> try rfl)) (by (simp only [List.set_cons_succ, List.set_cons_zero] <;> try rfl)) ?_)
  refine wp_seq (wp_for (e := D.str) ss (fun done ρ μ => μ = [] ∧ ∃ ws x3, ρ = [some A, some (.lst (ss.map .str)), some (.dic (wsE ws)), x3] ∧ SpOk M size done ws) (by (simp only [ev_cst, ev_var, ev_bin, ev_call, ev_nil, ev_cons, ev_bool, ev_asB, ev_not, ev_and, ev_or, ev_tup, ev_lst, ev_yes, ev_chain, ev_andV2, ev_orV, orB_bb, orB_t, orB_f, andB_bb, andB_t, andB_f, ite_andB, ite_orB, op_is, op_isn, ev_bor, ev_borT, borT_ok, bor_b, bor_i, bor_s, bor_n, bor1, bor2, bora1, bora2, ev_notV, ev_ifE, ev_frzT, ev_met, ev_fld, ev_un, un_neg, ev_dnil, ev_methC, ev_iseq, ev_isi, List.getElem?_cons_succ, List.getElem?_cons_zero, List.set_cons_succ, List.set_cons_zero, Res.bind_ok, Res.of_some, vw_i, vw_b, vw_s, vw_n, vw_t, vw_l, vw_d, vw_k, vw_c, it_l, it_t, it_s, op_add_i, op_sub_i, op_lt_i, op_le_i, op_gt_i, op_ge_i, op_eq_i, op_ne_i, op_eq_b, op_ne_b, bi_len_l, bi_len_t, bi_len_d, bi_len_c, op_ix_0, op_ix_1, op_ix_2, tp1, tp2, tp3, tp4, tp5, mk0, mk1, mk2, mk3, mk4, mk5, if_true, if_false, Bool.false_eq_true, Bool.not_true, Bool.not_false, Bool.true_and, Bool.false_and, Bool.true_or, Bool.false_or, bt_one, bt_tup, bt_lst, sa_nil, sa_cons, wipeD, List.length_map] <;> try rfl)) ⟨rfl, ws0, _, rfl, ok0⟩ ?_ ?_)
  · rintro done s rest ρ μ hq ⟨rfl, ws, x3, rfl, ok⟩
    refine ⟨_, rfl, ?_⟩
    obtain ⟨ws', ok', e⟩ := f_seen h ok (by rw [hq] at hl; simp only [List.length_append] at hl; omega) (hs s (by rw [hq]; simp))
    exact wp_set (by (simp only [ev_cst, ev_var, ev_bin, ev_call, ev_nil, ev_cons, ev_bool, ev_asB, ev_not, ev_and, ev_or, ev_tup, ev_lst, ev_yes, ev_chain, ev_andV2, ev_orV, orB_bb, orB_t, orB_f, andB_bb, andB_t, andB_f, ite_andB, ite_orB, op_is, op_isn, ev_bor, ev_borT, borT_ok, bor_b, bor_i, bor_s, bor_n, bor1, bor2, bora1, bora2, ev_notV, ev_ifE, ev_frzT, ev_met, ev_fld, ev_un, un_neg, ev_dnil, ev_methC, ev_iseq, ev_isi, List.getElem?_cons_succ, List.getElem?_cons_zero, List.set_cons_succ, List.set_cons_zero, Res.bind_ok, Res.of_some, vw_i, vw_b, vw_s, vw_n, vw_t, vw_l, vw_d, vw_k, vw_c, it_l, it_t, it_s, op_add_i, op_sub_i, op_lt_i, op_le_i, op_gt_i, op_ge_i, op_eq_i, op_ne_i, op_eq_b, op_ne_b, bi_len_l, bi_len_t, bi_len_d, bi_len_c, op_ix_0, op_ix_1, op_ix_2, tp1, tp2, tp3, tp4, tp5, mk0, mk1, mk2, mk3, mk4, mk5, if_true, if_false, Bool.false_eq_true, Bool.not_true, Bool.not_false, Bool.true_and, Bool.false_and, Bool.true_or, Bool.false_or, bt_one, bt_tup, bt_lst, sa_nil, sa_cons, wipeD, List.length_map, e] <;> try rfl)) (by (simp only [List.set_cons_succ, List.set_cons_zero] <;> try rfl)) ⟨rfl, ws', _, rfl, ok'⟩
  · rintro ρ μ ⟨rfl, ws, x3, rfl, ok⟩
    exact wp_ret (by (simp only [ev_cst, ev_var, ev_bin, ev_call, ev_nil, ev_cons, ev_bool, ev_asB, ev_not, ev_and, ev_or, ev_tup, ev_lst, ev_yes, ev_chain, ev_andV2, ev_orV, orB_bb, orB_t, orB_f, andB_bb, andB_t, andB_f, ite_andB, ite_orB, op_is, op_isn, ev_bor, ev_borT, borT_ok, bor_b, bor_i, bor_s, bor_n, bor1, bor2, bora1, bora2, ev_notV, ev_ifE, ev_frzT, ev_met, ev_fld, ev_un, un_neg, ev_dnil, ev_methC, ev_iseq, ev_isi, List.getElem?_cons_succ, List.getElem?_cons_zero, List.set_cons_succ, List.set_cons_zero, Res.bind_ok, Res.of_some, vw_i, vw_b, vw_s, vw_n, vw_t, vw_l, vw_d, vw_k, vw_c, it_l, it_t, it_s, op_add_i, op_sub_i, op_lt_i, op_le_i, op_gt_i, op_ge_i, op_eq_i, op_ne_i, op_eq_b, op_ne_b, bi_len_l, bi_len_t, bi_len_d, bi_len_c, op_ix_0, op_ix_1, op_ix_2, tp1, tp2, tp3, tp4, tp5, mk0, mk1, mk2, mk3, mk4, mk5, if_true, if_false, Bool.false_eq_true, Bool.not_true, Bool.not_false, Bool.true_and, Bool.false_and, Bool.true_or, Bool.false_or, bt_one, bt_tup, bt_lst, sa_nil, sa_cons, wipeD, List.length_map] <;> try rfl)) ⟨⟨ws, ok, rfl⟩, by simp only [closed, cl_ws]⟩
end SB
set_option Elab.async false
set_option linter.all false
set_option maxRecDepth 100000
namespace SB
open PySem L2
noncomputable def m_rooms_in_L : DS :=
  (sRet (dSortSet true (dComp false [1] (.one 1) (iKeys (dVar 0)) dYes (dBin (dVar 1) (dCst (.int 0)) opIx))))
noncomputable def Φ_rooms_in_L : Fn := callG 2 m_rooms_in_L
noncomputable def m_possible_L : DS :=
  (sRet (dCall (dCons (dCall (dCons (dVar 0) (dCons (dVar 1) dNil)) Φ_spots_behind) dNil) Φ_rooms_in_L))
noncomputable def Φ_possible_L : Fn := callG 2 m_possible_L
noncomputable def m_as_run_L : DS :=
  (sRet (dTup (dCons (dBin (dVar 0) (dCst (.int 0)) opIx) (dCons (dSlice true (dVar 0) (some (dCst (.int 1))) none) dNil))))
noncomputable def Φ_as_run_L : Fn := callG 1 m_as_run_L
noncomputable def m_run_to_L : DS :=
  (sSeq (sSet 3 (dCall (dCons (dVar 0) (dCons (dVar 1) dNil)) Φ_spots_behind))
  (sSeq (sFor (.one 4) (iSeq (dLst false (dCons (dCst (.bl false)) (dCons (dCst (.bl true)) dNil)))) (sIf (dBool (dBin (dTup (dCons (dVar 2) (dCons (dVar 4) dNil))) (dVar 3) opIn)) (sRet (dCall (dCons (dBin (dVar 3) (dTup (dCons (dVar 2) (dCons (dVar 4) dNil))) opIx) dNil) Φ_as_run_L)) sSkip))
  (sRet (dCst .non))))
noncomputable def Φ_run_to_L : Fn := callG 5 m_run_to_L
noncomputable def m_run_with_L : DS :=
  (sSeq (sSet 3 (dCall (dCons (dVar 0) (dCons (dVar 1) dNil)) Φ_spots_behind))
  (sSeq (sFor (.one 4) (iKeys (dVar 3)) (sIf (dBool (dBin (dBin (dVar 4) (dCst (.int 1)) opIx) (dVar 2) opEq)) (sRet (dCall (dCons (dBin (dVar 3) (dVar 4) opIx) dNil) Φ_as_run_L)) sSkip))
  (sRet (dCst .non))))
noncomputable def Φ_run_with_L : Fn := callG 5 m_run_with_L
end SB
set_option Elab.async false
set_option linter.all false
set_option maxRecDepth 10000
namespace SB
open PySem L2
theorem sss_congr {S : Shp} {l l' : List D} (h : ∀ x ∈ l, (keyS S x).isSome = true) (h' : ∀ x ∈ l', (keyS S x).isSome = true) (m : ∀ x, x ∈ l ↔ x ∈ l') : sortS S (nubS S l) = sortS S (nubS S l') := by
  refine sortS_uniq (fun x hx => h' x ((nubS_mem h' x).mp hx)) ?_ (sortS_srt S _)
  refine (sortS_perm S _).trans ((List.perm_ext_iff_of_nodup (nubS_nd h) (nubS_nd h')).mpr fun x => ?_)
  rw [nubS_mem h, nubS_mem h', m]
theorem ints_key (rs : List Int) : ∀ x ∈ rs.map D.int, (keyS .i x).isSome = true := fun x hx => by obtain ⟨r, _, rfl⟩ := List.mem_map.mp hx; rfl
theorem ssI_ex (rs : List Int) : ∃ bs : List Int, sortS .i (nubS .i (rs.map .int)) = bs.map D.int ∧ (∀ x ∈ bs, x ∈ rs) ∧ (∀ x ∈ rs, D.int x ∈ bs.map D.int) ∧ bs.length ≤ rs.length := sset D.int .i rs (ints_key rs)
/-- sorted(set(rs)) -/
noncomputable def ssI (rs : List Int) : List Int := Classical.choose (ssI_ex rs)
theorem ssI_spec (rs : List Int) : sortS .i (nubS .i (rs.map .int)) = (ssI rs).map D.int := (Classical.choose_spec (ssI_ex rs)).1
theorem ssI_len (rs : List Int) : (ssI rs).length ≤ rs.length := (Classical.choose_spec (ssI_ex rs)).2.2.2
theorem ssI_mem {rs : List Int} {x : Int} : x ∈ ssI rs ↔ x ∈ rs :=
  ⟨(Classical.choose_spec (ssI_ex rs)).2.1 x, fun h => by
    obtain ⟨y, hy, e⟩ := List.mem_map.mp ((Classical.choose_spec (ssI_ex rs)).2.2.1 x h)
    cases e; exact hy⟩
theorem int_map_inj : ∀ {l m : List Int}, l.map D.int = m.map D.int → l = m
  | [], [], _ => rfl
  | [], _ :: _, h => by cases h
  | _ :: _, [], h => by cases h
  | x :: l, y :: m, h => by
    simp only [List.map_cons, List.cons.injEq, D.int.injEq] at h
    rw [h.1, int_map_inj h.2]
theorem nodup_of_map' {α β : Type} {f : α → β} {l : List α} (h : (l.map f).Nodup) : l.Nodup := (List.pairwise_map.mp h).imp fun {a b} hne e => hne (congrArg f e)
theorem ssI_nd (rs : List Int) : (ssI rs).Nodup := by
  refine nodup_of_map' (f := D.int) ?_
  rw [← ssI_spec]
  exact (sortS_perm .i _).nodup_iff.mpr (nubS_nd (ints_key rs))
theorem ssI_congr {rs rs' : List Int} (h : ∀ x, x ∈ rs ↔ x ∈ rs') : ssI rs = ssI rs' := by
  refine int_map_inj ?_
  rw [← ssI_spec, ← ssI_spec]
  exact sss_congr (ints_key rs) (ints_key rs') fun x => by
    constructor <;> (intro hx; obtain ⟨r, hr, rfl⟩ := List.mem_map.mp hx)
    · exact List.mem_map.mpr ⟨r, (h r).mp hr, rfl⟩
    · exact List.mem_map.mpr ⟨r, (h r).mpr hr, rfl⟩
theorem ev_ssI {b : Bool} {f : DE} {ρ : Ev} {μ μ' : Mu} {rs : List Int} (hl : rs.length < 64) (hf : f ρ μ = .ok (.lst (rs.map .int)) μ') : dSortSet b f ρ μ = mkL b ((ssI rs).map .int) μ' := by
  unfold dSortSet
  rw [hf]
  simp only [Res.bind_ok, vw_l, seqL, shp_ints]
  rw [if_pos ⟨by rw [List.length_map]; exact hl, rfl⟩, ssI_spec]
def cB (fl : List Bool) : List Bool := if fl = [] then [] else if fl.all id then [true] else if fl.any id then [false, true] else [false]
theorem shp_bls : ∀ fl : List Bool, fl ≠ [] → shpAll (fl.map .bl) = some .b
  | [], h => absurd rfl h
  | r :: rs, _ => by
    have : ((r :: rs).map D.bl).all (fun y => (keyS .b y).isSome) = true := by
      rw [List.all_map, List.all_eq_true]; intro _ _; rfl
    show (match shpOf (.bl r) with | some S => if ((r :: rs).map D.bl).all (fun y => (keyS S y).isSome) then some S else none | none => none) = some .b
    simp only [shpOf, this, if_true]
theorem bls_key (rs : List Bool) : ∀ x ∈ rs.map D.bl, (keyS .b x).isSome = true := fun x hx => by obtain ⟨r, _, rfl⟩ := List.mem_map.mp hx; rfl
theorem ev_ssB {f : DE} {ρ : Ev} {μ μ' : Mu} {fl : List Bool} (hl : fl.length < 64) (hf : f ρ μ = .ok (.lst (fl.map .bl)) μ') : dSortSet false f ρ μ = .ok (.lst ((cB fl).map .bl)) μ' := by
  unfold dSortSet
  rw [hf]
  by_cases h0 : fl = []
  · subst h0; rfl
  · simp only [Res.bind_ok, vw_l, seqL, shp_bls fl h0]
    rw [if_pos ⟨by rw [List.length_map]; exact hl, rfl⟩]
    have key : ∀ c : List Bool, (∀ x, x ∈ fl ↔ x ∈ c) → sortS .b (nubS .b (fl.map .bl)) = sortS .b (nubS .b (c.map .bl)) := fun c h => sss_congr (bls_key fl) (bls_key c) fun x => by
      constructor <;> (intro hx; obtain ⟨r, hr, rfl⟩ := List.mem_map.mp hx)
      · exact List.mem_map.mpr ⟨r, (h r).mp hr, rfl⟩
      · exact List.mem_map.mpr ⟨r, (h r).mpr hr, rfl⟩
    have mk : ∀ c : List Bool, c.length ≤ 2 → mkL false (c.map D.bl) μ' = .ok (.lst (c.map D.bl)) μ' := fun c hc => mkL_f (sz (by rw [List.length_map]; omega))
    have ne : ∃ x, x ∈ fl := List.exists_mem_of_ne_nil fl h0
    unfold cB
    rw [if_neg h0]
    by_cases h1 : fl.all id = true
    · rw [if_pos h1, key [true] (fun x => ?_)]
      · exact mk [true] (by decide)
      · have h1 := List.all_eq_true.mp h1
        constructor
        · intro hx; have := h1 x hx; simp only [id] at this; rw [this]; exact List.mem_singleton.mpr rfl
        · intro hx
          obtain ⟨y, hy⟩ := ne
          have := h1 y hy; simp only [id] at this
          rw [List.mem_singleton.mp hx, ← this]; exact hy
    · rw [if_neg h1]
      have hf : false ∈ fl := by
        refine Classical.byContradiction fun hn => h1 (List.all_eq_true.mpr fun x hx => ?_)
        cases x with
        | false => exact absurd hx hn
        | true => rfl
      by_cases h2 : fl.any id = true
      · rw [if_pos h2, key [false, true] (fun x => ?_)]
        · exact mk [false, true] (by decide)
        · obtain ⟨y, hy, k⟩ := List.any_eq_true.mp h2
          simp only [id] at k
          rw [k] at hy
          cases x <;> simp [hf, hy]
      · rw [if_neg h2, key [false] (fun x => ?_)]
        · exact mk [false] (by decide)
        · cases x with
          | false => simp [hf]
          | true =>
            constructor
            · intro hx; exact absurd (List.any_eq_true.mpr ⟨true, hx, rfl⟩) h2
            · intro hx; simp at hx
/-- the word for some flags -/
def vd (fl : List Bool) : Str := if fl = [] then "never" else if fl.all id then "sure" else if fl.any id then "maybe" else "clear"
theorem mem_all {fl : List Bool} : fl.all id = true ↔ false ∉ fl := by
  rw [List.all_eq_true]
  constructor
  · intro h hf; exact absurd (h _ hf) (by decide)
  · intro h x hx; cases x with
    | false => exact absurd hx h
    | true => rfl
theorem mem_any {fl : List Bool} : fl.any id = true ↔ true ∈ fl := by
  rw [List.any_eq_true]
  constructor
  · rintro ⟨x, hx, h⟩; simp only [id] at h; exact h ▸ hx
  · intro h; exact ⟨true, h, rfl⟩
theorem mem_nil {fl : List Bool} : fl = [] ↔ true ∉ fl ∧ false ∉ fl := by
  constructor
  · rintro rfl; simp
  · rintro ⟨h1, h2⟩
    exact List.eq_nil_iff_forall_not_mem.mpr fun x hx => by cases x with
      | false => exact h2 hx
      | true => exact h1 hx
theorem vd_congr {fl fl' : List Bool} (h : ∀ x, x ∈ fl ↔ x ∈ fl') : vd fl = vd fl' := by
  unfold vd
  have h1 : (fl = []) = (fl' = []) := propext (by rw [mem_nil, mem_nil, h, h])
  have h2 : (fl.all id = true) = (fl'.all id = true) := propext (by rw [mem_all, mem_all, h])
  have h3 : (fl.any id = true) = (fl'.any id = true) := propext (by rw [mem_any, mem_any, h])
  simp only [h1, h2, h3]
theorem wsE_keys (ws : Ws) : (wsE ws).map (·.1) = ws.map fun p => spD p.1 := by rw [List.map_map]; rfl
theorem f_verdict_of {ws : Ws} (hl : ws.length < 64) (μ : Mu) : Φ_verdict_of [.dic (wsE ws)] μ = .ok (.str (vd ((keysW ws).map (·.2)))) μ := by
  refine callP_wpe (by simp only [closeds, closed, cl_ws, Bool.and_self]) rfl ?_ μ
  show WP _ _ _ _ (m_verdict_of [some (.dic (wsE ws)), none, none] [])
  unfold m_verdict_of
  have e : dComp false [2] (.one 2) (iKeys (dVar 0)) dYes (dBin (dVar 2) (dCst (.int 1)) opIx) [some (.dic (wsE ws)), none, none] [] = .ok (.lst (((keysW ws).map (·.2)).map .bl)) [] := by
    rw [ev_compA (e := fun p : Spt × Way => spD p.1) (e' := D.bl) ws (fun p => p.1.2) (by rw [ev_keys (es := wsE ws) (by (simp only [ev_cst, ev_var, ev_bin, ev_call, ev_nil, ev_cons, ev_bool, ev_asB, ev_not, ev_and, ev_or, ev_tup, ev_lst, ev_yes, ev_chain, ev_andV2, ev_orV, orB_bb, orB_t, orB_f, andB_bb, andB_t, andB_f, ite_andB, ite_orB, op_is, op_isn, ev_bor, ev_borT, borT_ok, bor_b, bor_i, bor_s, bor_n, bor1, bor2, bora1, bora2, ev_notV, ev_ifE, ev_frzT, ev_met, ev_fld, ev_un, un_neg, ev_dnil, ev_methC, ev_iseq, ev_isi, List.getElem?_cons_succ, List.getElem?_cons_zero, List.set_cons_succ, List.set_cons_zero, Res.bind_ok, Res.of_some, vw_i, vw_b, vw_s, vw_n, vw_t, vw_l, vw_d, vw_k, vw_c, it_l, it_t, it_s, op_add_i, op_sub_i, op_lt_i, op_le_i, op_gt_i, op_ge_i, op_eq_i, op_ne_i, op_eq_b, op_ne_b, bi_len_l, bi_len_t, bi_len_d, bi_len_c, op_ix_0, op_ix_1, op_ix_2, tp1, tp2, tp3, tp4, tp5, mk0, mk1, mk2, mk3, mk4, mk5, if_true, if_false, Bool.false_eq_true, Bool.not_true, Bool.not_false, Bool.true_and, Bool.false_and, Bool.true_or, Bool.false_or, bt_one, bt_tup, bt_lst, sa_nil, sa_cons, wipeD, List.length_map] <;> try rfl)), wsE_keys]) (by omega) fun a _ => ⟨_, rfl, by
      show dBin _ _ _ [some (.dic (wsE ws)), none, some (spD a.1)] [] = _
      (simp only [ev_cst, ev_var, ev_bin, ev_call, ev_nil, ev_cons, ev_bool, ev_asB, ev_not, ev_and, ev_or, ev_tup, ev_lst, ev_yes, ev_chain, ev_andV2, ev_orV, orB_bb, orB_t, orB_f, andB_bb, andB_t, andB_f, ite_andB, ite_orB, op_is, op_isn, ev_bor, ev_borT, borT_ok, bor_b, bor_i, bor_s, bor_n, bor1, bor2, bora1, bora2, ev_notV, ev_ifE, ev_frzT, ev_met, ev_fld, ev_un, un_neg, ev_dnil, ev_methC, ev_iseq, ev_isi, List.getElem?_cons_succ, List.getElem?_cons_zero, List.set_cons_succ, List.set_cons_zero, Res.bind_ok, Res.of_some, vw_i, vw_b, vw_s, vw_n, vw_t, vw_l, vw_d, vw_k, vw_c, it_l, it_t, it_s, op_add_i, op_sub_i, op_lt_i, op_le_i, op_gt_i, op_ge_i, op_eq_i, op_ne_i, op_eq_b, op_ne_b, bi_len_l, bi_len_t, bi_len_d, bi_len_c, op_ix_0, op_ix_1, op_ix_2, tp1, tp2, tp3, tp4, tp5, mk0, mk1, mk2, mk3, mk4, mk5, if_true, if_false, Bool.false_eq_true, Bool.not_true, Bool.not_false, Bool.true_and, Bool.false_and, Bool.true_or, Bool.false_or, bt_one, bt_tup, bt_lst, sa_nil, sa_cons, wipeD, List.length_map, spD] <;> try rfl)⟩]
    simp [List.map_map]
  generalize hfl : (keysW ws).map (·.2) = fl at e
  have hfl' : fl.length < 64 := by rw [← hfl, List.length_map, List.length_map]; exact hl
  refine wp_seq (wp_set (ev_ssB hfl' e) (by (simp only [List.set_cons_succ, List.set_cons_zero] <;> try rfl)) ?_)
  have q : ∀ (b : List Bool) (y : D), y = .lst (b.map .bl) → ∀ μ, opEq (.lst ((cB fl).map .bl)) y μ = .ok (.bl (decide (cB fl = b))) μ := fun b y hy μ => by
    subst hy; exact (em_lst em_bl).opEq (a := cB fl) (b := b) (by decide) (fun _ _ => trivial) (fun _ _ => trivial) μ
  have q0 := q [] _ rfl
  have q1 := q [true] _ rfl
  have q2 := q [false] _ rfl
  simp only [List.map_cons, List.map_nil] at q0 q1 q2
  refine wp_seq (wp_if (b := decide (cB fl = [])) (by (simp only [ev_cst, ev_var, ev_bin, ev_call, ev_nil, ev_cons, ev_bool, ev_asB, ev_not, ev_and, ev_or, ev_tup, ev_lst, ev_yes, ev_chain, ev_andV2, ev_orV, orB_bb, orB_t, orB_f, andB_bb, andB_t, andB_f, ite_andB, ite_orB, op_is, op_isn, ev_bor, ev_borT, borT_ok, bor_b, bor_i, bor_s, bor_n, bor1, bor2, bora1, bora2, ev_notV, ev_ifE, ev_frzT, ev_met, ev_fld, ev_un, un_neg, ev_dnil, ev_methC, ev_iseq, ev_isi, List.getElem?_cons_succ, List.getElem?_cons_zero, List.set_cons_succ, List.set_cons_zero, Res.bind_ok, Res.of_some, vw_i, vw_b, vw_s, vw_n, vw_t, vw_l, vw_d, vw_k, vw_c, it_l, it_t, it_s, op_add_i, op_sub_i, op_lt_i, op_le_i, op_gt_i, op_ge_i, op_eq_i, op_ne_i, op_eq_b, op_ne_b, bi_len_l, bi_len_t, bi_len_d, bi_len_c, op_ix_0, op_ix_1, op_ix_2, tp1, tp2, tp3, tp4, tp5, mk0, mk1, mk2, mk3, mk4, mk5, if_true, if_false, Bool.false_eq_true, Bool.not_true, Bool.not_false, Bool.true_and, Bool.false_and, Bool.true_or, Bool.false_or, bt_one, bt_tup, bt_lst, sa_nil, sa_cons, wipeD, List.length_map, q0] <;> try rfl)) (fun hb => wp_ret (by (simp only [ev_cst, ev_var, ev_bin, ev_call, ev_nil, ev_cons, ev_bool, ev_asB, ev_not, ev_and, ev_or, ev_tup, ev_lst, ev_yes, ev_chain, ev_andV2, ev_orV, orB_bb, orB_t, orB_f, andB_bb, andB_t, andB_f, ite_andB, ite_orB, op_is, op_isn, ev_bor, ev_borT, borT_ok, bor_b, bor_i, bor_s, bor_n, bor1, bor2, bora1, bora2, ev_notV, ev_ifE, ev_frzT, ev_met, ev_fld, ev_un, un_neg, ev_dnil, ev_methC, ev_iseq, ev_isi, List.getElem?_cons_succ, List.getElem?_cons_zero, List.set_cons_succ, List.set_cons_zero, Res.bind_ok, Res.of_some, vw_i, vw_b, vw_s, vw_n, vw_t, vw_l, vw_d, vw_k, vw_c, it_l, it_t, it_s, op_add_i, op_sub_i, op_lt_i, op_le_i, op_gt_i, op_ge_i, op_eq_i, op_ne_i, op_eq_b, op_ne_b, bi_len_l, bi_len_t, bi_len_d, bi_len_c, op_ix_0, op_ix_1, op_ix_2, tp1, tp2, tp3, tp4, tp5, mk0, mk1, mk2, mk3, mk4, mk5, if_true, if_false, Bool.false_eq_true, Bool.not_true, Bool.not_false, Bool.true_and, Bool.false_and, Bool.true_or, Bool.false_or, bt_one, bt_tup, bt_lst, sa_nil, sa_cons, wipeD, List.length_map] <;> try rfl)) ?_) (fun hb => wp_skip ?_))
  · have hb := of_decide_eq_true hb
    unfold cB at hb; unfold vd
    split at hb
    · rw [if_pos (by assumption)]
    · split at hb
      · cases hb
      · split at hb <;> cases hb
  refine wp_seq (wp_if (b := decide (cB fl = [true])) (by (simp only [ev_cst, ev_var, ev_bin, ev_call, ev_nil, ev_cons, ev_bool, ev_asB, ev_not, ev_and, ev_or, ev_tup, ev_lst, ev_yes, ev_chain, ev_andV2, ev_orV, orB_bb, orB_t, orB_f, andB_bb, andB_t, andB_f, ite_andB, ite_orB, op_is, op_isn, ev_bor, ev_borT, borT_ok, bor_b, bor_i, bor_s, bor_n, bor1, bor2, bora1, bora2, ev_notV, ev_ifE, ev_frzT, ev_met, ev_fld, ev_un, un_neg, ev_dnil, ev_methC, ev_iseq, ev_isi, List.getElem?_cons_succ, List.getElem?_cons_zero, List.set_cons_succ, List.set_cons_zero, Res.bind_ok, Res.of_some, vw_i, vw_b, vw_s, vw_n, vw_t, vw_l, vw_d, vw_k, vw_c, it_l, it_t, it_s, op_add_i, op_sub_i, op_lt_i, op_le_i, op_gt_i, op_ge_i, op_eq_i, op_ne_i, op_eq_b, op_ne_b, bi_len_l, bi_len_t, bi_len_d, bi_len_c, op_ix_0, op_ix_1, op_ix_2, tp1, tp2, tp3, tp4, tp5, mk0, mk1, mk2, mk3, mk4, mk5, if_true, if_false, Bool.false_eq_true, Bool.not_true, Bool.not_false, Bool.true_and, Bool.false_and, Bool.true_or, Bool.false_or, bt_one, bt_tup, bt_lst, sa_nil, sa_cons, wipeD, List.length_map, q1] <;> try rfl)) (fun hb => wp_ret (by (simp only [ev_cst, ev_var, ev_bin, ev_call, ev_nil, ev_cons, ev_bool, ev_asB, ev_not, ev_and, ev_or, ev_tup, ev_lst, ev_yes, ev_chain, ev_andV2, ev_orV, orB_bb, orB_t, orB_f, andB_bb, andB_t, andB_f, ite_andB, ite_orB, op_is, op_isn, ev_bor, ev_borT, borT_ok, bor_b, bor_i, bor_s, bor_n, bor1, bor2, bora1, bora2, ev_notV, ev_ifE, ev_frzT, ev_met, ev_fld, ev_un, un_neg, ev_dnil, ev_methC, ev_iseq, ev_isi, List.getElem?_cons_succ, List.getElem?_cons_zero, List.set_cons_succ, List.set_cons_zero, Res.bind_ok, Res.of_some, vw_i, vw_b, vw_s, vw_n, vw_t, vw_l, vw_d, vw_k, vw_c, it_l, it_t, it_s, op_add_i, op_sub_i, op_lt_i, op_le_i, op_gt_i, op_ge_i, op_eq_i, op_ne_i, op_eq_b, op_ne_b, bi_len_l, bi_len_t, bi_len_d, bi_len_c, op_ix_0, op_ix_1, op_ix_2, tp1, tp2, tp3, tp4, tp5, mk0, mk1, mk2, mk3, mk4, mk5, if_true, if_false, Bool.false_eq_true, Bool.not_true, Bool.not_false, Bool.true_and, Bool.false_and, Bool.true_or, Bool.false_or, bt_one, bt_tup, bt_lst, sa_nil, sa_cons, wipeD, List.length_map] <;> try rfl)) ?_) (fun hb => wp_skip ?_))
  · have hb := of_decide_eq_true hb
    unfold cB at hb; unfold vd
    split at hb
    · cases hb
    · rw [if_neg (by assumption)]
      split at hb
      · rw [if_pos (by assumption)]
      · split at hb <;> cases hb
  refine wp_seq (wp_if (b := decide (cB fl = [false])) (by (simp only [ev_cst, ev_var, ev_bin, ev_call, ev_nil, ev_cons, ev_bool, ev_asB, ev_not, ev_and, ev_or, ev_tup, ev_lst, ev_yes, ev_chain, ev_andV2, ev_orV, orB_bb, orB_t, orB_f, andB_bb, andB_t, andB_f, ite_andB, ite_orB, op_is, op_isn, ev_bor, ev_borT, borT_ok, bor_b, bor_i, bor_s, bor_n, bor1, bor2, bora1, bora2, ev_notV, ev_ifE, ev_frzT, ev_met, ev_fld, ev_un, un_neg, ev_dnil, ev_methC, ev_iseq, ev_isi, List.getElem?_cons_succ, List.getElem?_cons_zero, List.set_cons_succ, List.set_cons_zero, Res.bind_ok, Res.of_some, vw_i, vw_b, vw_s, vw_n, vw_t, vw_l, vw_d, vw_k, vw_c, it_l, it_t, it_s, op_add_i, op_sub_i, op_lt_i, op_le_i, op_gt_i, op_ge_i, op_eq_i, op_ne_i, op_eq_b, op_ne_b, bi_len_l, bi_len_t, bi_len_d, bi_len_c, op_ix_0, op_ix_1, op_ix_2, tp1, tp2, tp3, tp4, tp5, mk0, mk1, mk2, mk3, mk4, mk5, if_true, if_false, Bool.false_eq_true, Bool.not_true, Bool.not_false, Bool.true_and, Bool.false_and, Bool.true_or, Bool.false_or, bt_one, bt_tup, bt_lst, sa_nil, sa_cons, wipeD, List.length_map, q2] <;> try rfl)) (fun hb => wp_ret (by (simp only [ev_cst, ev_var, ev_bin, ev_call, ev_nil, ev_cons, ev_bool, ev_asB, ev_not, ev_and, ev_or, ev_tup, ev_lst, ev_yes, ev_chain, ev_andV2, ev_orV, orB_bb, orB_t, orB_f, andB_bb, andB_t, andB_f, ite_andB, ite_orB, op_is, op_isn, ev_bor, ev_borT, borT_ok, bor_b, bor_i, bor_s, bor_n, bor1, bor2, bora1, bora2, ev_notV, ev_ifE, ev_frzT, ev_met, ev_fld, ev_un, un_neg, ev_dnil, ev_methC, ev_iseq, ev_isi, List.getElem?_cons_succ, List.getElem?_cons_zero, List.set_cons_succ, List.set_cons_zero, Res.bind_ok, Res.of_some, vw_i, vw_b, vw_s, vw_n, vw_t, vw_l, vw_d, vw_k, vw_c, it_l, it_t, it_s, op_add_i, op_sub_i, op_lt_i, op_le_i, op_gt_i, op_ge_i, op_eq_i, op_ne_i, op_eq_b, op_ne_b, bi_len_l, bi_len_t, bi_len_d, bi_len_c, op_ix_0, op_ix_1, op_ix_2, tp1, tp2, tp3, tp4, tp5, mk0, mk1, mk2, mk3, mk4, mk5, if_true, if_false, Bool.false_eq_true, Bool.not_true, Bool.not_false, Bool.true_and, Bool.false_and, Bool.true_or, Bool.false_or, bt_one, bt_tup, bt_lst, sa_nil, sa_cons, wipeD, List.length_map] <;> try rfl)) ?_) (fun hb => wp_skip (wp_ret (by (simp only [ev_cst, ev_var, ev_bin, ev_call, ev_nil, ev_cons, ev_bool, ev_asB, ev_not, ev_and, ev_or, ev_tup, ev_lst, ev_yes, ev_chain, ev_andV2, ev_orV, orB_bb, orB_t, orB_f, andB_bb, andB_t, andB_f, ite_andB, ite_orB, op_is, op_isn, ev_bor, ev_borT, borT_ok, bor_b, bor_i, bor_s, bor_n, bor1, bor2, bora1, bora2, ev_notV, ev_ifE, ev_frzT, ev_met, ev_fld, ev_un, un_neg, ev_dnil, ev_methC, ev_iseq, ev_isi, List.getElem?_cons_succ, List.getElem?_cons_zero, List.set_cons_succ, List.set_cons_zero, Res.bind_ok, Res.of_some, vw_i, vw_b, vw_s, vw_n, vw_t, vw_l, vw_d, vw_k, vw_c, it_l, it_t, it_s, op_add_i, op_sub_i, op_lt_i, op_le_i, op_gt_i, op_ge_i, op_eq_i, op_ne_i, op_eq_b, op_ne_b, bi_len_l, bi_len_t, bi_len_d, bi_len_c, op_ix_0, op_ix_1, op_ix_2, tp1, tp2, tp3, tp4, tp5, mk0, mk1, mk2, mk3, mk4, mk5, if_true, if_false, Bool.false_eq_true, Bool.not_true, Bool.not_false, Bool.true_and, Bool.false_and, Bool.true_or, Bool.false_or, bt_one, bt_tup, bt_lst, sa_nil, sa_cons, wipeD, List.length_map] <;> try rfl)) ?_)))
  · have hb := of_decide_eq_true hb
    unfold cB at hb; unfold vd
    split at hb
    · cases hb
    · rw [if_neg (by assumption)]
      split at hb
      · cases hb
      · rw [if_neg (by assumption)]
        split at hb
        · cases hb
        · rw [if_neg (by assumption)]
  · rename_i h0 h1
    have h0 := of_decide_eq_false h0
    have h1 := of_decide_eq_false h1
    have hb := of_decide_eq_false hb
    unfold cB at hb h0 h1; unfold vd
    split at hb
    · rename_i z; rw [if_pos z] at h0; exact absurd rfl h0
    · rename_i z
      rw [if_neg z] at h0 h1 ⊢
      split at hb
      · rename_i z; rw [if_pos z] at h1; exact absurd rfl h1
      · rename_i z
        rw [if_neg z]
        split at hb
        · rename_i z; rw [if_pos z]
        · exact absurd rfl hb
theorem ev_rooms {ws : Ws} (hl : ws.length < 64) (μ : Mu) : dComp false [1] (.one 1) (iKeys (dVar 0)) dYes (dBin (dVar 1) (dCst (.int 0)) opIx) [some (.dic (wsE ws)), none] μ = .ok (.lst (((keysW ws).map (·.1)).map .int)) μ := by
  rw [ev_compA (e := fun p : Spt × Way => spD p.1) (e' := D.int) ws (fun p => p.1.1) (by rw [ev_keys (es := wsE ws) (by (simp only [ev_cst, ev_var, ev_bin, ev_call, ev_nil, ev_cons, ev_bool, ev_asB, ev_not, ev_and, ev_or, ev_tup, ev_lst, ev_yes, ev_chain, ev_andV2, ev_orV, orB_bb, orB_t, orB_f, andB_bb, andB_t, andB_f, ite_andB, ite_orB, op_is, op_isn, ev_bor, ev_borT, borT_ok, bor_b, bor_i, bor_s, bor_n, bor1, bor2, bora1, bora2, ev_notV, ev_ifE, ev_frzT, ev_met, ev_fld, ev_un, un_neg, ev_dnil, ev_methC, ev_iseq, ev_isi, List.getElem?_cons_succ, List.getElem?_cons_zero, List.set_cons_succ, List.set_cons_zero, Res.bind_ok, Res.of_some, vw_i, vw_b, vw_s, vw_n, vw_t, vw_l, vw_d, vw_k, vw_c, it_l, it_t, it_s, op_add_i, op_sub_i, op_lt_i, op_le_i, op_gt_i, op_ge_i, op_eq_i, op_ne_i, op_eq_b, op_ne_b, bi_len_l, bi_len_t, bi_len_d, bi_len_c, op_ix_0, op_ix_1, op_ix_2, tp1, tp2, tp3, tp4, tp5, mk0, mk1, mk2, mk3, mk4, mk5, if_true, if_false, Bool.false_eq_true, Bool.not_true, Bool.not_false, Bool.true_and, Bool.false_and, Bool.true_or, Bool.false_or, bt_one, bt_tup, bt_lst, sa_nil, sa_cons, wipeD, List.length_map] <;> try rfl)), wsE_keys]) (by omega) fun a _ => ⟨_, rfl, by
    show dBin _ _ _ [some (.dic (wsE ws)), some (spD a.1)] μ = _
    (simp only [ev_cst, ev_var, ev_bin, ev_call, ev_nil, ev_cons, ev_bool, ev_asB, ev_not, ev_and, ev_or, ev_tup, ev_lst, ev_yes, ev_chain, ev_andV2, ev_orV, orB_bb, orB_t, orB_f, andB_bb, andB_t, andB_f, ite_andB, ite_orB, op_is, op_isn, ev_bor, ev_borT, borT_ok, bor_b, bor_i, bor_s, bor_n, bor1, bor2, bora1, bora2, ev_notV, ev_ifE, ev_frzT, ev_met, ev_fld, ev_un, un_neg, ev_dnil, ev_methC, ev_iseq, ev_isi, List.getElem?_cons_succ, List.getElem?_cons_zero, List.set_cons_succ, List.set_cons_zero, Res.bind_ok, Res.of_some, vw_i, vw_b, vw_s, vw_n, vw_t, vw_l, vw_d, vw_k, vw_c, it_l, it_t, it_s, op_add_i, op_sub_i, op_lt_i, op_le_i, op_gt_i, op_ge_i, op_eq_i, op_ne_i, op_eq_b, op_ne_b, bi_len_l, bi_len_t, bi_len_d, bi_len_c, op_ix_0, op_ix_1, op_ix_2, tp1, tp2, tp3, tp4, tp5, mk0, mk1, mk2, mk3, mk4, mk5, if_true, if_false, Bool.false_eq_true, Bool.not_true, Bool.not_false, Bool.true_and, Bool.false_and, Bool.true_or, Bool.false_or, bt_one, bt_tup, bt_lst, sa_nil, sa_cons, wipeD, List.length_map, spD] <;> try rfl)⟩]
  simp [List.map_map]
abbrev roomsW (ws : Ws) : List Int := (keysW ws).map (·.1)
theorem f_rooms_in {ws : Ws} (hl : ws.length < 64) (μ : Mu) : Φ_rooms_in [.dic (wsE ws)] μ = .ok (.lst ((ssI (roomsW ws)).map .int)) μ := by
  refine callP_wpe (by simp only [closeds, closed, cl_ws, Bool.and_self]) (by simp only [closed, cl_ints]) ?_ μ
  show WP _ _ _ _ (m_rooms_in [some (.dic (wsE ws)), none] [])
  have hl' : (roomsW ws).length < 64 := by rw [List.length_map, List.length_map]; exact hl
  have := ssI_len (roomsW ws)
  exact wp_ret (by rw [ev_ssI hl' (ev_rooms hl []), mkL_f (sz (by rw [List.length_map]; omega))]) rfl
section
variable {A : D} {M : Mc} {size : Nat} {ss : List Str}
theorem f_possible (h : McD A M size) (hl : ss.length ≤ 900) (hs : ∀ s ∈ ss, okS s) : ∃ ws, SpOk M size ss ws ∧ ∀ μ, Φ_possible [A, .lst (ss.map .str)] μ = .ok (.lst ((ssI (roomsW ws)).map .int)) μ := by
  obtain ⟨ws, ok, e⟩ := f_spots_behind h hl hs
  refine ⟨ws, ok, fun μ => callP_wpe (by simp only [closeds, closed, h.cl, cl_strs, Bool.and_self]) (by simp only [closed, cl_ints]) ?_ μ⟩
  show WP _ _ _ _ (m_possible [some A, some (.lst (ss.map .str))] [])
  exact wp_ret (by (simp only [ev_cst, ev_var, ev_bin, ev_call, ev_nil, ev_cons, ev_bool, ev_asB, ev_not, ev_and, ev_or, ev_tup, ev_lst, ev_yes, ev_chain, ev_andV2, ev_orV, orB_bb, orB_t, orB_f, andB_bb, andB_t, andB_f, ite_andB, ite_orB, op_is, op_isn, ev_bor, ev_borT, borT_ok, bor_b, bor_i, bor_s, bor_n, bor1, bor2, bora1, bora2, ev_notV, ev_ifE, ev_frzT, ev_met, ev_fld, ev_un, un_neg, ev_dnil, ev_methC, ev_iseq, ev_isi, List.getElem?_cons_succ, List.getElem?_cons_zero, List.set_cons_succ, List.set_cons_zero, Res.bind_ok, Res.of_some, vw_i, vw_b, vw_s, vw_n, vw_t, vw_l, vw_d, vw_k, vw_c, it_l, it_t, it_s, op_add_i, op_sub_i, op_lt_i, op_le_i, op_gt_i, op_ge_i, op_eq_i, op_ne_i, op_eq_b, op_ne_b, bi_len_l, bi_len_t, bi_len_d, bi_len_c, op_ix_0, op_ix_1, op_ix_2, tp1, tp2, tp3, tp4, tp5, mk0, mk1, mk2, mk3, mk4, mk5, if_true, if_false, Bool.false_eq_true, Bool.not_true, Bool.not_false, Bool.true_and, Bool.false_and, Bool.true_or, Bool.false_or, bt_one, bt_tup, bt_lst, sa_nil, sa_cons, wipeD, List.length_map, e, f_rooms_in (ws := ws) (by have := ok.few h.s8; omega)] <;> try rfl)) rfl
theorem f_verdict (h : McD A M size) (hl : ss.length ≤ 900) (hs : ∀ s ∈ ss, okS s) : ∃ ws, SpOk M size ss ws ∧ ∀ μ, Φ_verdict [A, .lst (ss.map .str)] μ = .ok (.str (vd ((keysW ws).map (·.2)))) μ := by
  obtain ⟨ws, ok, e⟩ := f_spots_behind h hl hs
  refine ⟨ws, ok, fun μ => callP_wpe (by simp only [closeds, closed, h.cl, cl_strs, Bool.and_self]) rfl ?_ μ⟩
  show WP _ _ _ _ (m_verdict [some A, some (.lst (ss.map .str))] [])
  exact wp_ret (by (simp only [ev_cst, ev_var, ev_bin, ev_call, ev_nil, ev_cons, ev_bool, ev_asB, ev_not, ev_and, ev_or, ev_tup, ev_lst, ev_yes, ev_chain, ev_andV2, ev_orV, orB_bb, orB_t, orB_f, andB_bb, andB_t, andB_f, ite_andB, ite_orB, op_is, op_isn, ev_bor, ev_borT, borT_ok, bor_b, bor_i, bor_s, bor_n, bor1, bor2, bora1, bora2, ev_notV, ev_ifE, ev_frzT, ev_met, ev_fld, ev_un, un_neg, ev_dnil, ev_methC, ev_iseq, ev_isi, List.getElem?_cons_succ, List.getElem?_cons_zero, List.set_cons_succ, List.set_cons_zero, Res.bind_ok, Res.of_some, vw_i, vw_b, vw_s, vw_n, vw_t, vw_l, vw_d, vw_k, vw_c, it_l, it_t, it_s, op_add_i, op_sub_i, op_lt_i, op_le_i, op_gt_i, op_ge_i, op_eq_i, op_ne_i, op_eq_b, op_ne_b, bi_len_l, bi_len_t, bi_len_d, bi_len_c, op_ix_0, op_ix_1, op_ix_2, tp1, tp2, tp3, tp4, tp5, mk0, mk1, mk2, mk3, mk4, mk5, if_true, if_false, Bool.false_eq_true, Bool.not_true, Bool.not_false, Bool.true_and, Bool.false_and, Bool.true_or, Bool.false_or, bt_one, bt_tup, bt_lst, sa_nil, sa_cons, wipeD, List.length_map, e, f_verdict_of (ws := ws) (by have := ok.few h.s8; omega)] <;> try rfl)) rfl
end
end SB
set_option Elab.async false
set_option linter.all false
set_option maxRecDepth 10000
namespace SB
open PySem L2
theorem op_add_l {α : Type} {e : α → D} {xs ys : List α} (μ : Mu) (h : xs.length + ys.length ≤ 100000) : opAdd false (.lst (xs.map e)) (.lst (ys.map e)) μ = .ok (.lst ((xs ++ ys).map e)) μ := by
  unfold opAdd
  simp only [vw_l]
  rw [mkL_f (sz (by rw [List.length_append, List.length_map, List.length_map]; omega)), List.map_append]
theorem op_eq_nil {α : Type} [DecidableEq α] {e : α → D} {ok : α → Prop} {n : Nat} (h : Em e ok n) (hn : n ≤ 7) {xs : List α} (hx : ∀ a ∈ xs, ok a) (μ : Mu) : opEq (.lst (xs.map e)) (.lst []) μ = .ok (.bl (decide (xs = []))) μ :=
  (em_lst h).opEq (a := xs) (b := []) (by omega) hx (fun _ h => absurd h List.not_mem_nil) μ
abbrev runD (room : Int) (row : List Mv) : D := .tup [.int room, .lst (row.map mvD)]
@[simp] theorem mv_ix0' {m : Mv} {μ : Mu} : opIx (mvD m) (.int 0) μ = .ok (.int m.h) μ := op_ix_0
@[simp] theorem mv_ix1' {m : Mv} {μ : Mu} : opIx (mvD m) (.int 1) μ = .ok (.str m.d) μ := op_ix_1
@[simp] theorem mv_ix2' {m : Mv} {μ : Mu} : opIx (mvD m) (.int 2) μ = .ok (.int m.t) μ := op_ix_2
theorem op_ix_sg {sg : List (Str × Str)} {z v : Str} (h : getS sg z = some v) (μ : Mu) : opIx (.dic (sg.map sgD)) (.str z) μ = .ok (.str v) μ := by
  unfold opIx
  simp only [vw_d, kfits_sg, dget_sg, h, Option.map_some, if_true, Res.of_some]
theorem getS_mem' {sg : List (Str × Str)} {k v : Str} (h : getS sg k = some v) : ∃ p ∈ sg, p.1 = k ∧ p.2 = v := by
  unfold getS at h
  obtain ⟨p, hp, rfl⟩ := Option.map_eq_some_iff.mp h
  exact ⟨p, List.mem_of_find?_eq_some hp, by simpa using List.find?_some hp, rfl⟩
theorem getS_key {sg : List (Str × Str)} {p : Str × Str} (h : p ∈ sg) : ∃ v, getS sg p.1 = some v := by
  unfold getS
  cases q : sg.find? fun x => decide (x.1 = p.1) with
  | some x => exact ⟨x.2, rfl⟩
  | none =>
    have := List.find?_eq_none.mp q p h
    exact absurd (decide_eq_true rfl) this
theorem me_app' {n : Nat} {xs : List D} {d : D} {μ : Mu} (h : μ[n]? = some (.lst xs)) (hl : xs.length ≤ 1000000) : meApp (.ref n) [d] μ = .ok .non (μ.set n (.lst (xs ++ [d]))) := by
  unfold meApp
  simp only [h]
  rw [if_pos (by rw [sizeLine_eq]; omega)]
theorem is_lst_r' {n : Nat} {xs : List D} {μ : Mu} (h : μ[n]? = some (.lst xs)) : isLst (.ref n) μ = true := by
  simp only [isLst, vw, h, seqL, Option.isSome_some]
end SB
set_option Elab.async false
set_option linter.all false
set_option maxRecDepth 100000
namespace SB
open PySem L2
noncomputable def m_Watcher_init : DS :=
  (sSeq (sFldD 1 0 (dVar 0) (dVar 1))
  (sSeq (sFldD 1 1 (dVar 0) (dLst true dNil))
  (sFldD 1 2 (dVar 0) (dCall (dCons (dVar 1) dNil) Φ_begun))))
noncomputable def Φ_Watcher_init : Fn := callG 2 m_Watcher_init
noncomputable def m_Watcher_see : DS :=
  (sSeq (sIf (dBool (dBin (dCall (dCons (dFld 1 1 (dVar 0)) dNil) biLen) (dCst (.int 40)) opGe)) sBad sSkip)
  (sSeq (sSet 2 (dCall (dCons (dFld 1 0 (dVar 0)) (dCons (dFld 1 2 (dVar 0)) (dCons (dVar 1) dNil))) Φ_seen))
  (sSeq (sIf (dBool (dBin (dVar 2) dDnil opEqE)) sBad sSkip)
  (sSeq (sFldD 1 2 (dVar 0) (dVar 2))
  (sExpr (dMet (dFld 1 1 (dVar 0)) isLst (dCons (dVar 1) dNil) meApp))))))
noncomputable def Φ_Watcher_see : Fn := callG 3 m_Watcher_see
noncomputable def m_Watcher_rooms : DS :=
  (sRet (dCall (dCons (dFld 1 2 (dVar 0)) dNil) Φ_rooms_in))
noncomputable def Φ_Watcher_rooms : Fn := callG 1 m_Watcher_rooms
noncomputable def m_Watcher_verdict : DS :=
  (sRet (dCall (dCons (dFld 1 2 (dVar 0)) dNil) Φ_verdict_of))
noncomputable def Φ_Watcher_verdict : Fn := callG 1 m_Watcher_verdict
noncomputable def m_Watcher_sights : DS :=
  (sRet (dCall (dCons (dFld 1 1 (dVar 0)) dNil) (biList false)))
noncomputable def Φ_Watcher_sights : Fn := callG 1 m_Watcher_sights
end SB
set_option Elab.async false
set_option linter.all false
set_option maxRecDepth 10000
namespace SB
open PySem L2
/-- a watcher at cell n, its past at cell p -/
structure WatchAt (μ : Mu) (n p : Nat) (A : D) (past : List Str) (ws : Ws) : Prop where
  ob : μ[n]? = some (.ins 1 [A, .ref p, .dic (wsE ws)])
  pa : μ[p]? = some (.lst (past.map .str))
theorem WatchAt.ne {μ : Mu} {n p : Nat} {A : D} {past : List Str} {ws : Ws} (h : WatchAt μ n p A past ws) : n ≠ p := fun e => by
  have := h.ob
  rw [e, h.pa] at this
  cases this
/-- all other cells stay -/
def Keeps (μ μ' : Mu) (n p : Nat) : Prop := μ.length ≤ μ'.length ∧ ∀ k c, k ≠ n → k ≠ p → μ[k]? = some c → μ'[k]? = some c
theorem vw_cI {μ : Mu} {n c : Nat} {fs : List D} (h : μ[n]? = some (.ins c fs)) : vw μ (.ref n) = .ins c fs := by simp only [vw, h]
theorem vw_cL {μ : Mu} {n : Nat} {xs : List D} (h : μ[n]? = some (.lst xs)) : vw μ (.ref n) = .lst xs := by simp only [vw, h]
section
variable {A : D} {M : Mc} {size : Nat} {μ : Mu} {n p : Nat} {past : List Str} {ws : Ws}
theorem f_W_rooms (h : WatchAt μ n p A past ws) (hl : ws.length < 64) : Φ_Watcher_rooms [.ref n] μ = .ok (.lst ((ssI (roomsW ws)).map .int)) μ := by
  obtain ⟨d, μ', ⟨rfl, rfl⟩, e⟩ := callG_wp (n := 1) (m := m_Watcher_rooms) (ds := [.ref n]) (μ := μ) (fun d μ' => d = .lst ((ssI (roomsW ws)).map .int) ∧ μ' = μ) (by
    show WP _ _ _ _ (m_Watcher_rooms [some (.ref n)] μ)
    unfold m_Watcher_rooms
    exact wp_ret (by (simp only [ev_cst, ev_var, ev_bin, ev_call, ev_nil, ev_cons, ev_bool, ev_asB, ev_not, ev_and, ev_or, ev_tup, ev_lst, ev_yes, ev_chain, ev_andV2, ev_orV, orB_bb, orB_t, orB_f, andB_bb, andB_t, andB_f, ite_andB, ite_orB, op_is, op_isn, ev_bor, ev_borT, borT_ok, bor_b, bor_i, bor_s, bor_n, bor1, bor2, bora1, bora2, ev_notV, ev_ifE, ev_frzT, ev_met, ev_fld, ev_un, un_neg, ev_dnil, ev_methC, ev_iseq, ev_isi, List.getElem?_cons_succ, List.getElem?_cons_zero, List.set_cons_succ, List.set_cons_zero, Res.bind_ok, Res.of_some, vw_i, vw_b, vw_s, vw_n, vw_t, vw_l, vw_d, vw_k, vw_c, it_l, it_t, it_s, op_add_i, op_sub_i, op_lt_i, op_le_i, op_gt_i, op_ge_i, op_eq_i, op_ne_i, op_eq_b, op_ne_b, bi_len_l, bi_len_t, bi_len_d, bi_len_c, op_ix_0, op_ix_1, op_ix_2, tp1, tp2, tp3, tp4, tp5, mk0, mk1, mk2, mk3, mk4, mk5, if_true, if_false, Bool.false_eq_true, Bool.not_true, Bool.not_false, Bool.true_and, Bool.false_and, Bool.true_or, Bool.false_or, bt_one, bt_tup, bt_lst, sa_nil, sa_cons, wipeD, List.length_map, vw_cI h.ob, f_rooms_in hl] <;> try rfl)) ⟨rfl, rfl⟩)
  exact e
theorem f_W_verdict (h : WatchAt μ n p A past ws) (hl : ws.length < 64) : Φ_Watcher_verdict [.ref n] μ = .ok (.str (vd ((keysW ws).map (·.2)))) μ := by
  obtain ⟨d, μ', ⟨rfl, rfl⟩, e⟩ := callG_wp (n := 1) (m := m_Watcher_verdict) (ds := [.ref n]) (μ := μ) (fun d μ' => d = .str (vd ((keysW ws).map (·.2))) ∧ μ' = μ) (by
    show WP _ _ _ _ (m_Watcher_verdict [some (.ref n)] μ)
    unfold m_Watcher_verdict
    exact wp_ret (by (simp only [ev_cst, ev_var, ev_bin, ev_call, ev_nil, ev_cons, ev_bool, ev_asB, ev_not, ev_and, ev_or, ev_tup, ev_lst, ev_yes, ev_chain, ev_andV2, ev_orV, orB_bb, orB_t, orB_f, andB_bb, andB_t, andB_f, ite_andB, ite_orB, op_is, op_isn, ev_bor, ev_borT, borT_ok, bor_b, bor_i, bor_s, bor_n, bor1, bor2, bora1, bora2, ev_notV, ev_ifE, ev_frzT, ev_met, ev_fld, ev_un, un_neg, ev_dnil, ev_methC, ev_iseq, ev_isi, List.getElem?_cons_succ, List.getElem?_cons_zero, List.set_cons_succ, List.set_cons_zero, Res.bind_ok, Res.of_some, vw_i, vw_b, vw_s, vw_n, vw_t, vw_l, vw_d, vw_k, vw_c, it_l, it_t, it_s, op_add_i, op_sub_i, op_lt_i, op_le_i, op_gt_i, op_ge_i, op_eq_i, op_ne_i, op_eq_b, op_ne_b, bi_len_l, bi_len_t, bi_len_d, bi_len_c, op_ix_0, op_ix_1, op_ix_2, tp1, tp2, tp3, tp4, tp5, mk0, mk1, mk2, mk3, mk4, mk5, if_true, if_false, Bool.false_eq_true, Bool.not_true, Bool.not_false, Bool.true_and, Bool.false_and, Bool.true_or, Bool.false_or, bt_one, bt_tup, bt_lst, sa_nil, sa_cons, wipeD, List.length_map, vw_cI h.ob, f_verdict_of hl] <;> try rfl)) ⟨rfl, rfl⟩)
  exact e
theorem f_W_sights (h : WatchAt μ n p A past ws) (hl : past.length ≤ 1000) : Φ_Watcher_sights [.ref n] μ = .ok (.lst (past.map .str)) μ := by
  obtain ⟨d, μ', ⟨rfl, rfl⟩, e⟩ := callG_wp (n := 1) (m := m_Watcher_sights) (ds := [.ref n]) (μ := μ) (fun d μ' => d = .lst (past.map .str) ∧ μ' = μ) (by
    show WP _ _ _ _ (m_Watcher_sights [some (.ref n)] μ)
    unfold m_Watcher_sights
    have bl : biList false [.ref p] μ = .ok (.lst (past.map .str)) μ := by
      simp only [biList, vw_cL h.pa, seqL]
      exact mkL_f (sz (by rw [List.length_map]; omega))
    exact wp_ret (by (simp only [ev_cst, ev_var, ev_bin, ev_call, ev_nil, ev_cons, ev_bool, ev_asB, ev_not, ev_and, ev_or, ev_tup, ev_lst, ev_yes, ev_chain, ev_andV2, ev_orV, orB_bb, orB_t, orB_f, andB_bb, andB_t, andB_f, ite_andB, ite_orB, op_is, op_isn, ev_bor, ev_borT, borT_ok, bor_b, bor_i, bor_s, bor_n, bor1, bor2, bora1, bora2, ev_notV, ev_ifE, ev_frzT, ev_met, ev_fld, ev_un, un_neg, ev_dnil, ev_methC, ev_iseq, ev_isi, List.getElem?_cons_succ, List.getElem?_cons_zero, List.set_cons_succ, List.set_cons_zero, Res.bind_ok, Res.of_some, vw_i, vw_b, vw_s, vw_n, vw_t, vw_l, vw_d, vw_k, vw_c, it_l, it_t, it_s, op_add_i, op_sub_i, op_lt_i, op_le_i, op_gt_i, op_ge_i, op_eq_i, op_ne_i, op_eq_b, op_ne_b, bi_len_l, bi_len_t, bi_len_d, bi_len_c, op_ix_0, op_ix_1, op_ix_2, tp1, tp2, tp3, tp4, tp5, mk0, mk1, mk2, mk3, mk4, mk5, if_true, if_false, Bool.false_eq_true, Bool.not_true, Bool.not_false, Bool.true_and, Bool.false_and, Bool.true_or, Bool.false_or, bt_one, bt_tup, bt_lst, sa_nil, sa_cons, wipeD, List.length_map, vw_cI h.ob, bl] <;> try rfl)) ⟨rfl, rfl⟩)
  exact e
/-- a watcher that is new -/
theorem f_Watcher {f : DE} {ρ : Ev} (hM : McD A M size) (hf : f ρ μ = .ok A μ) : ∃ ws, SpOk M size [] ws ∧ dMake true 1 (dCons f dNil) Φ_Watcher_init ρ μ = .ok (.ref μ.length) (μ ++ [.ins 1 [A, .ref (μ.length + 1), .dic (wsE ws)], .lst []]) := by
  obtain ⟨ws, ok, e⟩ := f_begun hM
  refine ⟨ws, ok, ?_⟩
  have init : Φ_Watcher_init [.ref μ.length, A] (μ ++ [.ins 1 []]) = .ok .non (μ ++ [.ins 1 [A, .ref (μ.length + 1), .dic (wsE ws)], .lst []]) := by
    obtain ⟨d, μ', ⟨rfl, rfl⟩, e⟩ := callG_wp (n := 2) (m := m_Watcher_init) (ds := [.ref μ.length, A]) (μ := μ ++ [.ins 1 []]) (fun d μ' => d = .non ∧ μ' = μ ++ [.ins 1 [A, .ref (μ.length + 1), .dic (wsE ws)], .lst []]) (by
      show WP _ _ _ _ (m_Watcher_init [some (.ref μ.length), some A] (μ ++ [.ins 1 []]))
      unfold m_Watcher_init
      have at0 : ∀ (c : Cell) (t : Mu), (μ ++ (c :: t))[μ.length]? = some c := fun c t => by simp
      have set0 : ∀ (c c' : Cell) (t : Mu), (μ ++ (c :: t)).set μ.length c' = μ ++ (c' :: t) := fun c c' t => by simp
      have len1 : ∀ c : Cell, (μ ++ [c]).length = μ.length + 1 := fun c => by simp
      refine wp_seq (wp_fld (n := μ.length) (fs := []) (μ3 := μ ++ [.ins 1 [A]]) (by (simp only [ev_cst, ev_var, ev_bin, ev_call, ev_nil, ev_cons, ev_bool, ev_asB, ev_not, ev_and, ev_or, ev_tup, ev_lst, ev_yes, ev_chain, ev_andV2, ev_orV, orB_bb, orB_t, orB_f, andB_bb, andB_t, andB_f, ite_andB, ite_orB, op_is, op_isn, ev_bor, ev_borT, borT_ok, bor_b, bor_i, bor_s, bor_n, bor1, bor2, bora1, bora2, ev_notV, ev_ifE, ev_frzT, ev_met, ev_fld, ev_un, un_neg, ev_dnil, ev_methC, ev_iseq, ev_isi, List.getElem?_cons_succ, List.getElem?_cons_zero, List.set_cons_succ, List.set_cons_zero, Res.bind_ok, Res.of_some, vw_i, vw_b, vw_s, vw_n, vw_t, vw_l, vw_d, vw_k, vw_c, it_l, it_t, it_s, op_add_i, op_sub_i, op_lt_i, op_le_i, op_gt_i, op_ge_i, op_eq_i, op_ne_i, op_eq_b, op_ne_b, bi_len_l, bi_len_t, bi_len_d, bi_len_c, op_ix_0, op_ix_1, op_ix_2, tp1, tp2, tp3, tp4, tp5, mk0, mk1, mk2, mk3, mk4, mk5, if_true, if_false, Bool.false_eq_true, Bool.not_true, Bool.not_false, Bool.true_and, Bool.false_and, Bool.true_or, Bool.false_or, bt_one, bt_tup, bt_lst, sa_nil, sa_cons, wipeD, List.length_map] <;> try rfl)) (by (simp only [ev_cst, ev_var, ev_bin, ev_call, ev_nil, ev_cons, ev_bool, ev_asB, ev_not, ev_and, ev_or, ev_tup, ev_lst, ev_yes, ev_chain, ev_andV2, ev_orV, orB_bb, orB_t, orB_f, andB_bb, andB_t, andB_f, ite_andB, ite_orB, op_is, op_isn, ev_bor, ev_borT, borT_ok, bor_b, bor_i, bor_s, bor_n, bor1, bor2, bora1, bora2, ev_notV, ev_ifE, ev_frzT, ev_met, ev_fld, ev_un, un_neg, ev_dnil, ev_methC, ev_iseq, ev_isi, List.getElem?_cons_succ, List.getElem?_cons_zero, List.set_cons_succ, List.set_cons_zero, Res.bind_ok, Res.of_some, vw_i, vw_b, vw_s, vw_n, vw_t, vw_l, vw_d, vw_k, vw_c, it_l, it_t, it_s, op_add_i, op_sub_i, op_lt_i, op_le_i, op_gt_i, op_ge_i, op_eq_i, op_ne_i, op_eq_b, op_ne_b, bi_len_l, bi_len_t, bi_len_d, bi_len_c, op_ix_0, op_ix_1, op_ix_2, tp1, tp2, tp3, tp4, tp5, mk0, mk1, mk2, mk3, mk4, mk5, if_true, if_false, Bool.false_eq_true, Bool.not_true, Bool.not_false, Bool.true_and, Bool.false_and, Bool.true_or, Bool.false_or, bt_one, bt_tup, bt_lst, sa_nil, sa_cons, wipeD, List.length_map] <;> try rfl)) (at0 _ _) (.inr ⟨rfl, (set0 _ _ _).symm⟩) ?_)
      refine wp_seq (wp_fld (d := .ref (μ.length + 1)) (μ1 := μ ++ [.ins 1 [A], .lst []]) (n := μ.length) (fs := [A]) (μ3 := μ ++ [.ins 1 [A, .ref (μ.length + 1)], .lst []]) (by (simp only [ev_cst, ev_var, ev_bin, ev_call, ev_nil, ev_cons, ev_bool, ev_asB, ev_not, ev_and, ev_or, ev_tup, ev_lst, ev_yes, ev_chain, ev_andV2, ev_orV, orB_bb, orB_t, orB_f, andB_bb, andB_t, andB_f, ite_andB, ite_orB, op_is, op_isn, ev_bor, ev_borT, borT_ok, bor_b, bor_i, bor_s, bor_n, bor1, bor2, bora1, bora2, ev_notV, ev_ifE, ev_frzT, ev_met, ev_fld, ev_un, un_neg, ev_dnil, ev_methC, ev_iseq, ev_isi, List.getElem?_cons_succ, List.getElem?_cons_zero, List.set_cons_succ, List.set_cons_zero, Res.bind_ok, Res.of_some, vw_i, vw_b, vw_s, vw_n, vw_t, vw_l, vw_d, vw_k, vw_c, it_l, it_t, it_s, op_add_i, op_sub_i, op_lt_i, op_le_i, op_gt_i, op_ge_i, op_eq_i, op_ne_i, op_eq_b, op_ne_b, bi_len_l, bi_len_t, bi_len_d, bi_len_c, op_ix_0, op_ix_1, op_ix_2, tp1, tp2, tp3, tp4, tp5, mk0, mk1, mk2, mk3, mk4, mk5, if_true, if_false, Bool.false_eq_true, Bool.not_true, Bool.not_false, Bool.true_and, Bool.false_and, Bool.true_or, Bool.false_or, bt_one, bt_tup, bt_lst, sa_nil, sa_cons, wipeD, List.length_map, len1, List.append_assoc, List.cons_append, List.nil_append] <;> try rfl)) (by (simp only [ev_cst, ev_var, ev_bin, ev_call, ev_nil, ev_cons, ev_bool, ev_asB, ev_not, ev_and, ev_or, ev_tup, ev_lst, ev_yes, ev_chain, ev_andV2, ev_orV, orB_bb, orB_t, orB_f, andB_bb, andB_t, andB_f, ite_andB, ite_orB, op_is, op_isn, ev_bor, ev_borT, borT_ok, bor_b, bor_i, bor_s, bor_n, bor1, bor2, bora1, bora2, ev_notV, ev_ifE, ev_frzT, ev_met, ev_fld, ev_un, un_neg, ev_dnil, ev_methC, ev_iseq, ev_isi, List.getElem?_cons_succ, List.getElem?_cons_zero, List.set_cons_succ, List.set_cons_zero, Res.bind_ok, Res.of_some, vw_i, vw_b, vw_s, vw_n, vw_t, vw_l, vw_d, vw_k, vw_c, it_l, it_t, it_s, op_add_i, op_sub_i, op_lt_i, op_le_i, op_gt_i, op_ge_i, op_eq_i, op_ne_i, op_eq_b, op_ne_b, bi_len_l, bi_len_t, bi_len_d, bi_len_c, op_ix_0, op_ix_1, op_ix_2, tp1, tp2, tp3, tp4, tp5, mk0, mk1, mk2, mk3, mk4, mk5, if_true, if_false, Bool.false_eq_true, Bool.not_true, Bool.not_false, Bool.true_and, Bool.false_and, Bool.true_or, Bool.false_or, bt_one, bt_tup, bt_lst, sa_nil, sa_cons, wipeD, List.length_map] <;> try rfl)) (at0 _ _) (.inr ⟨rfl, (set0 _ _ _).symm⟩) ?_)
      exact wp_fld (n := μ.length) (fs := [A, .ref (μ.length + 1)]) (μ3 := μ ++ [.ins 1 [A, .ref (μ.length + 1), .dic (wsE ws)], .lst []]) (by (simp only [ev_cst, ev_var, ev_bin, ev_call, ev_nil, ev_cons, ev_bool, ev_asB, ev_not, ev_and, ev_or, ev_tup, ev_lst, ev_yes, ev_chain, ev_andV2, ev_orV, orB_bb, orB_t, orB_f, andB_bb, andB_t, andB_f, ite_andB, ite_orB, op_is, op_isn, ev_bor, ev_borT, borT_ok, bor_b, bor_i, bor_s, bor_n, bor1, bor2, bora1, bora2, ev_notV, ev_ifE, ev_frzT, ev_met, ev_fld, ev_un, un_neg, ev_dnil, ev_methC, ev_iseq, ev_isi, List.getElem?_cons_succ, List.getElem?_cons_zero, List.set_cons_succ, List.set_cons_zero, Res.bind_ok, Res.of_some, vw_i, vw_b, vw_s, vw_n, vw_t, vw_l, vw_d, vw_k, vw_c, it_l, it_t, it_s, op_add_i, op_sub_i, op_lt_i, op_le_i, op_gt_i, op_ge_i, op_eq_i, op_ne_i, op_eq_b, op_ne_b, bi_len_l, bi_len_t, bi_len_d, bi_len_c, op_ix_0, op_ix_1, op_ix_2, tp1, tp2, tp3, tp4, tp5, mk0, mk1, mk2, mk3, mk4, mk5, if_true, if_false, Bool.false_eq_true, Bool.not_true, Bool.not_false, Bool.true_and, Bool.false_and, Bool.true_or, Bool.false_or, bt_one, bt_tup, bt_lst, sa_nil, sa_cons, wipeD, List.length_map, e] <;> try rfl)) (by (simp only [ev_cst, ev_var, ev_bin, ev_call, ev_nil, ev_cons, ev_bool, ev_asB, ev_not, ev_and, ev_or, ev_tup, ev_lst, ev_yes, ev_chain, ev_andV2, ev_orV, orB_bb, orB_t, orB_f, andB_bb, andB_t, andB_f, ite_andB, ite_orB, op_is, op_isn, ev_bor, ev_borT, borT_ok, bor_b, bor_i, bor_s, bor_n, bor1, bor2, bora1, bora2, ev_notV, ev_ifE, ev_frzT, ev_met, ev_fld, ev_un, un_neg, ev_dnil, ev_methC, ev_iseq, ev_isi, List.getElem?_cons_succ, List.getElem?_cons_zero, List.set_cons_succ, List.set_cons_zero, Res.bind_ok, Res.of_some, vw_i, vw_b, vw_s, vw_n, vw_t, vw_l, vw_d, vw_k, vw_c, it_l, it_t, it_s, op_add_i, op_sub_i, op_lt_i, op_le_i, op_gt_i, op_ge_i, op_eq_i, op_ne_i, op_eq_b, op_ne_b, bi_len_l, bi_len_t, bi_len_d, bi_len_c, op_ix_0, op_ix_1, op_ix_2, tp1, tp2, tp3, tp4, tp5, mk0, mk1, mk2, mk3, mk4, mk5, if_true, if_false, Bool.false_eq_true, Bool.not_true, Bool.not_false, Bool.true_and, Bool.false_and, Bool.true_or, Bool.false_or, bt_one, bt_tup, bt_lst, sa_nil, sa_cons, wipeD, List.length_map] <;> try rfl)) (at0 _ _) (.inr ⟨rfl, (set0 _ _ _).symm⟩) ⟨rfl, rfl⟩)
    exact e
  unfold dMake
  (simp only [ev_cst, ev_var, ev_bin, ev_call, ev_nil, ev_cons, ev_bool, ev_asB, ev_not, ev_and, ev_or, ev_tup, ev_lst, ev_yes, ev_chain, ev_andV2, ev_orV, orB_bb, orB_t, orB_f, andB_bb, andB_t, andB_f, ite_andB, ite_orB, op_is, op_isn, ev_bor, ev_borT, borT_ok, bor_b, bor_i, bor_s, bor_n, bor1, bor2, bora1, bora2, ev_notV, ev_ifE, ev_frzT, ev_met, ev_fld, ev_un, un_neg, ev_dnil, ev_methC, ev_iseq, ev_isi, List.getElem?_cons_succ, List.getElem?_cons_zero, List.set_cons_succ, List.set_cons_zero, Res.bind_ok, Res.of_some, vw_i, vw_b, vw_s, vw_n, vw_t, vw_l, vw_d, vw_k, vw_c, it_l, it_t, it_s, op_add_i, op_sub_i, op_lt_i, op_le_i, op_gt_i, op_ge_i, op_eq_i, op_ne_i, op_eq_b, op_ne_b, bi_len_l, bi_len_t, bi_len_d, bi_len_c, op_ix_0, op_ix_1, op_ix_2, tp1, tp2, tp3, tp4, tp5, mk0, mk1, mk2, mk3, mk4, mk5, if_true, if_false, Bool.false_eq_true, Bool.not_true, Bool.not_false, Bool.true_and, Bool.false_and, Bool.true_or, Bool.false_or, bt_one, bt_tup, bt_lst, sa_nil, sa_cons, wipeD, List.length_map, hf, init] <;> try rfl)
theorem watch_new {A : D} {ws : Ws} (μ : Mu) : WatchAt (μ ++ [.ins 1 [A, .ref (μ.length + 1), .dic (wsE ws)], .lst []]) μ.length (μ.length + 1) A [] ws := ⟨by simp, by simp⟩
/-- one sign more is taken -/
theorem f_see (hM : McD A M size) (h : WatchAt μ n p A past ws) (ok : SpOk M size past ws) (hl : past.length < 40) {s : Str} (hs : okS s) (hr : ∃ sp, M.Reach (past ++ [s]) sp) : ∃ ws' μ', SpOk M size (past ++ [s]) ws' ∧ Φ_Watcher_see [.ref n, .str s] μ = .ok .non μ' ∧ WatchAt μ' n p A (past ++ [s]) ws' ∧ Keeps μ μ' n p := by
  obtain ⟨ws', ok', e⟩ := f_seen hM ok (by omega) hs
  have ne := h.ne
  have hn : n < μ.length := (List.getElem?_eq_some_iff.mp h.ob).1
  have hp : p < μ.length := (List.getElem?_eq_some_iff.mp h.pa).1
  have hne : ws' ≠ [] := by
    obtain ⟨sp, hr⟩ := hr
    intro z
    have := ok'.all sp hr
    rw [z] at this
    cases this
  refine ⟨ws', ((μ ++ [Cell.dic []]).set n (.ins 1 [A, .ref p, .dic (wsE ws')])).set p (.lst ((past ++ [s]).map .str)), ok', ?_, ⟨?_, ?_⟩, by simp, ?_⟩
  · obtain ⟨d, μ', ⟨rfl, rfl⟩, e⟩ := callG_wp (n := 3) (m := m_Watcher_see) (ds := [.ref n, .str s]) (μ := μ) (fun d μ' => d = .non ∧ μ' = ((μ ++ [Cell.dic []]).set n (.ins 1 [A, .ref p, .dic (wsE ws')])).set p (.lst ((past ++ [s]).map .str))) (by
      show WP _ _ _ _ (m_Watcher_see [some (.ref n), some (.str s), none] μ)
      unfold m_Watcher_see
      have le : biLen [.ref p] μ = .ok (.int past.length) μ := by
        rw [show biLen [.ref p] μ = .ok (.int (past.map D.str).length) μ by simp only [biLen, vw_cL h.pa, seqL], List.length_map]
      refine wp_seq (wp_if (b := decide ((40 : Int) ≤ past.length)) (by (simp only [ev_cst, ev_var, ev_bin, ev_call, ev_nil, ev_cons, ev_bool, ev_asB, ev_not, ev_and, ev_or, ev_tup, ev_lst, ev_yes, ev_chain, ev_andV2, ev_orV, orB_bb, orB_t, orB_f, andB_bb, andB_t, andB_f, ite_andB, ite_orB, op_is, op_isn, ev_bor, ev_borT, borT_ok, bor_b, bor_i, bor_s, bor_n, bor1, bor2, bora1, bora2, ev_notV, ev_ifE, ev_frzT, ev_met, ev_fld, ev_un, un_neg, ev_dnil, ev_methC, ev_iseq, ev_isi, List.getElem?_cons_succ, List.getElem?_cons_zero, List.set_cons_succ, List.set_cons_zero, Res.bind_ok, Res.of_some, vw_i, vw_b, vw_s, vw_n, vw_t, vw_l, vw_d, vw_k, vw_c, it_l, it_t, it_s, op_add_i, op_sub_i, op_lt_i, op_le_i, op_gt_i, op_ge_i, op_eq_i, op_ne_i, op_eq_b, op_ne_b, bi_len_l, bi_len_t, bi_len_d, bi_len_c, op_ix_0, op_ix_1, op_ix_2, tp1, tp2, tp3, tp4, tp5, mk0, mk1, mk2, mk3, mk4, mk5, if_true, if_false, Bool.false_eq_true, Bool.not_true, Bool.not_false, Bool.true_and, Bool.false_and, Bool.true_or, Bool.false_or, bt_one, bt_tup, bt_lst, sa_nil, sa_cons, wipeD, List.length_map, vw_cI h.ob, le] <;> try rfl)) (fun hb => absurd (of_decide_eq_true hb) (by omega)) (fun _ => wp_skip ?_))
      refine wp_seq (wp_set (by (simp only [ev_cst, ev_var, ev_bin, ev_call, ev_nil, ev_cons, ev_bool, ev_asB, ev_not, ev_and, ev_or, ev_tup, ev_lst, ev_yes, ev_chain, ev_andV2, ev_orV, orB_bb, orB_t, orB_f, andB_bb, andB_t, andB_f, ite_andB, ite_orB, op_is, op_isn, ev_bor, ev_borT, borT_ok, bor_b, bor_i, bor_s, bor_n, bor1, bor2, bora1, bora2, ev_notV, ev_ifE, ev_frzT, ev_met, ev_fld, ev_un, un_neg, ev_dnil, ev_methC, ev_iseq, ev_isi, List.getElem?_cons_succ, List.getElem?_cons_zero, List.set_cons_succ, List.set_cons_zero, Res.bind_ok, Res.of_some, vw_i, vw_b, vw_s, vw_n, vw_t, vw_l, vw_d, vw_k, vw_c, it_l, it_t, it_s, op_add_i, op_sub_i, op_lt_i, op_le_i, op_gt_i, op_ge_i, op_eq_i, op_ne_i, op_eq_b, op_ne_b, bi_len_l, bi_len_t, bi_len_d, bi_len_c, op_ix_0, op_ix_1, op_ix_2, tp1, tp2, tp3, tp4, tp5, mk0, mk1, mk2, mk3, mk4, mk5, if_true, if_false, Bool.false_eq_true, Bool.not_true, Bool.not_false, Bool.true_and, Bool.false_and, Bool.true_or, Bool.false_or, bt_one, bt_tup, bt_lst, sa_nil, sa_cons, wipeD, List.length_map, vw_cI h.ob, e] <;> try rfl)) (by (simp only [List.set_cons_succ, List.set_cons_zero] <;> try rfl)) ?_)
      have eq0 : opEqE (.dic (wsE ws')) (.ref μ.length) (μ ++ [Cell.dic []]) = .ok (.bl false) (μ ++ [Cell.dic []]) := by
        have : vw (μ ++ [Cell.dic []]) (.ref μ.length) = .dic [] := by simp [vw]
        unfold opEqE
        rw [vw_d, this]
        cases ws' with
        | nil => exact absurd rfl hne
        | cons _ _ => rfl
      refine wp_seq (wp_if (b := false) (by (simp only [ev_cst, ev_var, ev_bin, ev_call, ev_nil, ev_cons, ev_bool, ev_asB, ev_not, ev_and, ev_or, ev_tup, ev_lst, ev_yes, ev_chain, ev_andV2, ev_orV, orB_bb, orB_t, orB_f, andB_bb, andB_t, andB_f, ite_andB, ite_orB, op_is, op_isn, ev_bor, ev_borT, borT_ok, bor_b, bor_i, bor_s, bor_n, bor1, bor2, bora1, bora2, ev_notV, ev_ifE, ev_frzT, ev_met, ev_fld, ev_un, un_neg, ev_dnil, ev_methC, ev_iseq, ev_isi, List.getElem?_cons_succ, List.getElem?_cons_zero, List.set_cons_succ, List.set_cons_zero, Res.bind_ok, Res.of_some, vw_i, vw_b, vw_s, vw_n, vw_t, vw_l, vw_d, vw_k, vw_c, it_l, it_t, it_s, op_add_i, op_sub_i, op_lt_i, op_le_i, op_gt_i, op_ge_i, op_eq_i, op_ne_i, op_eq_b, op_ne_b, bi_len_l, bi_len_t, bi_len_d, bi_len_c, op_ix_0, op_ix_1, op_ix_2, tp1, tp2, tp3, tp4, tp5, mk0, mk1, mk2, mk3, mk4, mk5, if_true, if_false, Bool.false_eq_true, Bool.not_true, Bool.not_false, Bool.true_and, Bool.false_and, Bool.true_or, Bool.false_or, bt_one, bt_tup, bt_lst, sa_nil, sa_cons, wipeD, List.length_map, eq0] <;> try rfl)) (fun hb => absurd hb (by decide)) (fun _ => wp_skip ?_))
      have at1 : (μ ++ [Cell.dic []])[n]? = some (.ins 1 [A, .ref p, .dic (wsE ws)]) := by rw [List.getElem?_append_left hn]; exact h.ob
      refine wp_seq (wp_fld (n := n) (fs := [A, .ref p, .dic (wsE ws)]) (μ3 := (μ ++ [Cell.dic []]).set n (.ins 1 [A, .ref p, .dic (wsE ws')])) (by (simp only [ev_cst, ev_var, ev_bin, ev_call, ev_nil, ev_cons, ev_bool, ev_asB, ev_not, ev_and, ev_or, ev_tup, ev_lst, ev_yes, ev_chain, ev_andV2, ev_orV, orB_bb, orB_t, orB_f, andB_bb, andB_t, andB_f, ite_andB, ite_orB, op_is, op_isn, ev_bor, ev_borT, borT_ok, bor_b, bor_i, bor_s, bor_n, bor1, bor2, bora1, bora2, ev_notV, ev_ifE, ev_frzT, ev_met, ev_fld, ev_un, un_neg, ev_dnil, ev_methC, ev_iseq, ev_isi, List.getElem?_cons_succ, List.getElem?_cons_zero, List.set_cons_succ, List.set_cons_zero, Res.bind_ok, Res.of_some, vw_i, vw_b, vw_s, vw_n, vw_t, vw_l, vw_d, vw_k, vw_c, it_l, it_t, it_s, op_add_i, op_sub_i, op_lt_i, op_le_i, op_gt_i, op_ge_i, op_eq_i, op_ne_i, op_eq_b, op_ne_b, bi_len_l, bi_len_t, bi_len_d, bi_len_c, op_ix_0, op_ix_1, op_ix_2, tp1, tp2, tp3, tp4, tp5, mk0, mk1, mk2, mk3, mk4, mk5, if_true, if_false, Bool.false_eq_true, Bool.not_true, Bool.not_false, Bool.true_and, Bool.false_and, Bool.true_or, Bool.false_or, bt_one, bt_tup, bt_lst, sa_nil, sa_cons, wipeD, List.length_map] <;> try rfl)) (by (simp only [ev_cst, ev_var, ev_bin, ev_call, ev_nil, ev_cons, ev_bool, ev_asB, ev_not, ev_and, ev_or, ev_tup, ev_lst, ev_yes, ev_chain, ev_andV2, ev_orV, orB_bb, orB_t, orB_f, andB_bb, andB_t, andB_f, ite_andB, ite_orB, op_is, op_isn, ev_bor, ev_borT, borT_ok, bor_b, bor_i, bor_s, bor_n, bor1, bor2, bora1, bora2, ev_notV, ev_ifE, ev_frzT, ev_met, ev_fld, ev_un, un_neg, ev_dnil, ev_methC, ev_iseq, ev_isi, List.getElem?_cons_succ, List.getElem?_cons_zero, List.set_cons_succ, List.set_cons_zero, Res.bind_ok, Res.of_some, vw_i, vw_b, vw_s, vw_n, vw_t, vw_l, vw_d, vw_k, vw_c, it_l, it_t, it_s, op_add_i, op_sub_i, op_lt_i, op_le_i, op_gt_i, op_ge_i, op_eq_i, op_ne_i, op_eq_b, op_ne_b, bi_len_l, bi_len_t, bi_len_d, bi_len_c, op_ix_0, op_ix_1, op_ix_2, tp1, tp2, tp3, tp4, tp5, mk0, mk1, mk2, mk3, mk4, mk5, if_true, if_false, Bool.false_eq_true, Bool.not_true, Bool.not_false, Bool.true_and, Bool.false_and, Bool.true_or, Bool.false_or, bt_one, bt_tup, bt_lst, sa_nil, sa_cons, wipeD, List.length_map] <;> try rfl)) at1 (.inl ⟨by show 2 < 3; decide, rfl⟩) ?_)
      have hn1 : n < (μ ++ [Cell.dic []]).length := by simp; omega
      have at2 : ((μ ++ [Cell.dic []]).set n (.ins 1 [A, .ref p, .dic (wsE ws')]))[n]? = some (.ins 1 [A, .ref p, .dic (wsE ws')]) := by rw [List.getElem?_set_self hn1]
      have at3 : ((μ ++ [Cell.dic []]).set n (.ins 1 [A, .ref p, .dic (wsE ws')]))[p]? = some (.lst (past.map .str)) := by rw [List.getElem?_set_ne ne, List.getElem?_append_left hp]; exact h.pa
      have ap := me_app' (d := .str s) at3 (by rw [List.length_map]; omega)
      exact wp_expr (d := .non) (by (simp only [ev_cst, ev_var, ev_bin, ev_call, ev_nil, ev_cons, ev_bool, ev_asB, ev_not, ev_and, ev_or, ev_tup, ev_lst, ev_yes, ev_chain, ev_andV2, ev_orV, orB_bb, orB_t, orB_f, andB_bb, andB_t, andB_f, ite_andB, ite_orB, op_is, op_isn, ev_bor, ev_borT, borT_ok, bor_b, bor_i, bor_s, bor_n, bor1, bor2, bora1, bora2, ev_notV, ev_ifE, ev_frzT, ev_met, ev_fld, ev_un, un_neg, ev_dnil, ev_methC, ev_iseq, ev_isi, List.getElem?_cons_succ, List.getElem?_cons_zero, List.set_cons_succ, List.set_cons_zero, Res.bind_ok, Res.of_some, vw_i, vw_b, vw_s, vw_n, vw_t, vw_l, vw_d, vw_k, vw_c, it_l, it_t, it_s, op_add_i, op_sub_i, op_lt_i, op_le_i, op_gt_i, op_ge_i, op_eq_i, op_ne_i, op_eq_b, op_ne_b, bi_len_l, bi_len_t, bi_len_d, bi_len_c, op_ix_0, op_ix_1, op_ix_2, tp1, tp2, tp3, tp4, tp5, mk0, mk1, mk2, mk3, mk4, mk5, if_true, if_false, Bool.false_eq_true, Bool.not_true, Bool.not_false, Bool.true_and, Bool.false_and, Bool.true_or, Bool.false_or, bt_one, bt_tup, bt_lst, sa_nil, sa_cons, wipeD, List.length_map, vw_cI at2, is_lst_r' at3, ap] <;> try rfl)) ⟨rfl, by rw [List.map_append]; rfl⟩)
    exact e
  · rw [List.getElem?_set_ne (Ne.symm ne), List.getElem?_set_self (by simp; omega)]
  · rw [List.getElem?_set_self (by simp; omega)]
  · intro k c h1 h2 h3
    have hk : k < μ.length := (List.getElem?_eq_some_iff.mp h3).1
    rw [List.getElem?_set_ne (Ne.symm h2), List.getElem?_set_ne (Ne.symm h1), List.getElem?_append_left hk]; exact h3
end
end SB
set_option Elab.async false
set_option linter.all false
set_option maxRecDepth 100000
namespace SB
open PySem L2
/-- a, b, c = x, y, z of plain names -/
def sPar3 (i j l : Nat) (f : DEs) : DS := fun ρ μ => (f ρ μ).out fun xs μ1 => match xs with
  | [x, y, z] => .nx (((ρ.set i (some x)).set j (some y)).set l (some z)) μ1
  | _ => .bad
section
variable {X : Cx} {ct : Nat → Addr × List Str} {fs : DEs}
end
end SB
set_option Elab.async false
set_option linter.all false
set_option maxRecDepth 100000
namespace SB
open PySem L2 PySem.Spec PyProof.Rows
def isI : D → Bool
  | .int _ => true
  | _ => false
def isS : D → Bool
  | .str _ => true
  | _ => false
def isLI : D → Bool
  | .lst ys => ys.all isI
  | _ => false
def isLS : D → Bool
  | .lst ys => ys.all isS
  | _ => false
def okL (xs : List D) : Bool := (xs.all fun x => pl x && isLI x) || (xs.all fun x => pl x && isLS x)
def ltL (a b : D) : Bool := PySem.W.dataLt (pd a) (pd b)
def srtL (xs : List D) : List D := xs.mergeSort fun a b => !ltL b a
def dSortedL (b : Bool) (f : DE) : DE := fun ρ μ => (f ρ μ).bind fun x μ1 => match seqL (vw μ1 x) with
  | some xs => if okL xs = true then mkL b (srtL xs) μ1 else .bad
  | none => .bad
section
variable {P : Program} {w : World} {A : Around} {E : Value → Shared → Prop} {s : Shared}
end
section
variable {X : Cx} {ct : Nat → Addr × List Str} {e : Expr} {f : DE} {p pos : Pos}
end
end SB
set_option Elab.async false
set_option linter.all false
set_option maxRecDepth 100000
namespace SB
open PySem L2 PySem.Spec PyProof.Rows
/-- J yields the things xs while cell n stays -/
def ItOkN (Z : Zx) (J : It) (F : Hp) (m : List Addr) (n : Nat) (xs : List D) : Prop := ∀ F' m' μ' H, Gr F m F' m' → Wd Z F' m' μ' H → μ'[n]? = some (.lst xs) → ∀ i, (xs.length ≤ i → J.stop i H) ∧
  ∀ d, xs[i]? = some d → J.go i H ∧ ∀ x H', J.yld i H x H' → ∃ F'' m'', Xt F' m' H F'' m'' H' ∧ Wd Z F'' m'' μ' H' ∧ Rl Z F'' m'' d x
def iSN (Z : Zx) (f : DE) : TI := fun σ H R => ∃ F m ρ μ n xs μ', Wd Z F m μ H ∧ RlE Z F m ρ σ ∧ f ρ μ = .ok (.ref n) μ' ∧ μ'[n]? = some (.lst xs) ∧ ∀ J F' m' H', Xt F m H F' m' H' → Wd Z F' m' μ' H' → ItOkN Z J F' m' n xs → R J H'
open Classical in
noncomputable def sForNL (t : Tg) (g : DS) (n : Nat) (all : List D) : List D → DS
  | [] => fun ρ μ => if μ[n]? = some (.lst all) then .nx ρ μ else .bad
  | x :: xs => fun ρ μ => if μ[n]? = some (.lst all) then (match bindT t x ρ μ with
    | none => .bad
    | some ρ1 => match g ρ1 μ with
      | .nx ρ2 μ2 => sForNL t g n all xs ρ2 μ2
      | .ct ρ2 μ2 => sForNL t g n all xs ρ2 μ2
      | .bk ρ2 μ2 => .nx ρ2 μ2
      | o => o) else .bad
noncomputable def sForN (t : Tg) (f : DE) (g : DS) : DS := fun ρ μ => (f ρ μ).out fun d μ1 => match d with
  | .ref n => match μ1[n]? with
    | some (.lst xs) => sForNL t g n xs xs ρ μ1
    | _ => .bad
  | _ => .bad
section
variable {X : Cx} {ct : Nat → Addr × List Str} {tg iter e : Expr} {f : DE} {pos : Pos}
end
def isPI : PyData → Bool
  | .int _ => true
  | _ => false
def kfM (μ : Mu) (x : D) : PyData := (toPyS μ x).getD .none
def okM1 (μ : Mu) (x : D) : Bool := match toPyS μ x with
  | some (.list ps) => ps.all isPI
  | _ => false
def srtM (μ : Mu) (xs : List D) : List D := xs.mergeSort fun a b => !PySem.W.dataLt (kfM μ b) (kfM μ a)
def dSortedM (b : Bool) (f : DE) : DE := fun ρ μ => (f ρ μ).bind fun x μ1 => match seqL (vw μ1 x) with
  | some xs => if xs.all (okM1 μ1) = true then mkL b (srtM μ1 xs) μ1 else .bad
  | none => .bad
section
variable {P : Program} {w : World} {A : Around} {E : Value → Shared → Prop} {s : Shared}
end
section
variable {X : Cx} {ct : Nat → Addr × List Str} {e : Expr} {f : DE} {p pos : Pos}
end
end SB
set_option Elab.async false
set_option linter.all false
set_option maxRecDepth 100000
namespace PySem.SeqAt
open AutoSeq1 (wpAny_loadPart')
open MeetsSeq MeetsSeq2 MeetsSeq3 SeqRoads2
section
variable {prog : Program} {w : World}
end
end PySem.SeqAt
namespace SB
open PySem L2 PySem.Spec PyProof.Rows
def isStrD : D → Bool
  | .str _ => true
  | _ => false
def sEs (es : List (D × D)) : Bool := es.all fun p => isStrD p.1 && isStrD p.2
/-- one item -/
def EqI (μ : Mu) (x y : D) : Prop := (∃ p, toPyS μ x = some p ∧ toPyS μ y = some p ∧ PyData.eqv p p = true) ∨ ∃ es, vw μ x = .dic es ∧ vw μ y = .dic es ∧ sEs es = true ∧ es ≠ [] ∧ ∀ p ∈ es, dget es p.1 = some p.2
def EqIs (μ : Mu) : List D → List D → Prop
  | [], [] => True
  | x :: xs, y :: ys => EqI μ x y ∧ EqIs μ xs ys
  | _, _ => False
open Classical in
noncomputable def opNeX (x y : D) (μ : Mu) : Res D := match seqL (vw μ x), seqL (vw μ y) with
  | some xs, some ys => if EqIs μ xs ys then .ok (.bl false) μ else .bad
  | _, _ => .bad
section
variable {Z : Zx} {F H : Hp} {m : List Addr} {μ : Mu}
end
section
variable {X : Cx} {ct : Nat → Addr × List Str} {pins : List (Addr × Obj)} {σ : L2.St} {F H : Hp} {m : List Addr} {μ : Mu} {s : Shared} {A : Around}
end
def rNeX (X : Cx) (ct : Nat → Addr × List Str) : R2 := fun x y H Q => ∃ F m μ d e xs ys, Wd (zx X ct) F m μ H ∧ Rl (zx X ct) F m d x ∧ Rl (zx X ct) F m e y ∧ seqL (vw μ d) = some xs ∧ seqL (vw μ e) = some ys ∧ EqIs μ xs ys ∧ Q (.bl false) H
def dClr (f : DE) : DE := fun ρ μ => (f ρ μ).bind fun x μ1 => match x with
  | .ref n => match μ1[n]? with
    | some (.dic es) => if dkind es = some false then .ok .non (μ1.set n (.dic [])) else .bad
    | _ => .bad
  | _ => .bad
mutual
def nodic : D → Bool
  | .tup xs => nodics xs
  | .lst xs => nodics xs
  | .dic _ => false
  | .ins _ fs => nodics fs
  | .exc _ _ => false
  | _ => true
def nodics : List D → Bool
  | [] => true
  | x :: xs => nodic x && nodics xs
end
section
variable {Z : Zx} {F F' : Hp} {m : List Addr}
mutual
theorem rl_nodic {a : Addr} {o : Obj} {u : HO} (ha : F a = some (.frz o u)) (hu : ∀ xs, u ≠ .lst xs) (hF : ∀ b, b ≠ a → F' b = F b) : ∀ (d : D) (v : V), nodic d = true → Rl Z F m d v → Rl Z F' m d v
  | .non, v, _, r => by simp only [Rl] at r ⊢; exact r
  | .bl b, v, _, r => by simp only [Rl] at r ⊢; exact r
  | .int b, v, _, r => by simp only [Rl] at r ⊢; exact r
  | .str b, v, _, r => by simp only [Rl] at r ⊢; exact r
  | .tup xs, v, h, r => by
    simp only [nodic] at h
    simp only [Rl] at r ⊢
    obtain ⟨b, vs, e, f, r⟩ := r
    exact ⟨b, vs, e, by rw [hF b (fun z => by rw [z, ha] at f; cases f)]; exact f, rls_nodic ha hu hF xs vs h r⟩
  | .lst xs, v, h, r => by
    simp only [nodic] at h
    simp only [Rl] at r ⊢
    obtain ⟨b, vs, e, f, r⟩ := r
    exact ⟨b, vs, e, by rw [hF b (fun z => by rw [z, ha] at f; cases f)]; exact f, rls_nodic ha hu hF xs vs h r⟩
  | .dic es, v, h, _ => by simp only [nodic] at h; cases h
  | .ins c fs, v, h, r => by
    simp only [nodic] at h
    simp only [Rl] at r ⊢
    obtain ⟨b, dx, vs, e, f, r, l⟩ := r
    exact ⟨b, dx, vs, e, by rw [hF b (fun z => by rw [z, ha] at f; cases f)]; exact f, rls_nodic ha hu hF fs vs h r, l⟩
  | .ref n, v, _, r => by simp only [Rl] at r ⊢; exact r
  | .exc c fs, v, h, _ => by simp only [nodic] at h; cases h
  | .scr ns, v, _, r => by
    simp only [Rl] at r ⊢
    obtain ⟨b, e, f⟩ := r
    refine ⟨b, e, ?_⟩
    rcases f with (f | ⟨o', f⟩) | f
    · exact .inl (.inl (by rw [hF b (fun z => by rw [z, ha] at f; cases f)]; exact f))
    · exact .inl (.inr ⟨o', by rw [hF b (fun z => by rw [z, ha] at f; injection f with f; injection f with _ f; exact hu _ f)]; exact f⟩)
    · exact .inr f
theorem rls_nodic {a : Addr} {o : Obj} {u : HO} (ha : F a = some (.frz o u)) (hu : ∀ xs, u ≠ .lst xs) (hF : ∀ b, b ≠ a → F' b = F b) : ∀ (ds : List D) (vs : List V), nodics ds = true → Rls Z F m ds vs → Rls Z F' m ds vs
  | [], vs, _, r => by simp only [Rls] at r ⊢; exact r
  | d :: ds, vs, h, r => by
    simp only [nodics, Bool.and_eq_true] at h
    simp only [Rls] at r ⊢
    obtain ⟨v, r', e, h1, h2⟩ := r
    exact ⟨v, r', e, rl_nodic ha hu hF d v h.1 h1, rls_nodic ha hu hF ds r' h.2 h2⟩
end
end
/-- may the cell stand while another one is locked -/
def lockC : Cell → Bool
  | .lst xs => nodics xs
  | .ins _ fs => nodics fs
  | .fz _ => true
  | .dic _ => false
open Classical in
noncomputable def sLock (i : Nat) (g : DS) : DS := fun ρ μ => match ρ[i]? with
  | some (some (.ref n)) => match μ[n]? with
    | some (.dic es) => (match g ρ (μ.set n (.fz (.dic es))) with
      | .nx ρ2 μ2 => if μ2 = μ.set n (.fz (.dic es)) ∧ (∀ (j : Nat) (d : D), ρ2[j]? = some (some d) → nodic d = true) ∧ (∀ (j : Nat) (c : Cell), j ≠ n → μ[j]? = some c → lockC c = true) then .nx ρ2 μ else .bad
      | _ => .bad)
    | _ => .bad
  | _ => .bad
end SB
set_option Elab.async false
set_option linter.all false
set_option maxRecDepth 100000
namespace SB
open PySem L2
def dDictV (b : Bool) (f : DE) : DE := fun ρ μ => (f ρ μ).bind fun x μ1 => match vw μ1 x with
  | .dic es => if es = [] ∨ dkind es = some false then mkD b es μ1 else .bad
  | _ => .bad
section
variable {X : Cx} {ct : Nat → Addr × List Str} {e : Expr} {f : DE} {p pos : Pos}
end
end SB
set_option Elab.async false
set_option linter.all false
set_option maxRecDepth 100000
namespace SB
open PySem L2 PySem.Spec PyProof.Rows
theorem exK_ok {P : Program} {w : World} {H : Hp} {h : Heap} {a : Addr} {cls : Value} {d : Option Addr} {oe : Obj} {vs : Array Value} (e : h.get? a = some oe) (z : Zc cls d oe) (dd : oe.data = .fields vs) : ObjOk P w H h a (ExK cls d a) :=
  ⟨⟨oe, vs, e, z, dd⟩, ⟨oe, e⟩, fun _ _ ⟨o, v, q, r⟩ k => ⟨o, v, k o q, r⟩⟩
section
variable {X : Cx} {pins : List (Addr × Obj)} {σ : L2.St} {H : Hp} {s : Shared}
/-- an object that nobody tracked is tracked from now on -/
theorem inv_adopt {a : Addr} {o : HO} (I : Inv X pins σ H s) (n0 : X.s_0.heap.get? a = none) (na : H a = none) (nL : a ≠ X.env.locals) (nC : ∀ x c, X.env.cells.lookup x = some c → c ≠ a) (np : ∀ p ∈ X.pn ++ pins, p.1 ≠ a) (new : ObjOk X.prog X.w (upd H a o) s.heap a o) : Inv X pins σ (upd H a o) s := by
  have ne0 : ∀ b o, X.s_0.heap.get? b = some o → b ≠ a := fun b o e z => by rw [z, n0] at e; cases e
  refine ⟨I.ok, I.os, I.bare, ⟨I.base.keep, I.base.slot, fun b o e n hx => ?_, I.base.there, fun b xs e => ?_, fun b o u e => ?_, fun b ps e => ?_⟩, I.loc, I.cell, ?_, fun x c e => ?_, fun p hp => ?_, I.hok.laidN (fun _ _ q => q) na new, I.len⟩
  · rw [upd_ne (ne0 b o e)]; exact I.base.free b o e n hx
  · have q := I.base.tups b xs e
    rw [upd_ne (ne_of_none q na)]; exact q
  · have q := I.base.frzs b o u e
    rw [upd_ne (ne_of_none q na)]; exact q
  · obtain ⟨m, q⟩ := I.base.tbls b ps e
    exact ⟨m, by rw [upd_ne (ne_of_none q na)]; exact q⟩
  · rw [upd_ne (Ne.symm nL)]; exact I.free
  · rw [upd_ne (nC x c e)]; exact I.freeC x c e
  · obtain ⟨e, n, r⟩ := I.pin p hp
    exact ⟨e, by rw [upd_ne (np p hp)]; exact n, r⟩
end
/-- what the clause 'except x as n' wishes: what was caught is known behind it -/
def wKeep (K : PySem.W.Frag) (c : Value) (i : Nat) (ts : Addr → Value → Option Addr → TS) (Wout : WX) (D : Ends) : WX := fun cls d σ H =>
  ∃ b, PySem.W.exmOne K cls c = some b ∧ (b = true → ∀ a, H a = none → ts a cls d { nx := fun σ' H' => H' a = none ∧ D.nx (σ'.set i none) (upd H' a (ExK cls d a)), rt := fun _ _ => False, bk := fun _ _ => False, ct := fun _ _ => False } (σ.set i (some (.ref a))) H) ∧
    (b = false → Wout cls d σ H)
section
variable {X : Cx} {x n : Str} {c : Value} {i : Nat} {body suite : List Stmt} {b₀ : Stmt} {np pos pos' : Pos} {tb : WX → TS} {ts : Addr → Value → Option Addr → TS} {Wout : WX}
theorem ps_try_keep (hs : X.stack = X.env :: X.outer) (hex : X.ex = []) (hf : X.env.frame = some X.env.locals) (hN : X.N.Nodup) (hi : X.N[i]? = some n) (hln : X.env.kindOf n = some .local) (hc : Names X x c) (tk : Takes X Wout)
    (hb : ∀ (W : WX) (pn : List (Addr × Obj)) (xe : Value → Shared → Prop), Takes (X.tr pn xe) W → PassesOwn (model X.prog X.w) X.A X.env xe → PSs (X.tr pn xe) body (tb W))
    (hsu : ∀ (a : Addr) (oe : Obj) (cls : Value) (d : Option Addr) (pn : List (Addr × Obj)), Zc cls d oe → (∃ vs, oe.data = .fields vs) → PSs (X.suite a ((a, oe) :: pn)) (b₀ :: suite) (ts a cls d)) :
    PS X (.Try body [.ExceptHandler (some (.Name x np)) (some n) (b₀ :: suite) pos'] [] [] pos) (fun D σ H => tb (wKeep X.K c i ts Wout D) D σ H) := by
  refine ⟨fun pins s σ H D I h => ?_⟩
  have ok := I.ok
  have hfr : X.A.frames = some (X.env :: X.outer) := by rw [ok.frames, hs]
  have hloc : Loc X.env.scope n := .inl hln
  refine wpAny_Try_except ?_
  refine wpAny_mono ((hb (wKeep X.K c i ts Wout D) (X.pn ++ pins) (fun e s₁ => wpAny (model X.prog X.w) X.A (noteFrame e X.env) (fun _ s₂ => wpAny (model X.prog X.w) X.A (setFlight e none) (fun _ s₃ =>
    wpAny (model X.prog X.w) X.A (handleBy e X.env [.ExceptHandler (some (.Name x np)) (some n) (b₀ :: suite) pos']) (SP X pins D) X.xe s₃) X.xe s₂) X.xe s₁) (fun u s' xx => ?_) PassesOwn.looking).run [] s σ H D (I.toTry _) h) (fun f s1 hsp => ?_) (fun e s1 he => he)
  · obtain ⟨a, B, sI, pins', σ', H', cls, d, rfl, J', nb, up, sky, na, os, ag, b, hb1, hyes, hno⟩ := xx
    have J : Inv X pins σ' H' sI := J'.ofTry ok
    have sky' : Sky B (X.env :: X.outer) a (Zc cls d) X.env.locals s'.heap := by rw [← hs]; exact sky
    show wpAny (model X.prog X.w) X.A (noteFrame (.ref a) X.env) _ _ _
    refine Sky.land Zc.steady hfr hf sky' fun h3 fl3 up3 => ?_
    have J3 : Inv X pins σ' H' { s' with heap := h3 } := J.landed nb fl3.1 (up.trans up3) os ag
    obtain ⟨oe3, vs3, he3, hz3, hd3⟩ := fl3.there
    have notFr : ∀ {h : Heap} {o : Obj} {vs : Array Value}, h.FunFrames B (X.env :: X.outer) → h.get? a = some o → o.data = .fields vs → a ∉ frs (X.env :: X.outer) := fun {h o vs} ff e dd hm => by
      obtain ⟨_, o', e', hnf⟩ := ff.mem hm
      rw [e] at e'; cases e'
      exact hnf _ dd
    have nfr := notFr fl3.2.2.1 he3 hd3
    have nL : a ≠ X.env.locals := fun z => nfr (List.mem_filterMap.mpr ⟨X.env, List.mem_cons_self, by rw [hf, z]⟩)
    have nF : a ∉ X.fs := fun hm => by
      obtain ⟨e, he, q⟩ := List.mem_filterMap.mp hm
      exact nfr (List.mem_filterMap.mpr ⟨e, List.mem_cons_of_mem _ he, q⟩)
    -- the exception is new to us
    have nB : B.get? a = none := fl3.2.1
    have nfs : a ∉ frs X.stack := by rw [hs]; exact nfr
    have n0 : X.s_0.heap.get? a = none := by
      cases e : X.s_0.heap.get? a with
      | none => rfl
      | some o =>
        obtain ⟨o', e'⟩ := J.base.there a o e (by rw [hex]; exact List.not_mem_nil)
        have := nb a o' e' nfs
        rw [nB] at this; cases this
    have npn : ∀ p ∈ X.pn ++ pins, p.1 ≠ a := fun p hp z => by
      obtain ⟨e, _⟩ := J.pin p hp
      rw [z] at e
      have := nb a _ e nfs
      rw [nB] at this; cases this
    have S3 := J3.suite he3 hd3 na nL nF
    refine wpAny_handleBy_cons (codeAny_handlers_test ?_) (by intro q; cases q)
    have LT : PySem.W.Looks (model X.prog X.w) h3 (typeOf (.ref a)) cls := fun A Q E s k q => wpAny_typeOf_ref (k _ _ he3) (by rw [hz3.1]; exact q)
    have LM := PySem.W.exm_one (M := model X.prog X.w) (J3.kIn) LT hb1
    have test : ∀ {Q : Value → Shared → Prop} {E : Value → Shared → Prop}, Q c { s' with heap := h3 } → wpAny (model X.prog X.w) (X.A.mark (some (.ref a))) (eval (.Name x np) X.env) Q E { s' with heap := h3 } := fun {Q E} q => by
      obtain ⟨hg, hdbg, hm | ⟨hm, hv, hnn⟩⟩ := hc
      · exact ld_glob (X := X.suite a ((a, oe3) :: (X.pn ++ pins))) S3 hg hm q hdbg
      · exact ld_blt (X := X.suite a ((a, oe3) :: (X.pn ++ pins))) S3 hg hm hv q hnn hdbg
    refine test (LM.here ?_)
    cases b with
    | true =>
      refine codeAny_handlers_suite_as ?_
      refine HandSPX.lands_againZ fl3 fun h4 fl4 up4 => ?_
      have J4 : Inv X pins σ' H' { s' with heap := h4 } := J.landed nb fl4.1 ((up.trans up3).trans up4) os ag
      obtain ⟨oe4, vs4, he4, hz4, hd4⟩ := fl4.there
      have S4 := J4.suite he4 hd4 na nL nF
      refine store_ok (X := X.suite a ((a, oe4) :: (X.pn ++ pins))) (v := .ref a) S4 hN hi hloc rfl (fun s5 S5 => ?_) (.inr hln)
      refine wpAny_mono ((hsu a oe4 cls d (X.pn ++ pins) hz4 ⟨_, hd4⟩).run [] s5 _ H' _ S5 (hyes rfl a na)) (fun f s6 hsp => ?_) (fun _ _ z => False.elim z)
      cases f with
      | next =>
        obtain ⟨σ6, H6, S6, n6, q6⟩ := hsp
        obtain ⟨e6, _⟩ := S6.pin (a, oe4) (List.mem_append_left _ List.mem_cons_self)
        have J6 : Inv X pins σ6 (upd H6 a (ExK cls d a)) s6 := inv_adopt (S6.unsuite ok) n0 n6 nL (fun x c e z => by
          obtain ⟨v, o, ho, hd⟩ := S6.cell x c e
          rw [z] at ho
          have e6' : s6.heap.get? a = some oe4 := e6
          rw [e6'] at ho; cases ho
          rw [hd4] at hd; cases hd) npn (exK_ok e6 hz4 hd4)
        exact gone_ok J6 hN hi hln fun s7 J7 => ⟨_, _, J7, q6⟩
      | brk =>
        obtain ⟨σ6, H6, S6, q6⟩ := hsp
        exact q6.elim
      | cont =>
        obtain ⟨σ6, H6, S6, q6⟩ := hsp
        exact q6.elim
      | ret u =>
        obtain ⟨v6, σ6, H6, S6, r6, q6⟩ := hsp
        exact q6.elim
    | false =>
      show wpAny _ X.A (handleBy (.ref a) X.env []) _ _ _
      refine wpAny_handleBy_nil ?_
      obtain ⟨k1, k2, k3, oe, vs, T, oT, ts', he, hz, hd, h1, hr⟩ := id fl3
      unfold PySem.passOn
      refine wpAny_bind (wpAny_field he hd h1 ?_)
      rw [if_neg (show ¬ ((Value.ref T == Value.none) = true) from by simp)]
      have fin : wpAny (model X.prog X.w) X.A (setFlight (.ref a) X.env.frame) (fun _ s4 => wpAny (model X.prog X.w) X.A (throw (.ref a) : Sem Flow) (SP X pins D) X.xe s4) X.xe { s' with heap := h3 } := by
        rw [hf]
        refine HandSPX.setFlight_upZ fl3 fun h4 hh4 up4 => wpAny_throw (tk _ _ ?_)
        exact ⟨a, B, sI, pins, σ', H', cls, d, rfl, J, nb, (up.trans up3).trans up4, .inr (.inr (by rw [hs]; exact hh4)), na, os, ag, hno rfl⟩
      first
        | exact wpAny_bind (wpAny_pure (wpAny_bind fin))
        | exact wpAny_bind fin
  · cases f with
    | next =>
      obtain ⟨σ', H', J', q⟩ := hsp
      exact wpAny_execs_nil ⟨σ', H', J'.ofTry ok, q⟩
    | brk =>
      obtain ⟨σ', H', J', q⟩ := hsp
      exact ⟨σ', H', J'.ofTry ok, q⟩
    | cont =>
      obtain ⟨σ', H', J', q⟩ := hsp
      exact ⟨σ', H', J'.ofTry ok, q⟩
    | ret u =>
      obtain ⟨v, σ', H', J', r, q⟩ := hsp
      exact ⟨v, σ', H', J'.ofTry ok, r, q⟩
end
end SB
set_option Elab.async false
set_option linter.all false
set_option maxRecDepth 100000
namespace SB
open PySem L2
inductive OutX where
  | o (x : Out) | ex (ρ : Ev) (c : Nat) (fs : List D) (μ : Mu)
abbrev DX := Ev → Mu → OutX
/-- where an exception's attributes stand -/
def XdX (Z : Zx) (F : Hp) (m : List Addr) (c : Nat) (fs : List D) (dx : Addr) : Prop := ∃ vs, F dx = some (.xd ((Z.ct c).2.zip vs)) ∧ Rls Z F m fs vs ∧ vs.length ≤ (Z.ct c).2.length
def AftX (Z : Zx) (F : Hp) (m : List Addr) (H : Hp) (D : Ends) (w : WX) : OutX → Prop
  | .o x => AftS Z F m H D x
  | .ex ρ c fs μ => ∀ σ dx F' m' H', Xt F m H F' m' H' → Wd Z F' m' μ H' → RlE Z F' m' ρ σ → XdX Z F' m' c fs dx → w (.ref (Z.ct c).1) (some dx) σ H'
def tX (Z : Zx) (w : WX) (f : DX) : TS := fun D σ H => ∃ F m ρ μ, Wd Z F m μ H ∧ RlE Z F m ρ σ ∧ AftX Z F m H D w (f ρ μ)
theorem AftX.weak {Z : Zx} {F F' H H' : Hp} {m m' : List Addr} {D : Ends} {w : WX} {μ1 : Mu} {o : OutX} (x : Xt F m H F' m' H') (W : Wd Z F' m' μ1 H') (k : AftX Z F m H D w o) : AftX Z F' m' H' D w o := by
  cases o with
  | o y => exact AftS.weak x W k
  | ex ρ c fs μ => exact fun σ dx F'' m'' H'' x' W' r q => k σ dx F'' m'' H'' (x.trans x' W.there) W' r q
def Res.outX {α : Type} (r : Res α) (k : α → Mu → OutX) : OutX := match r with
  | .ok a μ => k a μ
  | .bad => .o .bad
@[simp] theorem outX_ok {α : Type} (a : α) (μ : Mu) (k : α → Mu → OutX) : (Res.ok a μ).outX k = k a μ := rfl
theorem tE_outX {Z : Zx} {F H : Hp} {m : List Addr} {μ : Mu} {ρ : Ev} {σ : St} {f : DE} {k : D → Mu → OutX} {D : Ends} {w : WX} {R : VK} (W : Wd Z F m μ H) (r : RlE Z F m ρ σ) (h : AftX Z F m H D w ((f ρ μ).outX k))
    (n : ∀ x μ1 v F' m' H', AftX Z F' m' H' D w (k x μ1) → Xt F m H F' m' H' → Wd Z F' m' μ1 H' → RlE Z F' m' ρ σ → Rl Z F' m' x v → R v H') : tE Z f σ H R := by
  cases e : f ρ μ with
  | bad => rw [e] at h; exact h.elim
  | ok x μ1 =>
    rw [e] at h
    exact ⟨F, m, ρ, μ, x, μ1, W, r, e, fun v F' m' H' x' W' rl => n x μ1 v F' m' H' (AftX.weak x' W' h) x' W' (r.gr x'.gr) rl⟩
theorem tT_outX {Z : Zx} {F H : Hp} {m : List Addr} {μ : Mu} {ρ : Ev} {σ : St} {f : DT} {k : Bool → Mu → OutX} {D : Ends} {w : WX} {R : Bool → Hp → Prop} (W : Wd Z F m μ H) (r : RlE Z F m ρ σ) (h : AftX Z F m H D w ((f ρ μ).outX k))
    (n : ∀ x μ1 F' m' H', AftX Z F' m' H' D w (k x μ1) → Xt F m H F' m' H' → Wd Z F' m' μ1 H' → RlE Z F' m' ρ σ → R x H') : tT Z f σ H R := by
  cases e : f ρ μ with
  | bad => rw [e] at h; exact h.elim
  | ok x μ1 =>
    rw [e] at h
    exact ⟨F, m, ρ, μ, x, μ1, W, r, e, fun F' m' H' x' W' => n x μ1 F' m' H' (AftX.weak x' W' h) x' W' (r.gr x'.gr)⟩
theorem tA_outX {Z : Zx} {F H : Hp} {m : List Addr} {μ : Mu} {ρ : Ev} {σ : St} {f : DEs} {k : List D → Mu → OutX} {D : Ends} {w : WX} {R : List V → Hp → Prop} (W : Wd Z F m μ H) (r : RlE Z F m ρ σ) (h : AftX Z F m H D w ((f ρ μ).outX k))
    (n : ∀ xs μ1 vs F' m' H', f ρ μ = .ok xs μ1 → AftX Z F' m' H' D w (k xs μ1) → Xt F m H F' m' H' → Wd Z F' m' μ1 H' → RlE Z F' m' ρ σ → Rls Z F' m' xs vs → R vs H') : tA Z f σ H R := by
  cases e : f ρ μ with
  | bad => rw [e] at h; exact h.elim
  | ok x μ1 =>
    rw [e] at h
    exact ⟨F, m, ρ, μ, x, μ1, W, r, e, fun v F' m' H' x' W' rl => n x μ1 v F' m' H' e (AftX.weak x' W' h) x' W' (r.gr x'.gr) rl⟩
def xLift (g : DS) : DX := fun ρ μ => .o (g ρ μ)
def xSeq (f g : DX) : DX := fun ρ μ => match f ρ μ with
  | .o (.nx ρ' μ') => g ρ' μ'
  | o => o
def xIf (c : DT) (f g : DX) : DX := fun ρ μ => (c ρ μ).outX fun b μ' => if b then f ρ μ' else g ρ μ'
def xForL (t : Tg) (g : DX) : List D → DX
  | [] => fun ρ μ => .o (.nx ρ μ)
  | d :: ds => fun ρ μ => match bindT t d ρ μ with
    | none => .o .bad
    | some ρ1 => match g ρ1 μ with
      | .o (.nx ρ2 μ2) => xForL t g ds ρ2 μ2
      | .o (.ct ρ2 μ2) => xForL t g ds ρ2 μ2
      | .o (.bk ρ2 μ2) => .o (.nx ρ2 μ2)
      | o => o
def xFor (t : Tg) (f : DI) (g : DX) : DX := fun ρ μ => (f ρ μ).outX fun xs μ1 => xForL t g xs ρ μ1
/-- a def that may raise -/
inductive ResX where
  | ok (d : D) (μ : Mu) | ex (c : Nat) (fs : List D) (μ : Mu) | bad
abbrev FnX := List D → Mu → ResX
def ResX.out (r : ResX) (ρ : Ev) : OutX := match r with
  | .ok _ μ => .o (.nx ρ μ)
  | .ex c fs μ => .ex ρ c fs μ
  | .bad => .o .bad
/-- f(..), for what it does -/
def xCall (fs : DEs) (Φ : FnX) : DX := fun ρ μ => (fs ρ μ).outX fun xs μ1 => (Φ xs μ1).out ρ
def xMake (c : Nat) (fs : DEs) (Φ : FnX) : DX := fun ρ μ => (fs ρ μ).outX fun xs μ1 => match Φ (.ref μ1.length :: xs) (μ1 ++ [.ins c []]) with
  | .ok .non μ2 => .o (.nx ρ μ2)
  | .ex c fs μ2 => .ex ρ c fs μ2
  | _ => .o .bad
def xMeth (c : Nat) (f : DE) (fs : DEs) (Φ : FnX) : DX := fun ρ μ => (f ρ μ).outX fun x μ1 => match vw μ1 x with
  | .ins c' _ => if c' = c then (fs ρ μ1).outX fun xs μ2 => (Φ (x :: xs) μ2).out ρ else .o .bad
  | _ => .o .bad
/-- raise C(..): the attributes stand in the dict the last one first -/
def xRaise (c : Nat) (fs : DEs) : DX := fun ρ μ => (fs ρ μ).outX fun xs μ1 => .ex ρ c xs.reverse μ1
/-- try: g / except .. as (slot i): (slot j) = (slot i), where all of the classes cs are caught -/
def sTryK (cs : List Nat) (i j : Nat) (g : DX) : DS := fun ρ μ => match g ρ μ with
  | .o x => x
  | .ex ρ' c fs μ' => if c ∈ cs ∧ i < ρ'.length ∧ j < ρ'.length ∧ i ≠ j then .nx ((ρ'.set i none).set j (some (.exc c fs))) μ' else .bad
/-- the promise of a def that may raise -/
def AftE (Z : Zx) (F : Hp) (m : List Addr) (H : Hp) (c : Nat) (fs : List D) (μ' : Mu) (E : XK) : Prop := ∀ dx F' m' H', Xt F m H F' m' H' → Wd Z F' m' μ' H' → XdX Z F' m' c fs dx → E (.ref (Z.ct c).1) (some dx) H'
def AftR (Z : Zx) (F : Hp) (m : List Addr) (H : Hp) (Q : VK) (E : XK) : ResX → Prop
  | .ok d μ => Aft Z F m H d μ Q
  | .ex c fs μ => AftE Z F m H c fs μ E
  | .bad => False
def spX (Z : Zx) (n : Nat) (Φ : FnX) : Sp := fun vs H Q E => vs.length = n ∧ ∃ F m μ ds, Wd Z F m μ H ∧ Rls Z F m ds vs ∧ AftR Z F m H Q E (Φ ds μ)
def resX : OutX → ResX
  | .o (.rt d μ) => .ok d μ
  | .o (.nx _ μ) => .ok .non μ
  | .ex _ c fs μ => .ex c fs μ
  | _ => .bad
def callX (n : Nat) (f : DX) : FnX := fun ds μ => resX (f (startD n ds) μ)
/-- .. from nothing that may change to nothing that may change -/
def callXP (n : Nat) (f : DX) : FnX := fun ds μ => if closeds ds then (match resX (f (startD n ds) []) with
  | .ok d _ => if closed d then .ok d μ else .bad
  | .ex c fs _ => if closeds fs then .ex c fs μ else .bad
  | .bad => .bad) else .bad
theorem AftR.weak {Z : Zx} {F F' H H' : Hp} {m m' : List Addr} {Q : VK} {E : XK} {μ1 : Mu} {o : ResX} (x : Xt F m H F' m' H') (W : Wd Z F' m' μ1 H') (k : AftR Z F m H Q E o) : AftR Z F' m' H' Q E o := by
  cases o with
  | ok d μ => exact Aft.weak x W k
  | ex c fs μ => exact fun dx F'' m'' H'' x' W' q => k dx F'' m'' H'' (x.trans x' W.there) W' q
  | bad => exact k
section
variable {X : Cx} {ct : Nat → Addr × List Str} {w : WX} {pos : Pos} {e c : Expr} {st : Stmt} {sts rest a b : List Stmt} {f : DE} {s : DS} {g h : DX} {t : DT}
theorem PS.nox {t : TS} (h : PS X.nox st t) : PS X st t := ⟨fun pins s σ H D I hw =>
  wpAny_mono (h.run pins s σ H D (I.wish _) hw) (fun _ _ q => q.unwish) fun _ _ z => False.elim z⟩
theorem dx_lift (h : PS X.nox st (tS (zx X ct) s)) : PS X st (tX (zx X ct) w (xLift s)) := ps_imp (PS.nox h) fun D σ H q => q
theorem dx_lifts (h : PSs X.nox sts (tS (zx X ct) s)) : PSs X sts (tX (zx X ct) w (xLift s)) := pss_imp h.nox fun D σ H q => q
theorem dx_cons (h1 : PS X st (tX (zx X ct) w g)) (h2 : PSs X rest (tX (zx X ct) w h)) : PSs X (st :: rest) (tX (zx X ct) w (xSeq g h)) := by
  refine pss_imp (pss_cons h1 h2) fun D σ H q => ?_
  obtain ⟨F, m, ρ, μ, W, r, k⟩ := q
  refine ⟨F, m, ρ, μ, W, r, ?_⟩
  unfold xSeq at k
  cases e : g ρ μ with
  | o x =>
    rw [e] at k
    cases x with
    | nx ρ' μ' => exact fun σ' F' m' H' x' W' r' => ⟨F', m', ρ', μ', W', r', AftX.weak x' W' k⟩
    | rt d μ' => exact k
    | bk ρ' μ' => exact k
    | ct ρ' μ' => exact k
    | bad => exact k
  | ex ρ' c fs μ' => rw [e] at k; exact k
theorem dx_one (h1 : PS X st (tX (zx X ct) w g)) : PSs X [st] (tX (zx X ct) w g) := pss_one h1
theorem dx_if (hc : PT X c (tT (zx X ct) t)) (ha : PSs X a (tX (zx X ct) w g)) (hb : PSs X b (tX (zx X ct) w h)) : PS X (.If c a b pos) (tX (zx X ct) w (xIf t g h)) := by
  refine ps_imp (ps_if hc ha hb) fun D σ H q => ?_
  obtain ⟨F, m, ρ, μ, W, r, k⟩ := q
  refine tT_outX W r k fun x μ1 F1 m1 H1 k1 x1 W1 r1 => ?_
  cases x with
  | true => rw [if_pos rfl] at k1 ⊢; exact ⟨F1, m1, ρ, μ1, W1, r1, k1⟩
  | false => rw [if_neg (by decide)] at k1 ⊢; exact ⟨F1, m1, ρ, μ1, W1, r1, k1⟩
end
section
variable {P : Program} {w : World} {K : PySem.W.Frag} {mg : Str → Option Value} {base : Heap} {ct : Nat → Addr × List Str}
theorem fnX_ok {x qual : Str} {st : Stmt} {f : Addr} {fd : FuncData} {N ps : List Str} {k : Nat} {g : DX} (F : Fun K x qual st f fd) (S : FnScope N ps (defScope st))
    (body : ∀ (cdv : Value) (A : Around) (outer : List Env) (s : Shared) (H : Hp) (E : XK), Room k (A.deeper (PyProof.Rows.envOfC qual (defScope st) s.heap.objs.size f cdv)) →
      Takes (cxOf (CX P w) P w K mg base N qual (defScope st) f cdv A outer s H E) (fun cls d _ H => E cls d H) → PassesOwn (model P w) (cxOf (CX P w) P w K mg base N qual (defScope st) f cdv A outer s H E).A (cxOf (CX P w) P w K mg base N qual (defScope st) f cdv A outer s H E).env (cxOf (CX P w) P w K mg base N qual (defScope st) f cdv A outer s H E).xe →
      PSs (cxOf (CX P w) P w K mg base N qual (defScope st) f cdv A outer s H E) (defBody st) (tX ⟨P, w, K, ct⟩ (fun cls d _ H => E cls d H) g)) :
    FnOk P w K mg base (CX P w) (k + 1) f fd ps (spX ⟨P, w, K, ct⟩ ps.length (callX N.length g)) := by
  refine F.okX S (fun vs H Q E h => h.1) (fun cdv A outer s H vs Q E hr h => ?_)
  obtain ⟨_, F, m, μ, ds, W, rs, kk⟩ := h
  refine ⟨_, body cdv A outer s H E hr (takes_of rfl rfl rfl rfl) (passes_of rfl), F, m, startD N.length ds, μ, W, rlE_start rs, ?_⟩
  unfold callX at kk
  cases eo : g (startD N.length ds) μ with
  | o y =>
    rw [eo] at kk
    cases y with
    | rt d' μ2 => exact kk
    | nx ρ μ2 => exact fun σ F' m' H' x W' _ => kk .non F' m' H' x W' (by simp only [Rl])
    | bk ρ μ2 => exact kk.elim
    | ct ρ μ2 => exact kk.elim
    | bad => exact kk.elim
  | ex ρ c fs μ2 =>
    rw [eo] at kk
    exact fun σ dx F' m' H' x W' _ q => kk dx F' m' H' x W' q
theorem XdX.cl {Z : Zx} {F : Hp} {m m' : List Addr} {c : Nat} {fs : List D} {dx : Addr} (h : XdX Z F m c fs dx) (cl : closeds fs = true) : XdX Z F m' c fs dx := by
  obtain ⟨vs, e, r, l⟩ := h
  exact ⟨vs, e, Rls.cl fs vs cl r, l⟩
theorem FnOkX.pure {k : Nat} {f : Addr} {fd : FuncData} {ps : List Str} {n : Nat} {g : DX}
    (h : FnOk P w K mg base (CX P w) k f fd ps (spX ⟨P, w, K, ct⟩ ps.length (callX n g))) : FnOk P w K mg base (CX P w) k f fd ps (spX ⟨P, w, K, ct⟩ ps.length (callXP n g)) := by
  refine h.imp fun vs H Q E q => ?_
  obtain ⟨hl, F, m, μ, ds, W, rs, kk⟩ := q
  unfold callXP at kk
  split at kk
  · rename_i hc
    refine ⟨hl, F, [], [], ds, W.none, Rls.cl ds vs hc rs, ?_⟩
    unfold callX
    cases er : resX (g (startD n ds) []) with
    | ok d μ2 =>
      rw [er] at kk
      simp only at kk
      split at kk
      · rename_i cd
        refine fun v F' m' H' x W' rv => ?_
        obtain ⟨W2, x2⟩ := W.back x W'
        exact kk v F' m H' x2 W2 (Rl.cl d v cd rv)
      · exact kk.elim
    | ex c fs μ2 =>
      rw [er] at kk
      simp only at kk
      split at kk
      · rename_i cd
        refine fun dx F' m' H' x W' q => ?_
        obtain ⟨W2, x2⟩ := W.back x W'
        exact kk dx F' m H' x2 W2 (q.cl cd)
      · exact kk.elim
    | bad => rw [er] at kk; exact kk.elim
  · exact kk.elim
end
section
variable {X : Cx} {w : WX} {C : Addr} {k : Nat} {f : Addr} {fd : FuncData} {ps : List Str} {sp : Sp} {E : XK} {CX : CXT}
end
end SB
set_option Elab.async false
set_option linter.all false
set_option maxRecDepth 100000
namespace SB
open PySem L2 PySem.Spec PyProof.Rows
section
variable {X : Cx} {ct : Nat → Addr × List Str} {w : WX} {pos p pos2 : Pos} {x nm : Str} {e o : Expr} {es : List Expr} {f : DE} {fs : DEs} {Φ : FnX} {fa : Addr} {fd : FuncData} {ps : List Str} {k n c : Nat}
theorem aftR_out {Z : Zx} {F H : Hp} {m : List Addr} {μ : Mu} {D : Ends} {ρ : Ev} {σ : L2.St} {r : ResX} (W : Wd Z F m μ H) (q : RlE Z F m ρ σ) (h : AftX Z F m H D w (r.out ρ)) : AftR Z F m H (fun _ H' => D.nx σ H') (WE w σ) r := by
  cases r with
  | ok d μ' => exact fun v F' m' H' x' W' _ => h σ F' m' H' x' W' (q.gr x'.gr)
  | ex c fs μ' => exact fun dx F' m' H' x' W' z => h σ dx F' m' H' x' W' (q.gr x'.gr) z
  | bad => exact h
theorem pe_methE {pl : Sem Bool} {ta : TE} {t : TA} {C : Addr} {m : Str} {sp : Sp} {CX : CXT} {E : L2.St → XK} {apos : Pos} (he : PE X o ta) (c : Cls X.K C) (hm : Meth X.K C m fa) (G : FnOk X.prog X.w X.K X.mg X.base CX k fa fd ps sp) (hr : Room k X.A) (hb : Binds X.K fd ps []) (hx : ∀ σ, PassesAt CX X σ (E σ)) (ha : PA X (e :: es) t)
    (hst : starEach (e :: es) X.env = (false, eval e X.env) :: starEach es X.env := by rfl) (hpl : (backTo pos (starEach es X.env)).any (·.1) = false := by rfl)
    (ht : eval (.Call (.Attribute o m apos) (e :: es) [] pos) X.env = (do
      let ov ← eval o X.env
      standAt apos.atName
      let (f, first) ← holding [ov] (getMethod ov m pl)
      callWith pos f first (backTo pos (starEach (e :: es) X.env)) (backToKw pos (keywordEach [] X.env))) := by rfl) :
    PE X (.Call (.Attribute o m apos) (e :: es) [] pos) (fun σ H Q => ta σ H fun x H1 => ∃ a dx fs, x = .ref a ∧ H1 a = some (.ins C dx fs) ∧ fs.lookup m = none ∧ t σ H1 fun vs H2 => sp (.ref a :: vs) H2 Q (E σ)) := by
  refine ⟨fun pins s σ H Q I h => ?_⟩
  refine PySem.W.methodCall_KW (pl := pl) (thn (he.run pins s σ H _ I h) fun u s1 ⟨x, H1, I1, rx, a, dx, fs, ex, ea, l, q⟩ => ?_) ht
  subst ex
  obtain rfl : u = Value.ref a := rx
  refine getmeth_ok I1 ea c hm l ?_
  refine PySem.W.callWith_K (first := [.ref a]) (h₀ := X.base) I.ok.mod.kin hm.kp (thn (ha.run pos pins s1 σ H1 _ I1 q) fun us s2 ⟨vs, H2, I2, r, q2⟩ => ⟨I2.kIn, ?_⟩) hst hpl
  exact run_fnS (us := .ref a :: us) (vs := .ref a :: vs) G hr hb (hx σ) I2 (.cons rfl r) q2
/-- o.m(..) -/
theorem dx_meth {pl : Sem Bool} {apos : Pos} (C : ClsD X.K ct c) (hm : Meth X.K (ct c).1 nm fa) (hno : nm ∉ (ct c).2) (G : FnOk X.prog X.w X.K X.mg X.base (CX X.prog X.w) k fa fd ps (spX (zx X ct) n Φ)) (tk : Takes X w) (hl : (e :: es).length + 1 = n) (hr : Room k X.A) (hb : Binds X.K fd ps [])
    (ho : PE X o (tE (zx X ct) f)) (ha : PA X (e :: es) (tA (zx X ct) fs)) (hfs : ∀ ρ μ xs μ', fs ρ μ = .ok xs μ' → xs.length = (e :: es).length)
    (hst : starEach (e :: es) X.env = (false, eval e X.env) :: starEach es X.env := by rfl) (hpl : (backTo pos (starEach es X.env)).any (·.1) = false := by rfl)
    (ht : eval (.Call (.Attribute o nm apos) (e :: es) [] pos) X.env = (do
      let ov ← eval o X.env
      standAt apos.atName
      let (f, first) ← holding [ov] (getMethod ov nm pl)
      callWith pos f first (backTo pos (starEach (e :: es) X.env)) (backToKw pos (keywordEach [] X.env))) := by rfl)
    (hs : swapsWith (.Call (.Attribute o nm apos) (e :: es) [] pos) none pos2.line X.env = pure false := by rfl) : PS X (.Expr (.Call (.Attribute o nm apos) (e :: es) [] pos) pos2) (tX (zx X ct) w (xMeth c f fs Φ)) := by
  refine ps_imp (ps_expr (pe_methE ho C.cl hm G hr hb (fun σ => passAt tk σ) ha hst hpl ht) hs) fun D σ H q => ?_
  obtain ⟨F, m, ρ, μ, W, r, kk⟩ := q
  refine tE_outX W r kk fun x μ1 v F1 m1 H1 k1 x1 W1 r1 rx => ?_
  split at k1
  · rename_i c' fs' hc
    split at k1
    · rename_i hcc
      subst hcc
      obtain ⟨a, dx, vs, rfl, hH, rs, _⟩ := vw_ins W1 rx hc
      refine ⟨a, dx, _, rfl, hH, zip_none hno, tA_outX W1 r1 k1 fun xs μ2 us F2 m2 H2 e2 k2 x2 W2 r2 ru => ?_⟩
      exact ⟨by simp only [List.length_cons]; rw [ru.length, hfs _ _ _ _ e2]; exact hl, F2, m2, μ2, _, W2, .cons (Rl.gr x2.gr _ _ rx) ru, aftR_out W2 r2 k2⟩
    · exact k1.elim
  · exact k1.elim
end
/-- what isinstance asks of an exception class -/
structure KitE (K : PySem.W.Frag) (C : Addr) : Prop where
  cl : (PySem.W.clsIn K C).isSome = true
  ga : PySem.W.findIn K (.ref C) "__getattribute__" = some (some (.builtin "BaseException.__getattribute__"))
  gt : PySem.W.findIn K (.ref C) "__getattr__" = some none
  sb : PySem.W.subIn K (.ref C) (.type "BaseException") = some true
  ca : PySem.W.findIn K (.ref C) "__class__" = some (some (.builtin "object.__class__"))
  sp : PySem.W.specialIn K (.builtin "object.__class__") "__get__" = some (some (.builtin "getset_descriptor.__get__"))
  tk : PySem.W.takesIn K (.builtin "object.__class__") = some true
  mo : PySem.W.mroIn K C (.type "object") = some true
theorem kitE_of {K : PySem.W.Frag} {C : Addr} (hd : PySem.W.hasDictIn K C = true) (ga : PySem.W.findIn K (.ref C) "__getattribute__" = some (some (.builtin "BaseException.__getattribute__"))) (gt : PySem.W.findIn K (.ref C) "__getattr__" = some none) (sb : PySem.W.subIn K (.ref C) (.type "BaseException") = some true)
    (ca : PySem.W.findIn K (.ref C) "__class__" = some (some (.builtin "object.__class__"))) (sp : PySem.W.specialIn K (.builtin "object.__class__") "__get__" = some (some (.builtin "getset_descriptor.__get__"))) (tk : PySem.W.takesIn K (.builtin "object.__class__") = some true) (mo : PySem.W.mroIn K C (.type "object") = some true) : KitE K C := by
  refine ⟨?_, ga, gt, sb, ca, sp, tk, mo⟩
  obtain ⟨cd, hc, _⟩ := PySem.W.any_some hd
  rw [hc]
  rfl
/-- what the written part says of the exception class c -/
structure ExD (K : PySem.W.Frag) (ct : Nat → Addr × List Str) (c : Nat) : Prop where
  ox : OexC K (ct c).1
  xf : XfC K (ct c).1
  kt : KitE K (ct c).1
  no : ∀ f ∈ (ct c).2, PySem.W.findIn K (.ref (ct c).1) f = some none
  nd : (ct c).2.Nodup
/-- its __init__: the attributes are what is handed, in order -/
def spI (C : Addr) (ns : List Str) : Sp := fun vs H Q _ => ∃ (a : Addr) (ws : List V), vs = .ref a :: ws ∧ ws.length = ns.length ∧ H a = some (exo a C none) ∧ ∀ dx, H dx = none → dx ≠ a → Q .non (upd (upd H dx (exd dx (ns.zip ws).reverse)) a (exo a C (some dx)))
section
variable {P : Program} {w : World} {K : PySem.W.Frag} {mg : Str → Option Value} {base : Heap}
theorem ini1 {x qual y f : Str} {st : Stmt} {fI C : Addr} {fd : FuncData} {p1 p2 p3 p4 : Pos} (F : Fun K x qual st fI fd) (S : FnScope ["self", y] ["self", y] (defScope st)) (T : OexC K C) (hno : PySem.W.findIn K (.ref C) f = some none)
    (hb : defBody st = [.Assign [.Attribute (.Name "self" p1) f p2] (.Name y p3) p4]) (hd : (y == ("__debug__" : Str)) = false := by decide) (hcd : (y == ("__classdict__" : Str)) = false := by decide) (h1 : (defScope st).names.lookup ("self" : Str) = some NameKind.local := by rfl) (h2 : (defScope st).names.lookup y = some NameKind.local := by rfl) :
    FnOk P w K mg base CX0 1 fI fd ["self", y] (spI C [f]) := by
  refine F.ok S (fun vs H Q E h => ?_) (fun cdv A outer s H vs Q E hr h => ?_)
  · obtain ⟨a, ws, rfl, hl, _⟩ := h
    simp only [List.length_cons, List.length_nil] at hl ⊢
    omega
  · rw [hb]
    obtain ⟨a, ws, rfl, hl, ea, q⟩ := h
    match ws, hl with
    | [v], _ =>
      refine ⟨_, pss_one (ps_ost (pv 0 rfl (.inl h1)) (pv 1 rfl (.inl h2) hd hcd)), ?_⟩
      exact ⟨v, rfl, .ref a, rfl, a, C, rfl, T, hno, .inl ⟨ea, fun dx n ne => q dx n ne⟩⟩
theorem upd3 {H : Hp} {a dx : Addr} {o1 o2 o3 : HO} (ne : dx ≠ a) : upd (upd (upd H dx o1) a o2) dx o3 = upd (upd H dx o3) a o2 := by
  funext b
  by_cases h : b = dx
  · subst h; rw [upd_same, upd_ne ne, upd_same]
  · rw [upd_ne h]
    by_cases h2 : b = a
    · subst h2; rw [upd_same, upd_same]
    · rw [upd_ne h2, upd_ne h2, upd_ne h, upd_ne h]
theorem ini2 {x qual y f z g : Str} {st : Stmt} {fI C : Addr} {fd : FuncData} {p1 p2 p3 p4 q1 q2 q3 q4 : Pos} (F : Fun K x qual st fI fd) (S : FnScope ["self", y, z] ["self", y, z] (defScope st)) (T : OexC K C) (hno : PySem.W.findIn K (.ref C) f = some none) (hno2 : PySem.W.findIn K (.ref C) g = some none)
    (hb : defBody st = [.Assign [.Attribute (.Name "self" p1) f p2] (.Name y p3) p4, .Assign [.Attribute (.Name "self" q1) g q2] (.Name z q3) q4]) (hd : (y == ("__debug__" : Str)) = false := by decide) (hcd : (y == ("__classdict__" : Str)) = false := by decide) (hd2 : (z == ("__debug__" : Str)) = false := by decide) (hcd2 : (z == ("__classdict__" : Str)) = false := by decide)
    (h1 : (defScope st).names.lookup ("self" : Str) = some NameKind.local := by rfl) (h2 : (defScope st).names.lookup y = some NameKind.local := by rfl) (h3 : (defScope st).names.lookup z = some NameKind.local := by rfl) :
    FnOk P w K mg base CX0 1 fI fd ["self", y, z] (spI C [f, g]) := by
  refine F.ok S (fun vs H Q E h => ?_) (fun cdv A outer s H vs Q E hr h => ?_)
  · obtain ⟨a, ws, rfl, hl, _⟩ := h
    simp only [List.length_cons, List.length_nil] at hl ⊢
    omega
  · rw [hb]
    obtain ⟨a, ws, rfl, hl, ea, q⟩ := h
    match ws, hl with
    | [v, u], _ =>
      refine ⟨_, pss_cons (ps_ost (pv 0 rfl (.inl h1)) (pv 1 rfl (.inl h2) hd hcd)) (pss_one (ps_ost (pv 0 rfl (.inl h1)) (pv 2 rfl (.inl h3) hd2 hcd2))), ?_⟩
      refine ⟨v, rfl, .ref a, rfl, a, C, rfl, T, hno, .inl ⟨ea, fun dx n ne => ?_⟩⟩
      refine ⟨u, rfl, .ref a, rfl, a, C, rfl, T, hno2, .inr ⟨dx, _, upd_same, by rw [upd_ne ne, upd_same], by simp, ?_⟩⟩
      show Q .non _
      rw [upd3 ne]
      exact q dx n ne
end
/-- what stands for a class that is called, its own __init__ known -/
structure CalE (P : Program) (w : World) (K : PySem.W.Frag) (mg : Str → Option Value) (base : Heap) (ct : Nat → Addr × List Str) (c : Nat) (x : Str) (k n : Nat) : Prop where
  ex : ∃ (fI : Addr) (fd : FuncData) (ps : List Str), FnOk P w K mg base CX0 k fI fd ps (spI (ct c).1 (ct c).2.reverse) ∧ PySem.W.findIn K (.ref (ct c).1) "__init__" = some (some (.ref fI)) ∧ PySem.W.typeIn K (.ref fI) = some (.type "function") ∧ mg x = some (.ref (ct c).1) ∧ Binds K fd ps []
  len : (ct c).2.length = n
end SB
set_option Elab.async false
set_option linter.all false
set_option maxRecDepth 100000
namespace SB
open PySem L2 PySem.Spec PyProof.Rows
theorem zip_rev {α β : Type} : ∀ {a : List α} {b : List β}, a.length = b.length → (a.zip b).reverse = a.reverse.zip b.reverse
  | [], [], _ => rfl
  | [], _ :: _, h => by simp at h
  | _ :: _, [], h => by simp at h
  | x :: a, y :: b, h => by
    have h' : a.length = b.length := by simpa using h
    rw [List.zip_cons_cons, List.reverse_cons, List.reverse_cons, List.reverse_cons, zip_rev h', List.zip_append (by simp [h'])]
    rfl
section
variable {X : Cx} {ct : Nat → Addr × List Str} {w : WX} {pos p pos2 : Pos} {x nm : Str} {e o : Expr} {es : List Expr} {f : DE} {fs : DEs} {k j n c : Nat}
/-- raise C(..) -/
theorem dx_raise (E : ExD X.K ct c) (C : CalE X.prog X.w X.K X.mg X.base ct c x k n) (tk : Takes X w) (hl : (e :: es).length = n) (hr : Room j X.A) (hj : k + 1 ≤ j) (ha : PA X (e :: es) (tA (zx X ct) fs)) (hfs : ∀ ρ μ xs μ', fs ρ μ = .ok xs μ' → xs.length = (e :: es).length)
    (h9 : n ≤ 1000 := by decide) (hc : X.calm = true := by rfl) (hg : Gl X x := by rfl) (hdb : (x == ("__debug__" : Str)) = false := by decide) (he : starEach (e :: es) X.env = (false, eval e X.env) :: starEach es X.env := by rfl) (hpl : (backTo pos (starEach es X.env)).any (·.1) = false := by rfl) :
    PS X (.Raise (some (.Call (.Name x p) (e :: es) [] pos)) none pos2) (tX (zx X ct) w (xRaise c fs)) := by
  obtain ⟨fI, fd, ps, G, iC, tI, hm, hb⟩ := C.ex
  refine ps_imp (ps_raise hc tk (pmk_oex (ds := []) (dvs := []) E.ox iC tI G (hr.mono hj) hb .nil pass0 hg hm ha hdb he hpl)) fun D σ H q => ?_
  obtain ⟨F, m, ρ, μ, W, r, kk⟩ := q
  refine tA_outX W r kk fun xs μ1 vs F1 m1 H1 e1 k1 x1 W1 r1 rs => ?_
  have hlen : vs.length = n := by rw [rs.length, hfs _ _ _ _ e1, hl]
  have hns : (ct c).2.length = vs.length := by rw [C.len, hlen]
  refine ⟨by omega, fun a na => ?_⟩
  refine ⟨a, vs, by rw [List.append_nil], by rw [List.length_reverse, hns], upd_same, fun dx nx ne => ?_⟩
  have ndx : H1 dx = none := by rw [upd_ne ne] at nx; exact nx
  refine ⟨rfl, dx, _, upd_same, by rw [upd_ne ne, upd_same], ndx, ?_⟩
  have eH : upd (del (upd (upd (upd H1 a (exo a (ct c).1 none)) dx (exd dx ((ct c).2.reverse.zip vs).reverse)) a (exo a (ct c).1 (some dx))) a) dx (.xd ((ct c).2.reverse.zip vs).reverse) = upd H1 dx (.xd ((ct c).2.zip vs.reverse)) := by
    rw [zip_rev (by rw [List.length_reverse, hns]), List.reverse_reverse]
    funext b
    by_cases hb : b = dx
    · subst hb; rw [upd_same, upd_same]
    · rw [upd_ne hb, upd_ne hb]
      by_cases h2 : b = a
      · subst h2; rw [del_same, na]
      · rw [del_ne h2, upd_ne h2, upd_ne hb, upd_ne h2]
  rw [eH]
  obtain ⟨W2, x2⟩ := W1.frozen (.xd ((ct c).2.zip vs.reverse)) ndx
  refine k1 σ dx _ _ _ x2 W2 (r1.gr x2.gr) ⟨vs.reverse, upd_same, (Rls.gr x2.gr _ _ rs).reverse, ?_⟩
  rw [List.length_reverse]
  exact Nat.le_of_eq hns.symm
theorem ds_tryK {i j : Nat} {n y x : Str} {cv : Value} {cs : List Nat} {body : List Stmt} {g : DX} {np pos' p1 p2 p3 : Pos} (hs : X.stack = X.env :: X.outer) (hex : X.ex = []) (hf : X.env.frame = some X.env.locals) (hN : X.N.Nodup) (hi : X.N[i]? = some n) (hj : X.N[j]? = some y) (hln : X.env.kindOf n = some .local) (hly : Loc X.env.scope y) (hvn : Vis X.env.scope n) (hc : Names X x cv) (hcs : ∀ c ∈ cs, PySem.W.exmOne X.K (.ref (ct c).1) cv = some true)
    (hb : ∀ (W : WX) (pn : List (Addr × Obj)) (xe : Value → Shared → Prop), Takes (X.tr pn xe) W → PassesOwn (model X.prog X.w) X.A X.env xe → PSs (X.tr pn xe) body (tX (zx X ct) W g))
    (hd : (n == ("__debug__" : Str)) = false := by decide) (hcd : (n == ("__classdict__" : Str)) = false := by decide) (hfy : X.fn y = true ∨ X.env.scope.names.lookup y = some .local := by first | exact .inl rfl | exact .inr rfl | assumption) :
    PS X (.Try body [.ExceptHandler (some (.Name x np)) (some n) [.Assign [.Name y p1] (.Name n p2) p3] pos'] [] [] pos) (tS (zx X ct) (sTryK cs i j g)) := by
  refine ps_imp (ps_try_keep (Wout := fun _ _ _ _ => False) hs hex hf hN hi hln hc takes0 hb (fun a oe cls d pn _ _ => pss_one (ps_set (X := X.suite a ((a, oe) :: pn)) (i := j) hN hj hly (pe_var (i := i) hi hvn hd hcd) (by rfl) hfy))) fun D σ H q => ?_
  obtain ⟨F, m, ρ, μ, W, r, kk⟩ := q
  refine ⟨F, m, ρ, μ, W, r, ?_⟩
  unfold sTryK at kk
  cases eg : g ρ μ with
  | o z => rw [eg] at kk; exact kk
  | ex ρ' c fs μ' =>
    rw [eg] at kk
    simp only at kk
    split at kk
    · rename_i hh
      obtain ⟨hc1, hi1, hj2, hij⟩ := hh
      intro σ' dx F2 m2 H2 x2 W2 r2 z2
      refine ⟨true, hcs c hc1, fun _ a na => ?_, fun z => Bool.noConfusion z⟩
      have hi2 : i < σ'.length := by rw [← r2.1]; exact hi1
      · refine ⟨.ref a, List.getElem?_set_self hi2, na, ?_⟩
        obtain ⟨vs, hdx, rs, hl⟩ := z2
        have nFa : F2 a = none := by
          cases q : F2 a with
          | none => rfl
          | some u => rw [W2.le _ _ q] at na; cases na
        obtain ⟨W3, x3⟩ := W2.frozen (ExK (.ref (ct c).1) (some dx) a) na
        have hdx' : dx ≠ a := fun z => by rw [z, nFa] at hdx; cases hdx
        have hrl : Rl (zx X ct) (upd F2 a (ExK (.ref (ct c).1) (some dx) a)) m2 (.exc c fs) (.ref a) := by
          simp only [Rl]
          exact ⟨a, some dx, vs, rfl, upd_same, by show upd F2 a _ dx = _; rw [upd_ne hdx']; exact hdx, Rls.gr x3.gr _ _ rs, hl⟩
        refine kk _ _ _ _ (x2.trans x3 W2.there) W3 ⟨by simp [r2.1], fun l d e => ?_⟩
        by_cases hlj : l = j
        · subst hlj
          rw [List.getElem?_set_self (by simpa using hj2)] at e
          cases e
          refine ⟨.ref a, ?_, hrl⟩
          rw [List.getElem?_set_ne (fun z => hij z), List.getElem?_set_self (by rw [List.length_set, ← r2.1]; exact hj2)]
        · rw [List.getElem?_set_ne (Ne.symm hlj)] at e
          by_cases hli : l = i
          · subst hli
            rw [List.getElem?_set_self (by rw [r2.1]; exact hi2)] at e
            cases e
          · rw [List.getElem?_set_ne (Ne.symm hli)] at e
            obtain ⟨v, h1, h2⟩ := r2.2 l d e
            exact ⟨v, by rw [List.getElem?_set_ne (Ne.symm hli), List.getElem?_set_ne (Ne.symm hlj), List.getElem?_set_ne (Ne.symm hli)]; exact h1, Rl.gr x3.gr _ _ h2⟩
    · exact kk.elim
end
section
variable {X : Cx} {ct : Nat → Addr × List Str} {pos p p2 pos2 : Pos} {x nm : Str} {e o : Expr} {es : List Expr} {f : DE} {fs : DEs} {k j n c : Nat}
theorem xdk_in {pins : List (Addr × Obj)} {σ : L2.St} {H : Hp} {s : Shared} {a C : Addr} {d : Option Addr} {ns : List Str} {vs : List V} (I : Inv X pins σ H s) (ha : H a = some (ExK (.ref C) d a)) (hd : XdK H d ns vs) :
    ∃ oe od, PySem.W.InstAt s.heap a oe C od ∧ ∀ nm v, (ns.zip vs).lookup nm = some v → ∃ ob u, od = some ob ∧ PySem.W.lookIn nm ob = some (some u) ∧ RelV v u := by
  have hx : ObjOk X.prog X.w H s.heap a (ExK (.ref C) d a) := I.hok a _ ha
  obtain ⟨⟨oe, us, ho, hz, hdd⟩, _, _⟩ := hx
  cases d with
  | none =>
    have hv : vs = [] := hd
    subst hv
    exact ⟨oe, none, ⟨ho, hz.1, by unfold PySem.W.notCls; rw [hdd] <;> rfl, by rw [hz.2]; trivial⟩, fun nm v e => by simp at e⟩
  | some dx =>
    have hd' : H dx = some (.xd (ns.zip vs)) := hd
    have hx : ObjOk X.prog X.w H s.heap dx (.xd (ns.zip vs)) := I.hok dx _ hd'
    obtain ⟨mA, hns, hr⟩ := hx
    obtain ⟨od, hod, hl⟩ := lookIn_ns hns
    refine ⟨oe, some od, ⟨ho, hz.1, by unfold PySem.W.notCls; rw [hdd] <;> rfl, by rw [hz.2]; exact hod⟩, fun nm v e => ?_⟩
    obtain ⟨u, hu, ru⟩ := RelO.some_of (v := v) (o := mA nm) (by rw [← e]; exact hr nm)
    exact ⟨od, u, rfl, by rw [hl, hu], ru⟩
theorem vw_exc {F H : Hp} {m : List Addr} {μ : Mu} {Z : Zx} {d : D} {v : V} {c : Nat} {fs : List D} (W : Wd Z F m μ H) (r : Rl Z F m d v) (e : vw μ d = .exc c fs) :
    ∃ a dx vs, v = .ref a ∧ H a = some (ExK (.ref (Z.ct c).1) dx a) ∧ XdK H dx (Z.ct c).2 vs ∧ Rls Z F m fs vs ∧ vs.length ≤ (Z.ct c).2.length := by
  have h := vw_self W r (by rw [e]; rfl)
  rw [h] at e
  subst e
  simp only [Rl] at r
  obtain ⟨a, dx, vs, e1, f, x, q, l⟩ := r
  exact ⟨a, dx, vs, e1, W.le _ _ f, x.gr (m := m) (m' := m) ⟨W.le, fun _ _ e => e⟩, q, l⟩
/-- e.f, the k-th attribute of the class c -/
def dXf (c k : Nat) (f : DE) : DE := fun ρ μ => (f ρ μ).bind fun x μ1 => match vw μ1 x with
  | .exc c' fs => if c' = c then Res.of fs[k]? μ1 else .bad
  | _ => .bad
theorem de_xf (E : ExD X.K ct c) (hk : (ct c).2[k]? = some nm) (he : PE X o (tE (zx X ct) f)) (hb : attributeBase o nm X.env (eval o X.env) = eval o X.env := by rfl) : PE X (.Attribute o nm pos) (tE (zx X ct) (dXf c k f)) := by
  refine ⟨fun pins s σ H Q I q => ?_⟩
  obtain ⟨F, m, ρ, μ, d, μ', W, r, e1, kk⟩ := q
  obtain ⟨x, μ1, e2, e3⟩ := bind_inv e1
  refine attr_of hb (thn (he.run pins s σ H (fun v H1 => ∃ F1 m1, Xt F m H F1 m1 H1 ∧ Wd (zx X ct) F1 m1 μ1 H1 ∧ Rl (zx X ct) F1 m1 x v) I ⟨F, m, ρ, μ, x, μ1, W, r, e2, fun v F1 m1 H1 x1 W1 rx => ⟨F1, m1, x1, W1, rx⟩⟩) fun u s1 ⟨v, H1, I1, rv, F1, m1, x1, W1, rx⟩ => ?_)
  have k1 := kk.weak x1 W1
  split at e3
  · rename_i c' fs hv
    split at e3
    · rename_i hcc
      subst hcc
      obtain ⟨e4, rfl⟩ := of_inv e3
      obtain ⟨a, dx, vs, rfl, ha, hd, rs, hl⟩ := vw_exc W1 rx hv
      obtain rfl : u = Value.ref a := rv
      obtain ⟨oe, od, J, hlk⟩ := xdk_in I1 ha hd
      obtain ⟨y, hy, ry⟩ := rs.get e4
      obtain ⟨ob, u, rfl, hl2, ru⟩ := hlk nm y (zip_lookup E.nd hk hy)
      exact HandSPX.exc_get I1.kIn J E.xf.ga E.xf.gg E.xf.exC (PySem.W.findObj_own E.xf.hdC (E.no _ (List.mem_of_getElem? hk)) rfl hl2) (handed_of ru) ⟨y, H1, I1.tok _, ru, k1 y F1 m1 H1 (Xt.refl _ _ _) W1 ry⟩
    · cases e3
  · cases e3
/-- isinstance(e, ..): cs: the classes that answer True, among those known -/
def isxR (all cs : List Nat) (x : SB.D) (μ : Mu) : Res SB.D := match vw μ x with
  | .exc c _ => if c ∈ all then .ok (.bl (decide (c ∈ cs))) μ else .bad
  | _ => .bad
def dIsx (all cs : List Nat) (f : DE) : DE := fun ρ μ => (f ρ μ).bind (isxR all cs)
def rIsK (K : PySem.W.Frag) : List V → Hp → VK → Prop := fun xs H Q => ∃ (a C : Addr) (d : Option Addr) (ns : List Str) (vs : List V) (c : V) (cv : Value) (b : Bool), xs = [.ref a, c] ∧ H a = some (ExK (.ref C) d a) ∧ XdK H d ns vs ∧ KitE K C ∧ ClsV c cv ∧ PySem.W.kitOne K (.ref C) cv = some b ∧ Q (.bl b) H
def rIsKT (K : PySem.W.Frag) : List V → Hp → VK → Prop := fun xs H Q => ∃ (a C tp : Addr) (d : Option Addr) (ns : List Str) (vs cs : List V) (us : List Value) (b : Bool), xs = [.ref a, .ref tp] ∧ H a = some (ExK (.ref C) d a) ∧ XdK H d ns vs ∧ KitE K C ∧ H tp = some (.tup cs) ∧ Paired ClsV cs us ∧ PySem.W.kitAny K (.ref C) us = some b ∧ Q (.bl b) H
theorem kit_e {a C : Addr} {oe : Obj} {od : Option Obj} (E : KitE X.K C) : PySem.W.KitX X.K (.ref a) (.ref C) (fun h => PySem.W.InstAt h a oe C od) := PySem.W.kitx_exc E.cl E.ga E.gt E.sb E.ca E.sp E.tk E.mo
theorem call_isK : CallR X (.builtin "isinstance") (rIsK X.K) := by
  intro pins s σ H xs us Q I r h
  obtain ⟨a, C, d, ns, vs, c, cv, b, rfl, ha, hd, E, hc, e, q⟩ := h
  obtain ⟨u1, u2, rfl, r1, r2⟩ := vals2 r
  have e2 := hc.eq r2
  subst e2
  cases (show u1 = Value.ref a from r1)
  obtain ⟨oe, od, J, _⟩ := xdk_in I ha hd
  exact PySem.W.kia_one (kit_e E) I.kIn J e (fun z => nomatch z) fun tk => ⟨.bl b, H, I.tok tk, rfl, q⟩
theorem call_isKT : CallR X (.builtin "isinstance") (rIsKT X.K) := by
  intro pins s σ H xs us Q I r h
  obtain ⟨a, C, tp, d, ns, vs, cs, ws, b, rfl, ha, hd, E, ht, hc, e, q⟩ := h
  obtain ⟨u1, u2, rfl, r1, r2⟩ := vals2 r
  cases (show u1 = Value.ref a from r1)
  cases (show u2 = Value.ref tp from r2)
  obtain ⟨oe, od, J, _⟩ := xdk_in I ha hd
  obtain ⟨_, its, rv, o, h1, h2, n, h3⟩ := (show ObjOk X.prog X.w H s.heap tp (.tup cs) from I.hok tp _ ht)
  have e3 := ClsV.all hc rv
  subst e3
  obtain ⟨oc, ox, dt, sl⟩ := o
  simp only at h2 h3
  subst h2 h3
  exact PySem.W.kia_tup (kit_e E) I.kIn J h1 e (fun z => nomatch z) fun tk => ⟨.bl b, H, I.tok tk, rfl, q⟩
/-- what is known of a class that isinstance is asked of: which of the classes answer True -/
structure IsA (K : PySem.W.Frag) (ct : Nat → Addr × List Str) (all cs : List Nat) (cv : Value) : Prop where
  kt : ∀ c ∈ all, KitE K (ct c).1
  is : ∀ c ∈ all, PySem.W.kitOne K (.ref (ct c).1) cv = some (decide (c ∈ cs))
theorem isx_step {Z : Zx} {F H : Hp} {m : List Addr} {μ : Mu} {x y : D} {μ' : Mu} {v : V} {all cs : List Nat} (W : Wd Z F m μ H) (rx : Rl Z F m x v) (e : isxR all cs x μ = .ok y μ') : ∃ c a d vs, c ∈ all ∧ y = .bl (decide (c ∈ cs)) ∧ μ' = μ ∧ v = .ref a ∧ H a = some (ExK (.ref (Z.ct c).1) d a) ∧ XdK H d (Z.ct c).2 vs := by
  unfold isxR at e
  split at e
  · rename_i c fs hv
    split at e
    · rename_i hc
      cases e
      obtain ⟨a, d, vs, rfl, ha, hd, _, _⟩ := vw_exc W rx hv
      exact ⟨c, a, d, vs, hc, rfl, rfl, rfl, ha, hd⟩
    · cases e
  · cases e
/-- isinstance(e, T), T a built-in class -/
theorem de_isxb {T : String} {y : Str} {all cs : List Nat} (A : IsA X.K ct all cs (.type T)) (hm : X.mg "isinstance" = none) (hmT : X.mg y = none) (hv : bootBuiltins y = some (.type T)) (he : PE X e (tE (zx X ct) f)) (hg : Gl X "isinstance" := by rfl) (hgT : Gl X y := by rfl) (hn : y ≠ "__name__" := by decide) (hd : (y == ("__debug__" : Str)) = false := by decide)
    (hs : starEach [e, .Name y p2] X.env = (false, eval e X.env) :: starEach [.Name y p2] X.env := by rfl) (hs2 : starEach [.Name y p2] X.env = (false, eval (.Name y p2) X.env) :: starEach [] X.env := by rfl) (hpl : (backTo pos (starEach [.Name y p2] X.env)).any (·.1) = false := by rfl) :
    PE X (.Call (.Name "isinstance" p) [e, .Name y p2] [] pos) (tE (zx X ct) (dIsx all cs f)) := by
  refine pe_imp (pe_callB call_isK hg hm PyProof.Rows.boot_isinstance (pa_cons he (pa_cons (pe_bltn (v := .ty T) hgT hmT hv rfl hn hd) pa_nil hs2) hs) (by decide) (by decide) hs hpl) fun σ H Q q => ?_
  obtain ⟨F, m, ρ, μ, d, μ', W, r, e1, k⟩ := q
  refine tE_bind W r e1 fun x μ1 v F1 m1 H1 e2 x1 W1 r1 rx => ?_
  obtain ⟨c, a, dd, vs, hc, rfl, rfl, rfl, ha, hd2⟩ := isx_step W1 rx e2
  exact ⟨a, _, dd, _, vs, .ty T, .type T, _, rfl, ha, hd2, A.kt c hc, .ty T, A.is c hc, (k.weak x1 W1).here W1 (by simp only [Rl])⟩
/-- isinstance(e, C), C an own class -/
theorem de_isxo {C : Addr} {y : Str} {all cs : List Nat} (A : IsA X.K ct all cs (.ref C)) (hm : X.mg "isinstance" = none) (hmT : X.mg y = some (.ref C)) (he : PE X e (tE (zx X ct) f)) (hg : Gl X "isinstance" := by rfl) (hgT : Gl X y := by rfl) (hd : (y == ("__debug__" : Str)) = false := by decide)
    (hs : starEach [e, .Name y p2] X.env = (false, eval e X.env) :: starEach [.Name y p2] X.env := by rfl) (hs2 : starEach [.Name y p2] X.env = (false, eval (.Name y p2) X.env) :: starEach [] X.env := by rfl) (hpl : (backTo pos (starEach [.Name y p2] X.env)).any (·.1) = false := by rfl) :
    PE X (.Call (.Name "isinstance" p) [e, .Name y p2] [] pos) (tE (zx X ct) (dIsx all cs f)) := by
  refine pe_imp (pe_callB call_isK hg hm PyProof.Rows.boot_isinstance (pa_cons he (pa_cons (pe_glob (v := .ref C) hgT hmT rfl hd) pa_nil hs2) hs) (by decide) (by decide) hs hpl) fun σ H Q q => ?_
  obtain ⟨F, m, ρ, μ, d, μ', W, r, e1, k⟩ := q
  refine tE_bind W r e1 fun x μ1 v F1 m1 H1 e2 x1 W1 r1 rx => ?_
  obtain ⟨c, a, dd, vs, hc, rfl, rfl, rfl, ha, hd2⟩ := isx_step W1 rx e2
  exact ⟨a, _, dd, _, vs, .ref C, .ref C, _, rfl, ha, hd2, A.kt c hc, .own C, A.is c hc, (k.weak x1 W1).here W1 (by simp only [Rl])⟩
theorem kitAny2 {K : PySem.W.Frag} {t a b : Value} {p q : Bool} (h1 : PySem.W.kitOne K t a = some p) (h2 : PySem.W.kitOne K t b = some q) : PySem.W.kitAny K t [a, b] = some (p || q) := by
  unfold PySem.W.kitAny
  rw [h1]
  cases p with
  | true => rfl
  | false =>
    simp only
    unfold PySem.W.kitAny
    rw [h2]
    cases q <;> rfl
/-- isinstance(e, (C, D)), own classes -/
theorem de_isxT {C D : Addr} {y z : Str} {p3 p4 : Pos} {kk} {all cs cs' : List Nat} (A : IsA X.K ct all cs (.ref C)) (B : IsA X.K ct all cs' (.ref D)) (hm : X.mg "isinstance" = none) (hmT : X.mg y = some (.ref C)) (hmU : X.mg z = some (.ref D)) (he : PE X e (tE (zx X ct) f)) (hg : Gl X "isinstance" := by rfl) (hgT : Gl X y := by rfl) (hgU : Gl X z := by rfl) (hd : (y == ("__debug__" : Str)) = false := by decide) (hdU : (z == ("__debug__" : Str)) = false := by decide)
    (hs : starEach [e, .Tuple [.Name y p2, .Name z p3] kk p4] X.env = (false, eval e X.env) :: starEach [.Tuple [.Name y p2, .Name z p3] kk p4] X.env := by rfl) (hs2 : starEach [.Tuple [.Name y p2, .Name z p3] kk p4] X.env = (false, eval (.Tuple [.Name y p2, .Name z p3] kk p4) X.env) :: starEach [] X.env := by rfl)
    (hs3 : starEach [.Name y p2, .Name z p3] X.env = (false, eval (.Name y p2) X.env) :: starEach [.Name z p3] X.env := by rfl) (hs4 : starEach [.Name z p3] X.env = (false, eval (.Name z p3) X.env) :: starEach [] X.env := by rfl)
    (hpl : (backTo pos (starEach [.Tuple [.Name y p2, .Name z p3] kk p4] X.env)).any (·.1) = false := by rfl) :
    PE X (.Call (.Name "isinstance" p) [e, .Tuple [.Name y p2, .Name z p3] kk p4] [] pos) (tE (zx X ct) (dIsx all (cs ++ cs') f)) := by
  refine pe_imp (pe_callB call_isKT hg hm PyProof.Rows.boot_isinstance (pa_cons he (pa_cons (pe_tup (pa_cons (pe_glob (v := .ref C) hgT hmT rfl hd) (pa_cons (pe_glob (v := .ref D) hgU hmU rfl hdU) pa_nil hs4) hs3)) pa_nil hs2) hs) (by decide) (by decide) hs hpl) fun σ H Q q => ?_
  obtain ⟨F, m, ρ, μ, d, μ', W, r, e1, k⟩ := q
  refine tE_bind W r e1 fun x μ1 v F1 m1 H1 e2 x1 W1 r1 rx => ?_
  obtain ⟨c, a, dd, vs, hc, rfl, rfl, rfl, ha, hd2⟩ := isx_step W1 rx e2
  refine ⟨sz (by show 2 ≤ _; decide), fun tp ntp => ?_⟩
  obtain ⟨W2, x2⟩ := W1.frozen (.tup [.ref C, .ref D]) ntp
  have nta : a ≠ tp := fun z => by rw [z, ntp] at ha; cases ha
  refine ⟨a, _, tp, dd, (ct c).2, vs, [.ref C, .ref D], [.ref C, .ref D], _, rfl, by rw [upd_ne nta]; exact ha, ?_, A.kt c hc, upd_same, .cons (.own C) (.cons (.own D) .nil), kitAny2 (A.is c hc) (B.is c hc), ?_⟩
  · cases dd with
    | none => exact hd2
    | some dx =>
      show upd H1 tp _ dx = _
      have : dx ≠ tp := fun z => by
        have hd3 : H1 dx = _ := hd2
        rw [z, ntp] at hd3; cases hd3
      rw [upd_ne this]; exact hd2
  · exact (k.weak x1 W1) _ _ _ _ x2 W2 (by simp only [Rl]; rw [← Bool.decide_or]; simp only [List.mem_append])
/-- C(..), by its own __init__ -/
def dMkE (c : Nat) (fs : DEs) : DE := fun ρ μ => (fs ρ μ).bind fun xs μ1 => .ok (.exc c xs.reverse) μ1
/-- C('..'), a class without own __init__ -/
def dExc1 (c : Nat) (f : DE) : DE := fun ρ μ => (f ρ μ).bind fun _ μ1 => .ok (.exc c []) μ1
end
end SB
namespace SB
open PySem L2
structure CalX (P : Program) (w : World) (K : PySem.W.Frag) (mg : Str → Option Value) (base : Heap) (Z : Zx) (x : Str) (k n : Nat) (Φ : FnX) : Prop where
  ex : ∃ (fa : Addr) (fd : FuncData) (ps : List Str), FnOk P w K mg base (CX P w) k fa fd ps (spX Z n Φ) ∧ ps.length = n ∧ mg x = some (.ref fa) ∧ PySem.W.keepIn K (.ref fa) = true ∧ Binds K fd ps []
structure CalMX (P : Program) (w : World) (K : PySem.W.Frag) (mg : Str → Option Value) (base : Heap) (Z : Zx) (c : Nat) (x : Str) (k n : Nat) (Φ : FnX) : Prop where
  ex : ∃ (fa : Addr) (fd : FuncData) (ps : List Str), FnOk P w K mg base (CX P w) k fa fd ps (spX Z n Φ) ∧ Meth K (Z.ct c).1 x fa ∧ Binds K fd ps []
  no : x ∉ (Z.ct c).2
structure CalKX (P : Program) (w : World) (K : PySem.W.Frag) (mg : Str → Option Value) (base : Heap) (Z : Zx) (c : Nat) (x : Str) (k n : Nat) (Φ : FnX) : Prop where
  ex : ∃ (fa : Addr) (fd : FuncData) (ps : List Str), FnOk P w K mg base (CX P w) k fa fd ps (spX Z n Φ) ∧ Mk K (Z.ct c).1 fa ∧ mg x = some (.ref (Z.ct c).1) ∧ Binds K fd ps []
section
variable {X : Cx} {ct : Nat → Addr × List Str} {w : WX} {pos p pos2 : Pos} {x nm : Str} {e o : Expr} {es : List Expr} {f : DE} {fs : DEs} {Φ : FnX} {k j n c : Nat}
theorem dx_calM {pl : Sem Bool} {apos : Pos} (D : ClsD X.K ct c) (C : CalMX X.prog X.w X.K X.mg X.base (zx X ct) c nm k n Φ) (tk : Takes X w) (hr : Room j X.A) (hj : k ≤ j) (hl : (e :: es).length + 1 = n) (ho : PE X o (tE (zx X ct) f)) (ha : PA X (e :: es) (tA (zx X ct) fs)) (hfs : ∀ ρ μ xs μ', fs ρ μ = .ok xs μ' → xs.length = (e :: es).length)
    (hst : starEach (e :: es) X.env = (false, eval e X.env) :: starEach es X.env := by rfl) (hpl : (backTo pos (starEach es X.env)).any (·.1) = false := by rfl)
    (ht : eval (.Call (.Attribute o nm apos) (e :: es) [] pos) X.env = (do
      let ov ← eval o X.env
      standAt apos.atName
      let (f, first) ← holding [ov] (getMethod ov nm pl)
      callWith pos f first (backTo pos (starEach (e :: es) X.env)) (backToKw pos (keywordEach [] X.env))) := by rfl)
    (hs : swapsWith (.Call (.Attribute o nm apos) (e :: es) [] pos) none pos2.line X.env = pure false := by rfl) : PS X (.Expr (.Call (.Attribute o nm apos) (e :: es) [] pos) pos2) (tX (zx X ct) w (xMeth c f fs Φ)) := by
  obtain ⟨fa, fd, ps, G, h1, h2⟩ := C.ex
  exact dx_meth D h1 C.no G tk hl (hr.mono hj) h2 ho ha hfs hst hpl ht hs
end
end SB
namespace SB
open PySem L2
theorem cls_of {K : PySem.W.Frag} {C : Addr} (h : PySem.W.hasDictIn K C = true) : (PySem.W.clsIn K C).isSome = true := by
  obtain ⟨cd, hc, _⟩ := PySem.W.any_some h
  rw [hc]; rfl
theorem kit_ref {K : PySem.W.Frag} {a b : Addr} {v : Bool} (hd : PySem.W.hasDictIn K b = true) (ht : PySem.W.typeIn K (.ref b) = some (.type "type")) (h1 : PySem.W.subIn K (.ref b) (.ref b) = some true) (hs : PySem.W.subIn K (.ref a) (.ref b) = some v) : PySem.W.kitOne K (.ref a) (.ref b) = some v := by
  unfold PySem.W.kitOne
  split
  · rename_i h
    have e : Value.ref a = Value.ref b := beq_iff_eq.mp h
    rw [e, h1] at hs
    exact hs
  · show (if ((PySem.W.clsIn K b).isSome && PySem.W.typeIn K (.ref b) == some (.type "type")) = true then PySem.W.subIn K (.ref a) (.ref b) else none) = _
    rw [if_pos (by rw [cls_of hd, ht]; rfl)]
    exact hs
theorem kit_ve {K : PySem.W.Frag} {a : Addr} (hs : PySem.W.subIn K (.ref a) (.type "ValueError") = some true) : PySem.W.kitOne K (.ref a) (.type "ValueError") = some true := by
  unfold PySem.W.kitOne
  rw [if_neg (by intro h; cases (beq_iff_eq.mp h))]
  show (if PySem.W.kitMeta "ValueError" = true then PySem.W.subIn K (.ref a) (.type "ValueError") else none) = _
  rw [if_pos (by decide +kernel)]
  exact hs
theorem exm_ref2 {K : PySem.W.Frag} {C : Addr} {cls : Value} {b : Bool} (h1 : PySem.W.subIn K (.ref C) (.type "BaseException") = some true) (hd : PySem.W.hasDictIn K C = true) (ht : PySem.W.typeIn K (.ref C) = some (.type "type")) (h4 : PySem.W.subIn K cls (.ref C) = some b) : PySem.W.exmOne K cls (.ref C) = some b := by
  have e1 : (PySem.W.subIn K (.ref C) (.type "BaseException") == some true) = true := by rw [h1] <;> rfl
  have e2 : ((PySem.W.clsIn K C).isSome && PySem.W.typeIn K (.ref C) == some (.type "type")) = true := by rw [cls_of hd, ht] <;> rfl
  show (if (PySem.W.subIn K (.ref C) (.type "BaseException") == some true) = true then (if ((PySem.W.clsIn K C).isSome && PySem.W.typeIn K (.ref C) == some (.type "type")) = true then PySem.W.subIn K cls (.ref C) else none) else none) = some b
  rw [if_pos e1, if_pos e2]
  exact h4
end SB
set_option Elab.async false
set_option linter.all false
set_option maxRecDepth 100000
namespace SB
open PySem L2
noncomputable def m_must_room_X : DX :=
  (xIf (dNot (dBool (dChain (dCst (.int 0)) (dVar 0) (dVar 1) opLe opLt))) (xRaise 3 (dCons (dVar 0) dNil)) (xLift sSkip))
noncomputable def Φ_must_room_X : FnX := callXP 2 m_must_room_X
noncomputable def m_must_word_X : DX :=
  (xIf (dNot (dBool (dCall (dCons (dVar 0) dNil) Φ_is_word))) (xRaise 4 (dCons (dVar 0) dNil)) (xLift sSkip))
noncomputable def Φ_must_word_X : FnX := callXP 1 m_must_word_X
end SB
set_option Elab.async false
set_option linter.all false
set_option maxRecDepth 10000
namespace SB
open PySem L2
/-- g goes as f where f goes -/
def EX (f : DS) (g : DX) : Prop := ∀ ρ μ, f ρ μ ≠ .bad → g ρ μ = .o (f ρ μ)
def CE (Φ : Fn) (Ψ : FnX) : Prop := ∀ ds μ d μ', Φ ds μ = .ok d μ' → Ψ ds μ = .ok d μ'
theorem ex_lift {f : DS} : EX f (xLift f) := fun _ _ _ => rfl
theorem ex_bad {g : DX} : EX sBad g := fun _ _ h => absurd rfl h
theorem ex_seq {f f' : DS} {g g' : DX} (h : EX f g) (h' : EX f' g') : EX (sSeq f f') (xSeq g g') := fun ρ μ k => by
  have e : f ρ μ ≠ .bad := fun z => k (by unfold sSeq; rw [z])
  unfold xSeq sSeq at *
  rw [h ρ μ e]
  cases q : f ρ μ with
  | nx ρ' μ' =>
    rw [q] at k
    exact h' ρ' μ' k
  | rt _ _ => rfl
  | bk _ _ => rfl
  | ct _ _ => rfl
  | bad => rfl
theorem ex_if {c : DT} {f f' : DS} {g g' : DX} (h : EX f g) (h' : EX f' g') : EX (sIf c f f') (xIf c g g') := fun ρ μ k => by
  unfold xIf sIf at *
  cases q : c ρ μ with
  | bad => rw [q] at k; exact absurd rfl k
  | ok b μ' =>
    rw [q] at k
    cases b with
    | true => exact h ρ μ' k
    | false => exact h' ρ μ' k
theorem ce_G {n : Nat} {f : DS} {g : DX} (h : EX f g) : CE (callG n f) (callX n g) := fun ds μ d μ' e => by
  unfold callG at e
  unfold callX
  have nb : f (startD n ds) μ ≠ .bad := fun z => by rw [z] at e; cases e
  rw [h _ _ nb]
  cases q : f (startD n ds) μ with
  | rt d' _ => rw [q] at e; cases e; rfl
  | nx _ _ => rw [q] at e; cases e; rfl
  | bk _ _ => rw [q] at e; cases e
  | ct _ _ => rw [q] at e; cases e
  | bad => exact absurd q nb
end SB
set_option Elab.async false
set_option linter.all false
set_option maxRecDepth 100000
namespace SB
open PySem L2
noncomputable def m_Watcher_see_X : DX :=
  (xSeq (xIf (dBool (dBin (dCall (dCons (dFld 1 1 (dVar 0)) dNil) biLen) (dCst (.int 40)) opGe)) (xRaise 2 (dCons (dBin (dCall (dCons (dFld 1 1 (dVar 0)) dNil) biLen) (dCst (.int 1)) (opAdd false)) (dCons (dCst (.int 40)) dNil))) (xLift sSkip))
  (xSeq (xLift (sSet 2 (dCall (dCons (dFld 1 0 (dVar 0)) (dCons (dFld 1 2 (dVar 0)) (dCons (dVar 1) dNil))) Φ_seen)))
  (xSeq (xIf (dBool (dBin (dVar 2) dDnil opEqE)) (xRaise 5 (dCons (dVar 1) dNil)) (xLift sSkip))
  (xLift (sSeq (sFldD 1 2 (dVar 0) (dVar 2))
  (sExpr (dMet (dFld 1 1 (dVar 0)) isLst (dCons (dVar 1) dNil) meApp)))))))
noncomputable def Φ_Watcher_see_X : FnX := callX 3 m_Watcher_see_X
end SB
set_option Elab.async false
set_option linter.all false
set_option maxRecDepth 10000
namespace SB
open PySem L2
theorem ce_see : CE Φ_Watcher_see Φ_Watcher_see_X := ce_G (ex_seq (ex_if ex_bad ex_lift) (ex_seq ex_lift (ex_seq (ex_if ex_bad ex_lift) ex_lift)))
section
variable {A : D} {M : Mc} {size : Nat} {μ μ' : Mu} {n p : Nat} {past : List Str} {ws : Ws} {ρ ρ' : Ev}
theorem wx_nx {f g : DX} (h : f ρ μ = .o (.nx ρ' μ')) : xSeq f g ρ μ = g ρ' μ' := by unfold xSeq; rw [h]
theorem wx_ex {f g : DX} {c : Nat} {fs : List D} (h : f ρ μ = .ex ρ' c fs μ') : xSeq f g ρ μ = .ex ρ' c fs μ' := by unfold xSeq; rw [h]
theorem wx_if {c : DT} {f g : DX} {b : Bool} (h : c ρ μ = .ok b μ') : xIf c f g ρ μ = if b then f ρ μ' else g ρ μ' := by
  unfold xIf
  rw [h]; rfl
theorem len_past (h : WatchAt μ n p A past ws) : biLen [.ref p] μ = .ok (.int past.length) μ := by
  rw [show biLen [.ref p] μ = .ok (.int (past.map D.str).length) μ by simp only [biLen, vw_cL h.pa, seqL], List.length_map]
theorem see_full (h : WatchAt μ n p A past ws) (hl : past.length = 40) (s : Str) : Φ_Watcher_see_X [.ref n, .str s] μ = .ex 2 [.int 40, .int 41] μ := by
  unfold Φ_Watcher_see_X callX
  show resX (m_Watcher_see_X [some (.ref n), some (.str s), none] μ) = _
  unfold m_Watcher_see_X
  have le := len_past h
  rw [hl] at le
  rw [wx_ex (ρ' := [some (.ref n), some (.str s), none]) (c := 2) (fs := [.int 40, .int 41]) (μ' := μ) (by
    rw [wx_if (b := true) (μ' := μ) (by (simp only [ev_cst, ev_var, ev_bin, ev_call, ev_nil, ev_cons, ev_bool, ev_asB, ev_not, ev_and, ev_or, ev_tup, ev_lst, ev_yes, ev_chain, ev_andV2, ev_orV, orB_bb, orB_t, orB_f, andB_bb, andB_t, andB_f, ite_andB, ite_orB, op_is, op_isn, ev_bor, ev_borT, borT_ok, bor_b, bor_i, bor_s, bor_n, bor1, bor2, bora1, bora2, ev_notV, ev_ifE, ev_frzT, ev_met, ev_fld, ev_un, un_neg, ev_dnil, ev_methC, ev_iseq, ev_isi, List.getElem?_cons_succ, List.getElem?_cons_zero, List.set_cons_succ, List.set_cons_zero, Res.bind_ok, Res.of_some, vw_i, vw_b, vw_s, vw_n, vw_t, vw_l, vw_d, vw_k, vw_c, it_l, it_t, it_s, op_add_i, op_sub_i, op_lt_i, op_le_i, op_gt_i, op_ge_i, op_eq_i, op_ne_i, op_eq_b, op_ne_b, bi_len_l, bi_len_t, bi_len_d, bi_len_c, op_ix_0, op_ix_1, op_ix_2, tp1, tp2, tp3, tp4, tp5, mk0, mk1, mk2, mk3, mk4, mk5, if_true, if_false, Bool.false_eq_true, Bool.not_true, Bool.not_false, Bool.true_and, Bool.false_and, Bool.true_or, Bool.false_or, bt_one, bt_tup, bt_lst, sa_nil, sa_cons, wipeD, List.length_map, vw_cI h.ob, le] <;> try rfl))]
    simp only [if_true, xRaise]
    (simp only [ev_cst, ev_var, ev_bin, ev_call, ev_nil, ev_cons, ev_bool, ev_asB, ev_not, ev_and, ev_or, ev_tup, ev_lst, ev_yes, ev_chain, ev_andV2, ev_orV, orB_bb, orB_t, orB_f, andB_bb, andB_t, andB_f, ite_andB, ite_orB, op_is, op_isn, ev_bor, ev_borT, borT_ok, bor_b, bor_i, bor_s, bor_n, bor1, bor2, bora1, bora2, ev_notV, ev_ifE, ev_frzT, ev_met, ev_fld, ev_un, un_neg, ev_dnil, ev_methC, ev_iseq, ev_isi, List.getElem?_cons_succ, List.getElem?_cons_zero, List.set_cons_succ, List.set_cons_zero, Res.bind_ok, Res.of_some, vw_i, vw_b, vw_s, vw_n, vw_t, vw_l, vw_d, vw_k, vw_c, it_l, it_t, it_s, op_add_i, op_sub_i, op_lt_i, op_le_i, op_gt_i, op_ge_i, op_eq_i, op_ne_i, op_eq_b, op_ne_b, bi_len_l, bi_len_t, bi_len_d, bi_len_c, op_ix_0, op_ix_1, op_ix_2, tp1, tp2, tp3, tp4, tp5, mk0, mk1, mk2, mk3, mk4, mk5, if_true, if_false, Bool.false_eq_true, Bool.not_true, Bool.not_false, Bool.true_and, Bool.false_and, Bool.true_or, Bool.false_or, bt_one, bt_tup, bt_lst, sa_nil, sa_cons, wipeD, List.length_map, vw_cI h.ob, le] <;> try rfl))]
  rfl
theorem see_none (hM : McD A M size) (h : WatchAt μ n p A past ws) (ok : SpOk M size past ws) (hl : past.length < 40) {s : Str} (hs : okS s) (hr : ¬ ∃ sp, M.Reach (past ++ [s]) sp) : Φ_Watcher_see_X [.ref n, .str s] μ = .ex 5 [.str s] (μ ++ [.dic []]) := by
  obtain ⟨ws', ok', e⟩ := f_seen hM ok (by omega) hs
  have he : ws' = [] := by
    cases ws' with
    | nil => rfl
    | cons q t => exact absurd ⟨q.1, (ok'.mem q.1).mp List.mem_cons_self⟩ hr
  subst he
  unfold Φ_Watcher_see_X callX
  show resX (m_Watcher_see_X [some (.ref n), some (.str s), none] μ) = _
  unfold m_Watcher_see_X
  have le := len_past h
  rw [wx_nx (ρ' := [some (.ref n), some (.str s), none]) (μ' := μ) (by
    rw [wx_if (b := false) (μ' := μ) (by
      have : decide ((40 : Int) ≤ past.length) = false := decide_eq_false (by omega)
      (simp only [ev_cst, ev_var, ev_bin, ev_call, ev_nil, ev_cons, ev_bool, ev_asB, ev_not, ev_and, ev_or, ev_tup, ev_lst, ev_yes, ev_chain, ev_andV2, ev_orV, orB_bb, orB_t, orB_f, andB_bb, andB_t, andB_f, ite_andB, ite_orB, op_is, op_isn, ev_bor, ev_borT, borT_ok, bor_b, bor_i, bor_s, bor_n, bor1, bor2, bora1, bora2, ev_notV, ev_ifE, ev_frzT, ev_met, ev_fld, ev_un, un_neg, ev_dnil, ev_methC, ev_iseq, ev_isi, List.getElem?_cons_succ, List.getElem?_cons_zero, List.set_cons_succ, List.set_cons_zero, Res.bind_ok, Res.of_some, vw_i, vw_b, vw_s, vw_n, vw_t, vw_l, vw_d, vw_k, vw_c, it_l, it_t, it_s, op_add_i, op_sub_i, op_lt_i, op_le_i, op_gt_i, op_ge_i, op_eq_i, op_ne_i, op_eq_b, op_ne_b, bi_len_l, bi_len_t, bi_len_d, bi_len_c, op_ix_0, op_ix_1, op_ix_2, tp1, tp2, tp3, tp4, tp5, mk0, mk1, mk2, mk3, mk4, mk5, if_true, if_false, Bool.false_eq_true, Bool.not_true, Bool.not_false, Bool.true_and, Bool.false_and, Bool.true_or, Bool.false_or, bt_one, bt_tup, bt_lst, sa_nil, sa_cons, wipeD, List.length_map, vw_cI h.ob, le, this] <;> try rfl))]
    rfl)]
  rw [wx_nx (ρ' := [some (.ref n), some (.str s), some (.dic (wsE []))]) (μ' := μ) (by
    unfold xLift
    rw [ev_set]
    (simp only [ev_cst, ev_var, ev_bin, ev_call, ev_nil, ev_cons, ev_bool, ev_asB, ev_not, ev_and, ev_or, ev_tup, ev_lst, ev_yes, ev_chain, ev_andV2, ev_orV, orB_bb, orB_t, orB_f, andB_bb, andB_t, andB_f, ite_andB, ite_orB, op_is, op_isn, ev_bor, ev_borT, borT_ok, bor_b, bor_i, bor_s, bor_n, bor1, bor2, bora1, bora2, ev_notV, ev_ifE, ev_frzT, ev_met, ev_fld, ev_un, un_neg, ev_dnil, ev_methC, ev_iseq, ev_isi, List.getElem?_cons_succ, List.getElem?_cons_zero, List.set_cons_succ, List.set_cons_zero, Res.bind_ok, Res.of_some, vw_i, vw_b, vw_s, vw_n, vw_t, vw_l, vw_d, vw_k, vw_c, it_l, it_t, it_s, op_add_i, op_sub_i, op_lt_i, op_le_i, op_gt_i, op_ge_i, op_eq_i, op_ne_i, op_eq_b, op_ne_b, bi_len_l, bi_len_t, bi_len_d, bi_len_c, op_ix_0, op_ix_1, op_ix_2, tp1, tp2, tp3, tp4, tp5, mk0, mk1, mk2, mk3, mk4, mk5, if_true, if_false, Bool.false_eq_true, Bool.not_true, Bool.not_false, Bool.true_and, Bool.false_and, Bool.true_or, Bool.false_or, bt_one, bt_tup, bt_lst, sa_nil, sa_cons, wipeD, List.length_map, vw_cI h.ob, e, out_ok] <;> try rfl))]
  have eq1 : opEqE (.dic (wsE [])) (.ref μ.length) (μ ++ [Cell.dic []]) = .ok (.bl true) (μ ++ [Cell.dic []]) := by
    have : vw (μ ++ [Cell.dic []]) (.ref μ.length) = .dic [] := by simp [vw]
    unfold opEqE
    rw [vw_d, this]
    rfl
  rw [wx_ex (ρ' := [some (.ref n), some (.str s), some (.dic (wsE []))]) (c := 5) (fs := [.str s]) (μ' := μ ++ [.dic []]) (by
    rw [wx_if (b := true) (μ' := μ ++ [.dic []]) (by (simp only [ev_cst, ev_var, ev_bin, ev_call, ev_nil, ev_cons, ev_bool, ev_asB, ev_not, ev_and, ev_or, ev_tup, ev_lst, ev_yes, ev_chain, ev_andV2, ev_orV, orB_bb, orB_t, orB_f, andB_bb, andB_t, andB_f, ite_andB, ite_orB, op_is, op_isn, ev_bor, ev_borT, borT_ok, bor_b, bor_i, bor_s, bor_n, bor1, bor2, bora1, bora2, ev_notV, ev_ifE, ev_frzT, ev_met, ev_fld, ev_un, un_neg, ev_dnil, ev_methC, ev_iseq, ev_isi, List.getElem?_cons_succ, List.getElem?_cons_zero, List.set_cons_succ, List.set_cons_zero, Res.bind_ok, Res.of_some, vw_i, vw_b, vw_s, vw_n, vw_t, vw_l, vw_d, vw_k, vw_c, it_l, it_t, it_s, op_add_i, op_sub_i, op_lt_i, op_le_i, op_gt_i, op_ge_i, op_eq_i, op_ne_i, op_eq_b, op_ne_b, bi_len_l, bi_len_t, bi_len_d, bi_len_c, op_ix_0, op_ix_1, op_ix_2, tp1, tp2, tp3, tp4, tp5, mk0, mk1, mk2, mk3, mk4, mk5, if_true, if_false, Bool.false_eq_true, Bool.not_true, Bool.not_false, Bool.true_and, Bool.false_and, Bool.true_or, Bool.false_or, bt_one, bt_tup, bt_lst, sa_nil, sa_cons, wipeD, List.length_map, eq1] <;> try rfl))]
    simp only [if_true, xRaise]
    (simp only [ev_cst, ev_var, ev_bin, ev_call, ev_nil, ev_cons, ev_bool, ev_asB, ev_not, ev_and, ev_or, ev_tup, ev_lst, ev_yes, ev_chain, ev_andV2, ev_orV, orB_bb, orB_t, orB_f, andB_bb, andB_t, andB_f, ite_andB, ite_orB, op_is, op_isn, ev_bor, ev_borT, borT_ok, bor_b, bor_i, bor_s, bor_n, bor1, bor2, bora1, bora2, ev_notV, ev_ifE, ev_frzT, ev_met, ev_fld, ev_un, un_neg, ev_dnil, ev_methC, ev_iseq, ev_isi, List.getElem?_cons_succ, List.getElem?_cons_zero, List.set_cons_succ, List.set_cons_zero, Res.bind_ok, Res.of_some, vw_i, vw_b, vw_s, vw_n, vw_t, vw_l, vw_d, vw_k, vw_c, it_l, it_t, it_s, op_add_i, op_sub_i, op_lt_i, op_le_i, op_gt_i, op_ge_i, op_eq_i, op_ne_i, op_eq_b, op_ne_b, bi_len_l, bi_len_t, bi_len_d, bi_len_c, op_ix_0, op_ix_1, op_ix_2, tp1, tp2, tp3, tp4, tp5, mk0, mk1, mk2, mk3, mk4, mk5, if_true, if_false, Bool.false_eq_true, Bool.not_true, Bool.not_false, Bool.true_and, Bool.false_and, Bool.true_or, Bool.false_or, bt_one, bt_tup, bt_lst, sa_nil, sa_cons, wipeD, List.length_map] <;> try rfl))]
  rfl
theorem see_ok (hM : McD A M size) (h : WatchAt μ n p A past ws) (ok : SpOk M size past ws) (hl : past.length < 40) {s : Str} (hs : okS s) (hr : ∃ sp, M.Reach (past ++ [s]) sp) : ∃ ws' μ', SpOk M size (past ++ [s]) ws' ∧ Φ_Watcher_see_X [.ref n, .str s] μ = .ok .non μ' ∧ WatchAt μ' n p A (past ++ [s]) ws' ∧ Keeps μ μ' n p := by
  obtain ⟨ws', μ', a, b, c, d⟩ := f_see hM h ok hl hs hr
  exact ⟨ws', μ', a, ce_see _ _ _ _ b, c, d⟩
/-- the same, whatever else is new -/
theorem WatchAt.app (h : WatchAt μ n p A past ws) (t : Mu) : WatchAt (μ ++ t) n p A past ws := ⟨by rw [List.getElem?_append_left (List.getElem?_eq_some_iff.mp h.ob).1]; exact h.ob, by rw [List.getElem?_append_left (List.getElem?_eq_some_iff.mp h.pa).1]; exact h.pa⟩
theorem WatchAt.set (h : WatchAt μ n p A past ws) {k : Nat} (c : Cell) (h1 : k ≠ n) (h2 : k ≠ p) : WatchAt (μ.set k c) n p A past ws := ⟨by rw [List.getElem?_set_ne h1]; exact h.ob, by rw [List.getElem?_set_ne h2]; exact h.pa⟩
theorem WatchAt.keep {n' p' : Nat} (h : WatchAt μ n p A past ws) (k : Keeps μ μ' n' p') (h1 : n ≠ n') (h2 : n ≠ p') (h3 : p ≠ n') (h4 : p ≠ p') : WatchAt μ' n p A past ws := ⟨k.2 n _ h1 h2 h.ob, k.2 p _ h3 h4 h.pa⟩
/-- what is possible behind these is the same, however it is found -/
theorem SpOk.rooms {ws' : Ws} (a : SpOk M size past ws) (b : SpOk M size past ws') : ssI (roomsW ws) = ssI (roomsW ws') := ssI_congr fun r => by
  constructor
  · intro h
    obtain ⟨sp, h1, h2⟩ := List.mem_map.mp h
    exact List.mem_map.mpr ⟨sp, (b.mem sp).mpr ((a.mem sp).mp h1), h2⟩
  · intro h
    obtain ⟨sp, h1, h2⟩ := List.mem_map.mp h
    exact List.mem_map.mpr ⟨sp, (a.mem sp).mpr ((b.mem sp).mp h1), h2⟩
theorem SpOk.vdE {ws' : Ws} (a : SpOk M size past ws) (b : SpOk M size past ws') : vd ((keysW ws).map (·.2)) = vd ((keysW ws').map (·.2)) := vd_congr fun r => by
  constructor
  · intro h
    obtain ⟨sp, h1, h2⟩ := List.mem_map.mp h
    exact List.mem_map.mpr ⟨sp, (b.mem sp).mpr ((a.mem sp).mp h1), h2⟩
  · intro h
    obtain ⟨sp, h1, h2⟩ := List.mem_map.mp h
    exact List.mem_map.mpr ⟨sp, (a.mem sp).mpr ((b.mem sp).mp h1), h2⟩
/-- what possible and verdict tell is what this watcher holds -/
theorem poss_of (hM : McD A M size) (ok : SpOk M size past ws) (hl : past.length ≤ 900) (hs : ∀ s ∈ past, okS s) (μ : Mu) : Φ_possible [A, .lst (past.map .str)] μ = .ok (.lst ((ssI (roomsW ws)).map .int)) μ := by
  obtain ⟨ws', ok', e⟩ := f_possible hM hl hs
  rw [ok.rooms ok', e]
theorem verd_of (hM : McD A M size) (ok : SpOk M size past ws) (hl : past.length ≤ 900) (hs : ∀ s ∈ past, okS s) (μ : Mu) : Φ_verdict [A, .lst (past.map .str)] μ = .ok (.str (vd ((keysW ws).map (·.2)))) μ := by
  obtain ⟨ws', ok', e⟩ := f_verdict hM hl hs
  rw [ok.vdE ok', e]
/-- is anything possible -/
theorem poss_nil (hM : McD A M size) (hl : past.length ≤ 900) (hs : ∀ s ∈ past, okS s) : ∃ rs : List Int, (rs = [] ↔ ¬ ∃ sp, M.Reach past sp) ∧ ∀ μ, Φ_possible [A, .lst (past.map .str)] μ = .ok (.lst (rs.map .int)) μ := by
  obtain ⟨ws', ok', e⟩ := f_possible hM hl hs
  refine ⟨ssI (roomsW ws'), ⟨fun h => ?_, fun h => ?_⟩, e⟩
  · rintro ⟨sp, hr⟩
    have : sp.1 ∈ ssI (roomsW ws') := ssI_mem.mpr (List.mem_map.mpr ⟨sp, (ok'.mem sp).mpr hr, rfl⟩)
    rw [h] at this
    cases this
  · cases q : ssI (roomsW ws') with
    | nil => rfl
    | cons r t =>
      have hm : r ∈ ssI (roomsW ws') := by rw [q]; exact List.mem_cons_self
      obtain ⟨sp, h1, _⟩ := List.mem_map.mp (ssI_mem.mp hm)
      exact absurd ⟨sp, (ok'.mem sp).mp h1⟩ h
theorem ok_vdU {fl : List Bool} : okS (vd fl) := by
  unfold vd
  split
  · decide +kernel
  · split
    · decide +kernel
    · split <;> decide +kernel
theorem ne_v {z : Str} (h : okS z) (μ : Mu) : opNe (.str z) (.str z) μ = .ok (.bl false) μ := by rw [em_str.opNe (by decide) h h, decide_eq_true rfl]; rfl
theorem ne_ints (l : List Int) (μ : Mu) : opNe (.lst (l.map .int)) (.lst (l.map .int)) μ = .ok (.bl false) μ := by
  have := (em_lst em_int).opNe (a := l) (b := l) (by decide) (fun _ _ => trivial) (fun _ _ => trivial) μ
  rw [decide_eq_true rfl] at this
  exact this
theorem ne_strs {l : List Str} (h : ∀ s ∈ l, okS s) (μ : Mu) : opNe (.lst (l.map .str)) (.lst (l.map .str)) μ = .ok (.bl false) μ := by
  have := (em_lst em_str).opNe (a := l) (b := l) (by decide) h h μ
  rw [decide_eq_true rfl] at this
  exact this
end
end SB
set_option Elab.async false
set_option linter.all false
set_option maxRecDepth 100000
namespace SB
open PySem L2
noncomputable def m_law_signs_L : DS :=
  (sSeq (sSet 3 (dBin (dBin (dVar 1) (dCst (.int 1000000007)) (opMulA false)) (dCst (.int 2147483647)) opMod))
  (sSeq (sSet 4 dDnil)
  (sSeq (sFor (.one 5) (iSeq (dVar 0)) (sSeq (sSet 6 (dBin (dVar 3) (dCst (.int 7)) opMod))
  (sSeq (sIf (dBool (dBin (dVar 6) (dCst (.int 5)) opLt)) (sSub (dVar 4) (dVar 5) (dBin (dLst false (dCons (dBin (dVar 2) (dCst (.int 0)) opIx) (dCons (dBin (dVar 2) (dCst (.int 1)) opIx) (dCons (dBin (dVar 2) (dCst (.int 0)) opIx) (dCons (dVar 5) (dCons (dBin (dVar 2) (dCst (.int 4)) opIx) dNil)))))) (dVar 6) opIx)) sSkip)
  (sSet 3 (dBin (dVar 3) (dCst (.int 7)) opFdiv)))))
  (sRet (dVar 4)))))
noncomputable def Φ_law_signs_L : Fn := callG 7 m_law_signs_L
noncomputable def m_law_parts_L : DS :=
  (sSeq (sSet 3 (dCall (dCons (dVar 0) (dCons (dVar 1) dNil)) Φ_law_cell))
  (sSeq (sSet 4 (dBin (dLst false (dCons (dCst (.int 2)) (dCons (dCst (.int 3)) (dCons (dCst (.int 4)) (dCons (dCst (.int 3)) (dCons (dCst (.int 5)) (dCons (dCst (.int 1)) (dCons (dCst (.int 4)) (dCons (dCst (.int 8)) dNil))))))))) (dBin (dVar 3) (dCst (.int 8)) opMod) opIx))
  (sSeq (sSet 5 (dSlice false (dCall (dCons (dBin (dVar 3) (dCst (.int 8)) opFdiv) dNil) Φ_law_deeds) none (some (dBin (dCst (.int 2)) (dBin (dBin (dVar 3) (dCst (.int 8)) opFdiv) (dCst (.int 4)) opMod) (opAdd false)))))
  (sSeq (sSet 6 (dCall (dCons (dVar 5) (dCons (dCall (dCons (dVar 0) (dCons (dBin (dVar 1) (dCst (.int 1)) (opAdd false)) dNil)) Φ_law_cell) (dCons (dCall (dCons (dBin (dBin (dVar 3) (dCst (.int 16)) opFdiv) (dCst (.int 5)) (opAdd false)) dNil) Φ_law_words) dNil))) Φ_law_signs_L))
  (sSeq (sSet 7 (dBin (dBin (dCall (dCons (dVar 0) (dCons (dBin (dVar 1) (dCst (.int 2)) (opAdd false)) dNil)) Φ_law_cell) (dCst (.int 1000000007)) (opMulA false)) (dCst (.int 2147483647)) opMod))
  (sSeq (sSet 8 (dComp false [9] (.one 9) (iRange1 (dCall (dCons (dVar 5) dNil) biLen)) (dBool (dBin (dBin (dBin (dVar 7) (dBin (dLst false (dCons (dCst (.int 1)) (dCons (dCst (.int 3)) (dCons (dCst (.int 9)) (dCons (dCst (.int 27)) (dCons (dCst (.int 81)) dNil)))))) (dVar 9) opIx) opFdiv) (dCst (.int 3)) opMod) (dCst (.int 1)) opEq)) (dBin (dVar 5) (dVar 9) opIx)))
  (sSeq (sSet 10 (dCall (dCons (dCall (dCons (dVar 0) (dCons (dBin (dVar 1) (dCst (.int 3)) (opAdd false)) dNil)) Φ_law_cell) (dCons (dVar 4) dNil)) Φ_law_rooms))
  (sSeq (sSet 11 (dCall (dCons (dSlice false (dVar 0) (some (dBin (dVar 1) (dCst (.int 4)) (opAdd false))) (some (dBin (dBin (dVar 1) (dCst (.int 4)) (opAdd false)) (dVar 2) (opAdd false)))) (dCons (dVar 4) (dCons (dVar 5) dNil))) Φ_law_moves))
  (sRet (dLst false (dCons (dVar 4) (dCons (dVar 10) (dCons (dVar 11) (dCons (dVar 6) (dCons (dVar 8) dNil)))))))))))))))
noncomputable def Φ_law_parts_L : Fn := callG 12 m_law_parts_L

-- UNLIKE Machine_init
noncomputable def m_Machine_init01 : DS :=
  (sSeq (sIf (dBool (dBin (dVar 1) (dCst (.int 8)) opGt)) sBad sSkip)
  (sSeq (sIf (dBool (dBin (dCall (dCons (dVar 3) dNil) biLen) (dCst (.int 24)) opGt)) sBad sSkip)
  (sSeq (sForN (.one 6) (dVar 2) (sExpr (dCall (dCons (dVar 6) (dCons (dVar 1) dNil)) Φ_must_room)))
  (sSeq (sForN (.many [7, 8, 9]) (dVar 3) (sSeq (sExpr (dCall (dCons (dVar 7) (dCons (dVar 1) dNil)) Φ_must_room))
  (sSeq (sExpr (dCall (dCons (dVar 8) dNil) Φ_must_word))
  (sExpr (dCall (dCons (dVar 9) (dCons (dVar 1) dNil)) Φ_must_room)))))
  (sSeq (sLock 4 (sFor (.many [8, 10]) (iItems (dFrzT (dVar 4))) (sSeq (sExpr (dCall (dCons (dVar 8) dNil) Φ_must_word))
  (sExpr (dCall (dCons (dVar 10) dNil) Φ_must_word)))))
  (sSeq (sForN (.one 8) (dVar 5) (sExpr (dCall (dCons (dVar 8) dNil) Φ_must_word)))
  (sSeq (sFldD 0 0 (dVar 0) (dVar 1))
  (sSeq (sFldD 0 1 (dVar 0) (dSortSet false (dVar 2)))
  (sSeq (sFldD 0 2 (dVar 0) (dSortSet false (dVar 3)))
  (sSeq (sFldD 0 3 (dVar 0) (dComp false [6] (.one 6) (iRange1 (dVar 1)) dYes (dComp false [11] (.one 11) (iSeq (dFld 0 2 (dVar 0))) (dBool (dBin (dBin (dVar 11) (dCst (.int 0)) opIx) (dVar 6) opEq)) (dVar 11))))
  (sSeq (sFldD 0 4 (dVar 0) (dDictV false (dVar 4)))
  (sFldD 0 5 (dVar 0) (dCall (dCons (dVar 5) dNil) (biList false))))))))))))))
noncomputable def Φ_Machine_init01 : Fn := callG 12 m_Machine_init01
noncomputable def m_Machine_starts_L : DS :=
  (sRet (dCall (dCons (dFld 0 1 (dVar 0)) dNil) (biList true)))
noncomputable def Φ_Machine_starts_L : Fn := callG 1 m_Machine_starts_L
noncomputable def m_Machine_moves_L : DS :=
  (sRet (dCall (dCons (dFld 0 2 (dVar 0)) dNil) (biList true)))
noncomputable def Φ_Machine_moves_L : Fn := callG 1 m_Machine_moves_L
noncomputable def m_law_good01 : DS :=
  (sSeq (sAsg (.many [3, 4, 5, 6, 7]) (dVar 1))
  (sSeq (sIf (dOr (dNot (dBool (dIsi "int" (dFld 0 0 (dVar 0))))) (dOr (dBool (dIsi "bool" (dFld 0 0 (dVar 0)))) (dBool (dBin (dFld 0 0 (dVar 0)) (dVar 3) opNe)))) (sRet (dCst (.bl false))) sSkip)
  (sSeq (sSet 8 (dMeth 0 (dVar 0) dNil Φ_Machine_starts_L))
  (sSeq (sIf (dOr (dNot (dBool (dIsi "list" (dVar 8)))) (dBool (dBin (dVar 8) (dSortSet false (dVar 4)) opNe))) (sRet (dCst (.bl false))) sSkip)
  (sSeq (sSet 9 (dMeth 0 (dVar 0) dNil Φ_Machine_moves_L))
  (sSeq (sIf (dOr (dNot (dBool (dIsi "list" (dVar 9)))) (dBool (dBin (dVar 9) (dSortSet false (dVar 5)) opNe))) (sRet (dCst (.bl false))) sSkip)
  (sSeq (sExpr (dMet (dVar 8) isLst (dCons (dCst (.int 99)) dNil) meApp))
  (sSeq (sExpr (dMet (dVar 9) isLst dNil meClear))
  (sSeq (sFor (.one 10) (iSeq (dVar 2)) (sSeq (sSet 11 (dMeth 0 (dVar 0) (dCons (dVar 10) dNil) Φ_Machine_is_fault))
  (sIf (dOr (dBool (dBin (dMeth 0 (dVar 0) (dCons (dVar 10) dNil) Φ_Machine_sign_of) (dGet (dVar 6) (dVar 10)) opNe)) (dOr (dNot (dBool (dIsi "bool" (dVar 11)))) (dBool (dBin (dVar 11) (dBin (dVar 10) (dVar 7) opIn) opNe)))) (sRet (dCst (.bl false))) sSkip)))
  (sRet (dCst (.bl true))))))))))))
noncomputable def Φ_law_good01 : Fn := callP 12 m_law_good01
noncomputable def m_law01 : DS :=
  (sSeq (sSet 1 (dCall (dCons (dVar 0) (dCons (dCst (.int 0)) (dCons (dCst (.int 23)) dNil))) Φ_law_parts_L))
  (sSeq (sAsg (.many [2, 3, 4, 5, 6]) (dVar 1))
  (sSeq (sSet 7 (dBin (dBin (dCall (dCons (dBin (dCall (dCons (dVar 0) (dCons (dCst (.int 0)) dNil)) Φ_law_cell) (dCst (.int 8)) opFdiv) dNil) Φ_law_words) (dCall (dCons (dCall (dCons (dVar 0) (dCons (dCst (.int 1)) dNil)) Φ_law_cell) dNil) Φ_law_words) (opAdd false)) (dLst false (dCons (dCst (.str ("qzqzqzqz" : Str))) (dCons (dCst (.str ("q" : Str))) dNil))) (opAdd false)))
  (sSeq (sSub (dVar 5) (dBin (dVar 7) (dCst (.int 6)) opIx) (dBin (dVar 7) (dCst (.int 7)) opIx))
  (sSeq (sSet 6 (dBin (dVar 6) (dLst false (dCons (dBin (dVar 7) (dCst (.int 8)) opIx) dNil)) (opAdd false)))
  (sSeq (sSet 1 (dLst false (dCons (dVar 2) (dCons (dVar 3) (dCons (dVar 4) (dCons (dFrzT (dVar 5)) (dCons (dVar 6) dNil)))))))
  (sSeq (sSet 8 (dLst true (dCons (dRev true (dBin (dVar 3) (dSlice false (dVar 3) none (some (dCst (.int 1)))) (opAdd false))) (dCons (dRev true (dBin (dVar 4) (dSlice false (dVar 4) none (some (dCst (.int 1)))) (opAdd false))) (dCons (dDictV true (dVar 5)) (dCons (dCall (dCons (dVar 6) dNil) (biList true)) dNil))))))
  (sSeq (sSet 9 (dMake false 0 (dCons (dVar 2) (dCons (dBin (dVar 8) (dCst (.int 0)) opIx) (dCons (dBin (dVar 8) (dCst (.int 1)) opIx) (dCons (dBin (dVar 8) (dCst (.int 2)) opIx) (dCons (dBin (dVar 8) (dCst (.int 3)) opIx) dNil))))) Φ_Machine_init01))
  (sSeq (sIf (dBool (dBin (dVar 8) (dLst false (dCons (dRev false (dBin (dVar 3) (dSlice false (dVar 3) none (some (dCst (.int 1)))) (opAdd false))) (dCons (dRev false (dBin (dVar 4) (dSlice false (dVar 4) none (some (dCst (.int 1)))) (opAdd false))) (dCons (dFrzT (dVar 5)) (dCons (dVar 6) dNil))))) opNeX)) (sRet (dCst (.bl false))) sSkip)
  (sSeq (sIf (dNot (dBool (dCall (dCons (dVar 9) (dCons (dVar 1) (dCons (dVar 7) dNil))) Φ_law_good01))) (sRet (dCst (.bl false))) sSkip)
  (sSeq (sExpr (dMet (dBin (dVar 8) (dCst (.int 0)) opIx) isLst (dCons (dCst (.int 0)) dNil) meApp))
  (sSeq (sExpr (dMet (dBin (dVar 8) (dCst (.int 1)) opIx) isLst (dCons (dTup (dCons (dCst (.int 0)) (dCons (dBin (dVar 7) (dCst (.int 9)) opIx) (dCons (dCst (.int 0)) dNil)))) dNil) meApp))
  (sSeq (sExpr (dClr (dBin (dVar 8) (dCst (.int 2)) opIx)))
  (sSeq (sSub (dBin (dVar 8) (dCst (.int 2)) opIx) (dBin (dVar 7) (dCst (.int 5)) opIx) (dCst (.str ("sign" : Str))))
  (sSeq (sExpr (dMet (dBin (dVar 8) (dCst (.int 3)) opIx) isLst dNil meClear))
  (sRet (dCall (dCons (dVar 9) (dCons (dVar 1) (dCons (dVar 7) dNil))) Φ_law_good01)))))))))))))))))
noncomputable def Φ_law01 : Fn := callP 10 m_law01
end SB
set_option Elab.async false
set_option linter.all false
set_option maxRecDepth 100000
namespace SB
open PySem L2
noncomputable def m_law_refused : DS :=
  (sSeq (sIf (dOr (dBool (dBin (dVar 0) (dCst .non) opIs)) (dBool (dBin (dVar 1) (dLst false dNil) opEq))) (sRet (dAndV (dBin (dVar 0) (dCst .non) opIs) (dBin (dVar 1) (dLst false dNil) opEq))) sSkip)
  (sSeq (sIf (dOr (dNot (dBool (dIsx [2, 3, 4, 5, 6] [2, 3, 4, 5, 6] (dVar 0)))) (dBool (dIsx [2, 3, 4, 5, 6] ([3] ++ [4]) (dVar 0)))) (sRet (dCst (.bl false))) sSkip)
  (sSeq (sIf (dBool (dBin (dIsx [2, 3, 4, 5, 6] [2] (dVar 0)) (dIsx [2, 3, 4, 5, 6] [5] (dVar 0)) opEq)) (sRet (dCst (.bl false))) sSkip)
  (sSeq (sIf (dBool (dIsx [2, 3, 4, 5, 6] [2] (dVar 0))) (sRet (dBin (dVar 1) (dLst false (dCons (dXf 2 1 (dVar 0)) (dCons (dXf 2 0 (dVar 0)) dNil))) opEq)) sSkip)
  (sRet (dBin (dVar 1) (dLst false (dCons (dXf 5 0 (dVar 0)) dNil)) opEq))))))
noncomputable def Φ_law_refused : Fn := callP 2 m_law_refused
noncomputable def m_law_caught : DS :=
  (sSeq (sSet 2 (dCst .non))
  (sSeq (sTryK [2, 3, 4, 5] 3 2 (xMeth 1 (dVar 0) (dCons (dVar 1) dNil) Φ_Watcher_see_X))
  (sRet (dVar 2))))
noncomputable def Φ_law_caught : Fn := callG 4 m_law_caught
noncomputable def m_law_tried : DS :=
  (sSeq (sSet 4 (dLst false dNil))
  (sSeq (sIf (dBool (dBin (dCall (dCons (dVar 2) dNil) biLen) (dCst (.int 40)) opEq)) (sSet 4 (dLst false (dCons (dCst (.int 41)) (dCons (dCst (.int 40)) dNil)))) (sIf (dBool (dBin (dCall (dCons (dVar 0) (dCons (dBin (dVar 2) (dLst false (dCons (dVar 3) dNil)) (opAdd false)) dNil)) Φ_possible) (dLst false dNil) opEq)) (sSet 4 (dLst false (dCons (dVar 3) dNil))) sSkip))
  (sSeq (sIf (dNot (dBool (dCall (dCons (dCall (dCons (dVar 1) (dCons (dVar 3) dNil)) Φ_law_caught) (dCons (dVar 4) dNil)) Φ_law_refused))) (sRet (dCst .non)) sSkip)
  (sSeq (sIf (dBool (dBin (dVar 4) (dLst false dNil) opEq)) (sSet 2 (dBin (dVar 2) (dLst false (dCons (dVar 3) dNil)) (opAdd false))) sSkip)
  (sSeq (sIf (dOr (dBool (dBin (dMeth 1 (dVar 1) dNil Φ_Watcher_sights) (dVar 2) opNe)) (dBool (dBin (dMeth 1 (dVar 1) dNil Φ_Watcher_rooms) (dCall (dCons (dVar 0) (dCons (dVar 2) dNil)) Φ_possible) opNe))) (sRet (dCst .non)) sSkip)
  (sSeq (sIf (dBool (dBin (dMeth 1 (dVar 1) dNil Φ_Watcher_verdict) (dCall (dCons (dVar 0) (dCons (dVar 2) dNil)) Φ_verdict) opNe)) (sRet (dCst .non)) sSkip)
  (sRet (dVar 2))))))))
noncomputable def Φ_law_tried : Fn := callG 5 m_law_tried
noncomputable def m_law : DS :=
  (sSeq (sAsg (.many [1, 2, 3, 4, 5]) (dCall (dCons (dVar 0) (dCons (dCst (.int 0)) (dCons (dCst (.int 20)) dNil))) Φ_law_parts_L))
  (sSeq (sSet 6 (dBin (dBin (dCall (dCons (dVar 0) (dCons (dCst (.int 1)) dNil)) Φ_law_cell) (dCst (.int 1000000007)) (opMulA false)) (dCst (.int 2147483647)) opMod))
  (sSeq (sSet 7 (dCst (.str ("round" : Str))))
  (sSeq (sSet 8 (dBin (dVar 6) (dVar 1) opMod))
  (sSeq (sSub (dVar 4) (dVar 7) (dCst (.str ("again" : Str))))
  (sSeq (sSet 9 (dMake false 0 (dCons (dVar 1) (dCons (dBin (dVar 2) (dLst false (dCons (dVar 8) dNil)) (opAdd false)) (dCons (dBin (dVar 3) (dLst false (dCons (dTup (dCons (dVar 8) (dCons (dVar 7) (dCons (dVar 8) dNil)))) dNil)) (opAdd false)) (dCons (dFrzT (dVar 4)) (dCons (dVar 5) dNil))))) Φ_Machine_init))
  (sSeq (sSet 10 (dBin (dComp false [11] (.one 11) (iKeys (dFrzT (dVar 4))) dYes (dBin (dVar 4) (dVar 11) opIx)) (dLst false (dCons (dCst (.str ("nosuch" : Str))) dNil)) (opAdd false)))
  (sSeq (sSet 12 (dMake true 1 (dCons (dVar 9) dNil) Φ_Watcher_init))
  (sSeq (sSet 13 (dBin (dLst false (dCons (dCst (.int 37)) (dCons (dCst (.int 38)) (dCons (dCst (.int 39)) (dCons (dCst (.int 40)) (dCons (dBin (dBin (dVar 6) (dCst (.int 8)) opFdiv) (dCst (.int 8)) opMod) dNil)))))) (dBin (dBin (dVar 6) (dCst (.int 64)) opFdiv) (dCst (.int 5)) opMod) opIx))
  (sSeq (sSet 14 (dLst false dNil))
  (sSeq (sFor (.one 15) (iRange1 (dVar 13)) (sSeq (sIf (dBool (dBin (dCall (dCons (dVar 12) (dCons (dCst (.str ("again" : Str))) dNil)) Φ_law_caught) (dCst .non) opIsn)) (sRet (dCst (.bl false))) sSkip)
  (sSet 14 (dBin (dVar 14) (dLst false (dCons (dCst (.str ("again" : Str))) dNil)) (opAdd false)))))
  (sSeq (sFor (.one 16) (iSeq (dBin (dLst false (dCons (dCst (.int 1)) dNil)) (dSlice false (dVar 0) (some (dCst (.int 24))) (some (dCst (.int 25)))) (opAdd false))) (sSeq (sSet 14 (dCall (dCons (dVar 9) (dCons (dVar 12) (dCons (dVar 14) (dCons (dBin (dVar 10) (dBin (dVar 16) (dCall (dCons (dVar 10) dNil) biLen) opMod) opIx) dNil)))) Φ_law_tried))
  (sIf (dBool (dBin (dVar 14) (dCst .non) opIs)) (sRet (dCst (.bl false))) sSkip)))
  (sRet (dBin (dCall (dCons (dVar 9) (dCons (dVar 12) (dCons (dVar 14) (dCons (dCst (.str ("nosuch" : Str))) dNil)))) Φ_law_tried) (dCst .non) opIsn))))))))))))))
noncomputable def Φ_law : Fn := callP 17 m_law
end SB
set_option Elab.async false
set_option linter.all false
set_option maxRecDepth 10000
namespace SB
open PySem L2
/-- what is due to a sign, and how it is caught -/
inductive DueW where
  | none | full | no (s : Str)
def DueW.due : DueW → D
  | .none => .lst []
  | .full => .lst [.int 41, .int 40]
  | .no s => .lst [.str s]
def DueW.exc : DueW → D
  | .none => .non
  | .full => .exc 2 [.int 40, .int 41]
  | .no s => .exc 5 [.str s]
def DueW.isNo : DueW → Bool
  | .none => true
  | _ => false
def DueW.ok : DueW → Prop
  | .no s => okS s
  | _ => True
section
variable {ρ : Ev} {μ : Mu} {f : DE}
theorem ev_isxZ {all cs : List Nat} : dIsx all cs f ρ μ = (f ρ μ).bind (isxR all cs) := rfl
theorem isx_cZ {all cs : List Nat} {c : Nat} {fs : List D} (h : c ∈ all) : isxR all cs (.exc c fs) μ = .ok (.bl (decide (c ∈ cs))) μ := by
  unfold isxR
  simp only [vw_x, if_pos h]
end
theorem cl_dueW (d : DueW) : closed d.due = true := by cases d <;> rfl
theorem cl_excW (d : DueW) : closed d.exc = true := by cases d <;> rfl
theorem eq_intsZ (l m : List Int) (μ : Mu) : opEq (.lst (l.map .int)) (.lst (m.map .int)) μ = .ok (.bl (decide (l = m))) μ := (em_lst em_int).opEq (by decide) (fun _ _ => trivial) (fun _ _ => trivial) μ
theorem eq_strsZ {l m : List Str} (h : ∀ s ∈ l, okS s) (k : ∀ s ∈ m, okS s) (μ : Mu) : opEq (.lst (l.map .str)) (.lst (m.map .str)) μ = .ok (.bl (decide (l = m))) μ := (em_lst em_str).opEq (by decide) h k μ
theorem due_nil (d : DueW) (ok : d.ok) (μ : Mu) : opEq d.due (.lst []) μ = .ok (.bl d.isNo) μ := by
  cases d with
  | none => exact eq_intsZ [] [] μ
  | full => exact eq_intsZ [41, 40] [] μ
  | no s => exact eq_strsZ (l := [s]) (m := []) (fun z hz => by rw [List.mem_singleton.mp hz]; exact ok) (fun z hz => by cases hz) μ
theorem f_refused52 (d : DueW) (ok : d.ok) (μ : Mu) : Φ_law_refused [d.exc, d.due] μ = .ok (.bl true) μ := by
  refine callP_wpe (by simp only [closeds, cl_excW, cl_dueW, Bool.and_self]) rfl ?_ μ
  show WP _ _ _ _ (m_law_refused [some d.exc, some d.due] [])
  unfold m_law_refused
  have dn := due_nil d ok []
  cases d with
  | none =>
    have e0 : opEq (DueW.due .none) (.lst []) [] = .ok (.bl true) [] := dn
    exact wp_seq (wp_if (μ' := []) (b := true) (by (simp only [ev_cst, ev_var, ev_bin, ev_call, ev_nil, ev_cons, ev_bool, ev_asB, ev_not, ev_and, ev_or, ev_tup, ev_lst, ev_yes, ev_chain, ev_andV2, ev_orV, orB_bb, orB_t, orB_f, andB_bb, andB_t, andB_f, ite_andB, ite_orB, op_is, op_isn, ev_bor, ev_borT, borT_ok, bor_b, bor_i, bor_s, bor_n, bor1, bor2, bora1, bora2, ev_notV, ev_ifE, ev_frzT, ev_met, ev_fld, ev_un, un_neg, ev_dnil, ev_methC, ev_iseq, ev_isi, List.getElem?_cons_succ, List.getElem?_cons_zero, List.set_cons_succ, List.set_cons_zero, Res.bind_ok, Res.of_some, vw_i, vw_b, vw_s, vw_n, vw_t, vw_l, vw_d, vw_k, vw_c, it_l, it_t, it_s, op_add_i, op_sub_i, op_lt_i, op_le_i, op_gt_i, op_ge_i, op_eq_i, op_ne_i, op_eq_b, op_ne_b, bi_len_l, bi_len_t, bi_len_d, bi_len_c, op_ix_0, op_ix_1, op_ix_2, tp1, tp2, tp3, tp4, tp5, mk0, mk1, mk2, mk3, mk4, mk5, if_true, if_false, Bool.false_eq_true, Bool.not_true, Bool.not_false, Bool.true_and, Bool.false_and, Bool.true_or, Bool.false_or, bt_one, bt_tup, bt_lst, sa_nil, sa_cons, wipeD, List.length_map, DueW.exc, isNon, e0] <;> try rfl)) (fun _ => wp_ret (d := .bl true) (μ' := []) (by (simp only [ev_cst, ev_var, ev_bin, ev_call, ev_nil, ev_cons, ev_bool, ev_asB, ev_not, ev_and, ev_or, ev_tup, ev_lst, ev_yes, ev_chain, ev_andV2, ev_orV, orB_bb, orB_t, orB_f, andB_bb, andB_t, andB_f, ite_andB, ite_orB, op_is, op_isn, ev_bor, ev_borT, borT_ok, bor_b, bor_i, bor_s, bor_n, bor1, bor2, bora1, bora2, ev_notV, ev_ifE, ev_frzT, ev_met, ev_fld, ev_un, un_neg, ev_dnil, ev_methC, ev_iseq, ev_isi, List.getElem?_cons_succ, List.getElem?_cons_zero, List.set_cons_succ, List.set_cons_zero, Res.bind_ok, Res.of_some, vw_i, vw_b, vw_s, vw_n, vw_t, vw_l, vw_d, vw_k, vw_c, it_l, it_t, it_s, op_add_i, op_sub_i, op_lt_i, op_le_i, op_gt_i, op_ge_i, op_eq_i, op_ne_i, op_eq_b, op_ne_b, bi_len_l, bi_len_t, bi_len_d, bi_len_c, op_ix_0, op_ix_1, op_ix_2, tp1, tp2, tp3, tp4, tp5, mk0, mk1, mk2, mk3, mk4, mk5, if_true, if_false, Bool.false_eq_true, Bool.not_true, Bool.not_false, Bool.true_and, Bool.false_and, Bool.true_or, Bool.false_or, bt_one, bt_tup, bt_lst, sa_nil, sa_cons, wipeD, List.length_map, DueW.exc, isNon, e0] <;> try rfl)) rfl) (fun h => by cases h))
  | full =>
    have e0 : opEq (DueW.due .full) (.lst []) [] = .ok (.bl false) [] := dn
    have e1 : opEq (DueW.due .full) (.lst [.int 41, .int 40]) [] = .ok (.bl true) [] := by
      have := eq_intsZ [41, 40] [41, 40] []
      rw [decide_eq_true rfl] at this
      exact this
    have x1 : dXf 2 1 (dVar 0) [some (DueW.exc .full), some (DueW.due .full)] [] = .ok (.int 41) [] := rfl
    have x0 : dXf 2 0 (dVar 0) [some (DueW.exc .full), some (DueW.due .full)] [] = .ok (.int 40) [] := rfl
    have it : ∀ cs : List Nat, dIsx [2, 3, 4, 5, 6] cs (dVar 0) [some (DueW.exc .full), some (DueW.due .full)] [] = .ok (.bl (decide (2 ∈ cs))) [] := fun cs => by
      rw [ev_isxZ, ev_var]
      exact isx_cZ (all := [2, 3, 4, 5, 6]) (c := 2) (fs := [.int 40, .int 41]) (by decide)
    generalize hE : DueW.due .full = E at e0 e1 it x0 x1 ⊢
    have t1 : (dOr (dBool (dBin (dVar 0) (dCst .non) opIs)) (dBool (dBin (dVar 1) (dLst false dNil) opEq))) [some (DueW.exc .full), some E] [] = .ok false [] := by (simp only [ev_cst, ev_var, ev_bin, ev_call, ev_nil, ev_cons, ev_bool, ev_asB, ev_not, ev_and, ev_or, ev_tup, ev_lst, ev_yes, ev_chain, ev_andV2, ev_orV, orB_bb, orB_t, orB_f, andB_bb, andB_t, andB_f, ite_andB, ite_orB, op_is, op_isn, ev_bor, ev_borT, borT_ok, bor_b, bor_i, bor_s, bor_n, bor1, bor2, bora1, bora2, ev_notV, ev_ifE, ev_frzT, ev_met, ev_fld, ev_un, un_neg, ev_dnil, ev_methC, ev_iseq, ev_isi, List.getElem?_cons_succ, List.getElem?_cons_zero, List.set_cons_succ, List.set_cons_zero, Res.bind_ok, Res.of_some, vw_i, vw_b, vw_s, vw_n, vw_t, vw_l, vw_d, vw_k, vw_c, it_l, it_t, it_s, op_add_i, op_sub_i, op_lt_i, op_le_i, op_gt_i, op_ge_i, op_eq_i, op_ne_i, op_eq_b, op_ne_b, bi_len_l, bi_len_t, bi_len_d, bi_len_c, op_ix_0, op_ix_1, op_ix_2, tp1, tp2, tp3, tp4, tp5, mk0, mk1, mk2, mk3, mk4, mk5, if_true, if_false, Bool.false_eq_true, Bool.not_true, Bool.not_false, Bool.true_and, Bool.false_and, Bool.true_or, Bool.false_or, bt_one, bt_tup, bt_lst, sa_nil, sa_cons, wipeD, List.length_map, DueW.exc, isNon, vw_x, e0] <;> try rfl)
    refine wp_seq (wp_if (μ' := []) (b := false) t1 (fun h => by cases h) (fun _ => wp_skip ?_))
    generalize hX : DueW.exc .full = EX at it x0 x1 ⊢
    refine wp_seq (wp_if (μ' := []) (b := false) (by (simp only [ev_cst, ev_var, ev_bin, ev_call, ev_nil, ev_cons, ev_bool, ev_asB, ev_not, ev_and, ev_or, ev_tup, ev_lst, ev_yes, ev_chain, ev_andV2, ev_orV, orB_bb, orB_t, orB_f, andB_bb, andB_t, andB_f, ite_andB, ite_orB, op_is, op_isn, ev_bor, ev_borT, borT_ok, bor_b, bor_i, bor_s, bor_n, bor1, bor2, bora1, bora2, ev_notV, ev_ifE, ev_frzT, ev_met, ev_fld, ev_un, un_neg, ev_dnil, ev_methC, ev_iseq, ev_isi, List.getElem?_cons_succ, List.getElem?_cons_zero, List.set_cons_succ, List.set_cons_zero, Res.bind_ok, Res.of_some, vw_i, vw_b, vw_s, vw_n, vw_t, vw_l, vw_d, vw_k, vw_c, it_l, it_t, it_s, op_add_i, op_sub_i, op_lt_i, op_le_i, op_gt_i, op_ge_i, op_eq_i, op_ne_i, op_eq_b, op_ne_b, bi_len_l, bi_len_t, bi_len_d, bi_len_c, op_ix_0, op_ix_1, op_ix_2, tp1, tp2, tp3, tp4, tp5, mk0, mk1, mk2, mk3, mk4, mk5, if_true, if_false, Bool.false_eq_true, Bool.not_true, Bool.not_false, Bool.true_and, Bool.false_and, Bool.true_or, Bool.false_or, bt_one, bt_tup, bt_lst, sa_nil, sa_cons, wipeD, List.length_map, it] <;> try rfl)) (fun h => by cases h) (fun _ => wp_skip ?_))
    refine wp_seq (wp_if (μ' := []) (b := false) (by (simp only [ev_cst, ev_var, ev_bin, ev_call, ev_nil, ev_cons, ev_bool, ev_asB, ev_not, ev_and, ev_or, ev_tup, ev_lst, ev_yes, ev_chain, ev_andV2, ev_orV, orB_bb, orB_t, orB_f, andB_bb, andB_t, andB_f, ite_andB, ite_orB, op_is, op_isn, ev_bor, ev_borT, borT_ok, bor_b, bor_i, bor_s, bor_n, bor1, bor2, bora1, bora2, ev_notV, ev_ifE, ev_frzT, ev_met, ev_fld, ev_un, un_neg, ev_dnil, ev_methC, ev_iseq, ev_isi, List.getElem?_cons_succ, List.getElem?_cons_zero, List.set_cons_succ, List.set_cons_zero, Res.bind_ok, Res.of_some, vw_i, vw_b, vw_s, vw_n, vw_t, vw_l, vw_d, vw_k, vw_c, it_l, it_t, it_s, op_add_i, op_sub_i, op_lt_i, op_le_i, op_gt_i, op_ge_i, op_eq_i, op_ne_i, op_eq_b, op_ne_b, bi_len_l, bi_len_t, bi_len_d, bi_len_c, op_ix_0, op_ix_1, op_ix_2, tp1, tp2, tp3, tp4, tp5, mk0, mk1, mk2, mk3, mk4, mk5, if_true, if_false, Bool.false_eq_true, Bool.not_true, Bool.not_false, Bool.true_and, Bool.false_and, Bool.true_or, Bool.false_or, bt_one, bt_tup, bt_lst, sa_nil, sa_cons, wipeD, List.length_map, it] <;> try rfl)) (fun h => by cases h) (fun _ => wp_skip ?_))
    exact wp_seq (wp_if (μ' := []) (b := true) (by (simp only [ev_cst, ev_var, ev_bin, ev_call, ev_nil, ev_cons, ev_bool, ev_asB, ev_not, ev_and, ev_or, ev_tup, ev_lst, ev_yes, ev_chain, ev_andV2, ev_orV, orB_bb, orB_t, orB_f, andB_bb, andB_t, andB_f, ite_andB, ite_orB, op_is, op_isn, ev_bor, ev_borT, borT_ok, bor_b, bor_i, bor_s, bor_n, bor1, bor2, bora1, bora2, ev_notV, ev_ifE, ev_frzT, ev_met, ev_fld, ev_un, un_neg, ev_dnil, ev_methC, ev_iseq, ev_isi, List.getElem?_cons_succ, List.getElem?_cons_zero, List.set_cons_succ, List.set_cons_zero, Res.bind_ok, Res.of_some, vw_i, vw_b, vw_s, vw_n, vw_t, vw_l, vw_d, vw_k, vw_c, it_l, it_t, it_s, op_add_i, op_sub_i, op_lt_i, op_le_i, op_gt_i, op_ge_i, op_eq_i, op_ne_i, op_eq_b, op_ne_b, bi_len_l, bi_len_t, bi_len_d, bi_len_c, op_ix_0, op_ix_1, op_ix_2, tp1, tp2, tp3, tp4, tp5, mk0, mk1, mk2, mk3, mk4, mk5, if_true, if_false, Bool.false_eq_true, Bool.not_true, Bool.not_false, Bool.true_and, Bool.false_and, Bool.true_or, Bool.false_or, bt_one, bt_tup, bt_lst, sa_nil, sa_cons, wipeD, List.length_map, it] <;> try rfl)) (fun _ => wp_ret (d := .bl true) (μ' := []) (by (simp only [ev_cst, ev_var, ev_bin, ev_call, ev_nil, ev_cons, ev_bool, ev_asB, ev_not, ev_and, ev_or, ev_tup, ev_lst, ev_yes, ev_chain, ev_andV2, ev_orV, orB_bb, orB_t, orB_f, andB_bb, andB_t, andB_f, ite_andB, ite_orB, op_is, op_isn, ev_bor, ev_borT, borT_ok, bor_b, bor_i, bor_s, bor_n, bor1, bor2, bora1, bora2, ev_notV, ev_ifE, ev_frzT, ev_met, ev_fld, ev_un, un_neg, ev_dnil, ev_methC, ev_iseq, ev_isi, List.getElem?_cons_succ, List.getElem?_cons_zero, List.set_cons_succ, List.set_cons_zero, Res.bind_ok, Res.of_some, vw_i, vw_b, vw_s, vw_n, vw_t, vw_l, vw_d, vw_k, vw_c, it_l, it_t, it_s, op_add_i, op_sub_i, op_lt_i, op_le_i, op_gt_i, op_ge_i, op_eq_i, op_ne_i, op_eq_b, op_ne_b, bi_len_l, bi_len_t, bi_len_d, bi_len_c, op_ix_0, op_ix_1, op_ix_2, tp1, tp2, tp3, tp4, tp5, mk0, mk1, mk2, mk3, mk4, mk5, if_true, if_false, Bool.false_eq_true, Bool.not_true, Bool.not_false, Bool.true_and, Bool.false_and, Bool.true_or, Bool.false_or, bt_one, bt_tup, bt_lst, sa_nil, sa_cons, wipeD, List.length_map, x1, x0, e1] <;> try rfl)) rfl) (fun h => by cases h))
  | no s =>
    have e0 : opEq (DueW.due (.no s)) (.lst []) [] = .ok (.bl false) [] := dn
    have e1 : opEq (DueW.due (.no s)) (.lst [.str s]) [] = .ok (.bl true) [] := by
      have := eq_strsZ (l := [s]) (m := [s]) (fun z hz => by rw [List.mem_singleton.mp hz]; exact ok) (fun z hz => by rw [List.mem_singleton.mp hz]; exact ok) []
      rw [decide_eq_true rfl] at this
      exact this
    have x0 : dXf 5 0 (dVar 0) [some (DueW.exc (.no s)), some (DueW.due (.no s))] [] = .ok (.str s) [] := rfl
    have it : ∀ cs : List Nat, dIsx [2, 3, 4, 5, 6] cs (dVar 0) [some (DueW.exc (.no s)), some (DueW.due (.no s))] [] = .ok (.bl (decide (5 ∈ cs))) [] := fun cs => by
      rw [ev_isxZ, ev_var]
      exact isx_cZ (all := [2, 3, 4, 5, 6]) (c := 5) (fs := [.str s]) (by decide)
    generalize hE : DueW.due (.no s) = E at e0 e1 it x0 ⊢
    have t1 : (dOr (dBool (dBin (dVar 0) (dCst .non) opIs)) (dBool (dBin (dVar 1) (dLst false dNil) opEq))) [some (DueW.exc (.no s)), some E] [] = .ok false [] := by (simp only [ev_cst, ev_var, ev_bin, ev_call, ev_nil, ev_cons, ev_bool, ev_asB, ev_not, ev_and, ev_or, ev_tup, ev_lst, ev_yes, ev_chain, ev_andV2, ev_orV, orB_bb, orB_t, orB_f, andB_bb, andB_t, andB_f, ite_andB, ite_orB, op_is, op_isn, ev_bor, ev_borT, borT_ok, bor_b, bor_i, bor_s, bor_n, bor1, bor2, bora1, bora2, ev_notV, ev_ifE, ev_frzT, ev_met, ev_fld, ev_un, un_neg, ev_dnil, ev_methC, ev_iseq, ev_isi, List.getElem?_cons_succ, List.getElem?_cons_zero, List.set_cons_succ, List.set_cons_zero, Res.bind_ok, Res.of_some, vw_i, vw_b, vw_s, vw_n, vw_t, vw_l, vw_d, vw_k, vw_c, it_l, it_t, it_s, op_add_i, op_sub_i, op_lt_i, op_le_i, op_gt_i, op_ge_i, op_eq_i, op_ne_i, op_eq_b, op_ne_b, bi_len_l, bi_len_t, bi_len_d, bi_len_c, op_ix_0, op_ix_1, op_ix_2, tp1, tp2, tp3, tp4, tp5, mk0, mk1, mk2, mk3, mk4, mk5, if_true, if_false, Bool.false_eq_true, Bool.not_true, Bool.not_false, Bool.true_and, Bool.false_and, Bool.true_or, Bool.false_or, bt_one, bt_tup, bt_lst, sa_nil, sa_cons, wipeD, List.length_map, DueW.exc, isNon, vw_x, e0] <;> try rfl)
    refine wp_seq (wp_if (μ' := []) (b := false) t1 (fun h => by cases h) (fun _ => wp_skip ?_))
    generalize hX : DueW.exc (.no s) = EX at it x0 ⊢
    refine wp_seq (wp_if (μ' := []) (b := false) (by (simp only [ev_cst, ev_var, ev_bin, ev_call, ev_nil, ev_cons, ev_bool, ev_asB, ev_not, ev_and, ev_or, ev_tup, ev_lst, ev_yes, ev_chain, ev_andV2, ev_orV, orB_bb, orB_t, orB_f, andB_bb, andB_t, andB_f, ite_andB, ite_orB, op_is, op_isn, ev_bor, ev_borT, borT_ok, bor_b, bor_i, bor_s, bor_n, bor1, bor2, bora1, bora2, ev_notV, ev_ifE, ev_frzT, ev_met, ev_fld, ev_un, un_neg, ev_dnil, ev_methC, ev_iseq, ev_isi, List.getElem?_cons_succ, List.getElem?_cons_zero, List.set_cons_succ, List.set_cons_zero, Res.bind_ok, Res.of_some, vw_i, vw_b, vw_s, vw_n, vw_t, vw_l, vw_d, vw_k, vw_c, it_l, it_t, it_s, op_add_i, op_sub_i, op_lt_i, op_le_i, op_gt_i, op_ge_i, op_eq_i, op_ne_i, op_eq_b, op_ne_b, bi_len_l, bi_len_t, bi_len_d, bi_len_c, op_ix_0, op_ix_1, op_ix_2, tp1, tp2, tp3, tp4, tp5, mk0, mk1, mk2, mk3, mk4, mk5, if_true, if_false, Bool.false_eq_true, Bool.not_true, Bool.not_false, Bool.true_and, Bool.false_and, Bool.true_or, Bool.false_or, bt_one, bt_tup, bt_lst, sa_nil, sa_cons, wipeD, List.length_map, it] <;> try rfl)) (fun h => by cases h) (fun _ => wp_skip ?_))
    refine wp_seq (wp_if (μ' := []) (b := false) (by (simp only [ev_cst, ev_var, ev_bin, ev_call, ev_nil, ev_cons, ev_bool, ev_asB, ev_not, ev_and, ev_or, ev_tup, ev_lst, ev_yes, ev_chain, ev_andV2, ev_orV, orB_bb, orB_t, orB_f, andB_bb, andB_t, andB_f, ite_andB, ite_orB, op_is, op_isn, ev_bor, ev_borT, borT_ok, bor_b, bor_i, bor_s, bor_n, bor1, bor2, bora1, bora2, ev_notV, ev_ifE, ev_frzT, ev_met, ev_fld, ev_un, un_neg, ev_dnil, ev_methC, ev_iseq, ev_isi, List.getElem?_cons_succ, List.getElem?_cons_zero, List.set_cons_succ, List.set_cons_zero, Res.bind_ok, Res.of_some, vw_i, vw_b, vw_s, vw_n, vw_t, vw_l, vw_d, vw_k, vw_c, it_l, it_t, it_s, op_add_i, op_sub_i, op_lt_i, op_le_i, op_gt_i, op_ge_i, op_eq_i, op_ne_i, op_eq_b, op_ne_b, bi_len_l, bi_len_t, bi_len_d, bi_len_c, op_ix_0, op_ix_1, op_ix_2, tp1, tp2, tp3, tp4, tp5, mk0, mk1, mk2, mk3, mk4, mk5, if_true, if_false, Bool.false_eq_true, Bool.not_true, Bool.not_false, Bool.true_and, Bool.false_and, Bool.true_or, Bool.false_or, bt_one, bt_tup, bt_lst, sa_nil, sa_cons, wipeD, List.length_map, it] <;> try rfl)) (fun h => by cases h) (fun _ => wp_skip ?_))
    refine wp_seq (wp_if (μ' := []) (b := false) (by (simp only [ev_cst, ev_var, ev_bin, ev_call, ev_nil, ev_cons, ev_bool, ev_asB, ev_not, ev_and, ev_or, ev_tup, ev_lst, ev_yes, ev_chain, ev_andV2, ev_orV, orB_bb, orB_t, orB_f, andB_bb, andB_t, andB_f, ite_andB, ite_orB, op_is, op_isn, ev_bor, ev_borT, borT_ok, bor_b, bor_i, bor_s, bor_n, bor1, bor2, bora1, bora2, ev_notV, ev_ifE, ev_frzT, ev_met, ev_fld, ev_un, un_neg, ev_dnil, ev_methC, ev_iseq, ev_isi, List.getElem?_cons_succ, List.getElem?_cons_zero, List.set_cons_succ, List.set_cons_zero, Res.bind_ok, Res.of_some, vw_i, vw_b, vw_s, vw_n, vw_t, vw_l, vw_d, vw_k, vw_c, it_l, it_t, it_s, op_add_i, op_sub_i, op_lt_i, op_le_i, op_gt_i, op_ge_i, op_eq_i, op_ne_i, op_eq_b, op_ne_b, bi_len_l, bi_len_t, bi_len_d, bi_len_c, op_ix_0, op_ix_1, op_ix_2, tp1, tp2, tp3, tp4, tp5, mk0, mk1, mk2, mk3, mk4, mk5, if_true, if_false, Bool.false_eq_true, Bool.not_true, Bool.not_false, Bool.true_and, Bool.false_and, Bool.true_or, Bool.false_or, bt_one, bt_tup, bt_lst, sa_nil, sa_cons, wipeD, List.length_map, it] <;> try rfl)) (fun h => by cases h) (fun _ => wp_skip ?_))
    exact wp_ret (d := .bl true) (μ' := []) (by (simp only [ev_cst, ev_var, ev_bin, ev_call, ev_nil, ev_cons, ev_bool, ev_asB, ev_not, ev_and, ev_or, ev_tup, ev_lst, ev_yes, ev_chain, ev_andV2, ev_orV, orB_bb, orB_t, orB_f, andB_bb, andB_t, andB_f, ite_andB, ite_orB, op_is, op_isn, ev_bor, ev_borT, borT_ok, bor_b, bor_i, bor_s, bor_n, bor1, bor2, bora1, bora2, ev_notV, ev_ifE, ev_frzT, ev_met, ev_fld, ev_un, un_neg, ev_dnil, ev_methC, ev_iseq, ev_isi, List.getElem?_cons_succ, List.getElem?_cons_zero, List.set_cons_succ, List.set_cons_zero, Res.bind_ok, Res.of_some, vw_i, vw_b, vw_s, vw_n, vw_t, vw_l, vw_d, vw_k, vw_c, it_l, it_t, it_s, op_add_i, op_sub_i, op_lt_i, op_le_i, op_gt_i, op_ge_i, op_eq_i, op_ne_i, op_eq_b, op_ne_b, bi_len_l, bi_len_t, bi_len_d, bi_len_c, op_ix_0, op_ix_1, op_ix_2, tp1, tp2, tp3, tp4, tp5, mk0, mk1, mk2, mk3, mk4, mk5, if_true, if_false, Bool.false_eq_true, Bool.not_true, Bool.not_false, Bool.true_and, Bool.false_and, Bool.true_or, Bool.false_or, bt_one, bt_tup, bt_lst, sa_nil, sa_cons, wipeD, List.length_map, x0, e1] <;> try rfl)) rfl
section
variable {A : D} {M : Mc} {size : Nat} {μ μ' : Mu} {n p : Nat} {past : List Str} {ws : Ws}
theorem caught_run (h : WatchAt μ n p A past ws) (s : Str) (d : DueW) (ν : Mu) (hr : Φ_Watcher_see_X [.ref n, .str s] μ = (match d with | .none => ResX.ok .non ν | .full => .ex 2 [.int 40, .int 41] ν | .no s => .ex 5 [.str s] ν)) : Φ_law_caught [.ref n, .str s] μ = .ok d.exc ν := by
  obtain ⟨d', μ', ⟨rfl, rfl⟩, e⟩ := callG_wp (n := 4) (m := m_law_caught) (ds := [.ref n, .str s]) (μ := μ) (fun d' μ' => d' = d.exc ∧ μ' = ν) (by
    show WP _ _ _ _ (m_law_caught [some (.ref n), some (.str s), none, none] μ)
    unfold m_law_caught
    refine wp_seq (wp_set (d := .non) (μ' := μ) (ρ' := [some (.ref n), some (.str s), some .non, none]) rfl rfl ?_)
    have xm : xMeth 1 (dVar 0) (dCons (dVar 1) dNil) Φ_Watcher_see_X [some (.ref n), some (.str s), some .non, none] μ = (Φ_Watcher_see_X [.ref n, .str s] μ).out [some (.ref n), some (.str s), some .non, none] := by
      unfold xMeth
      rw [show dVar 0 [some (.ref n), some (.str s), some .non, none] μ = .ok (.ref n) μ from rfl, outX_ok, vw_cI h.ob]
      simp only [if_true]
      rw [show dCons (dVar 1) dNil [some (.ref n), some (.str s), some .non, none] μ = .ok [.str s] μ from (by (simp only [ev_cst, ev_var, ev_bin, ev_call, ev_nil, ev_cons, ev_bool, ev_asB, ev_not, ev_and, ev_or, ev_tup, ev_lst, ev_yes, ev_chain, ev_andV2, ev_orV, orB_bb, orB_t, orB_f, andB_bb, andB_t, andB_f, ite_andB, ite_orB, op_is, op_isn, ev_bor, ev_borT, borT_ok, bor_b, bor_i, bor_s, bor_n, bor1, bor2, bora1, bora2, ev_notV, ev_ifE, ev_frzT, ev_met, ev_fld, ev_un, un_neg, ev_dnil, ev_methC, ev_iseq, ev_isi, List.getElem?_cons_succ, List.getElem?_cons_zero, List.set_cons_succ, List.set_cons_zero, Res.bind_ok, Res.of_some, vw_i, vw_b, vw_s, vw_n, vw_t, vw_l, vw_d, vw_k, vw_c, it_l, it_t, it_s, op_add_i, op_sub_i, op_lt_i, op_le_i, op_gt_i, op_ge_i, op_eq_i, op_ne_i, op_eq_b, op_ne_b, bi_len_l, bi_len_t, bi_len_d, bi_len_c, op_ix_0, op_ix_1, op_ix_2, tp1, tp2, tp3, tp4, tp5, mk0, mk1, mk2, mk3, mk4, mk5, if_true, if_false, Bool.false_eq_true, Bool.not_true, Bool.not_false, Bool.true_and, Bool.false_and, Bool.true_or, Bool.false_or, bt_one, bt_tup, bt_lst, sa_nil, sa_cons, wipeD, List.length_map] <;> try rfl)), outX_ok]
    refine wp_seq (wp_of_nx (ρ' := [some (.ref n), some (.str s), some d.exc, none]) (μ' := ν) ?_ (wp_ret (d := d.exc) (μ' := ν) rfl ⟨rfl, rfl⟩))
    unfold sTryK
    rw [xm, hr]
    cases d with
    | none => rfl
    | full =>
      show (if _ then _ else _) = _
      rw [if_pos ⟨by decide, by show 3 < 4; decide, by show 2 < 4; decide, by decide⟩]
      rfl
    | no z =>
      show (if _ then _ else _) = _
      rw [if_pos ⟨by decide, by show 3 < 4; decide, by show 2 < 4; decide, by decide⟩]
      rfl)
  exact e
/-- a sign that is taken -/
theorem caught_ok (hM : McD A M size) (h : WatchAt μ n p A past ws) (ok : SpOk M size past ws) (hl : past.length < 40) {s : Str} (hs : okS s) (hr : ∃ sp, M.Reach (past ++ [s]) sp) : ∃ ws' μ', SpOk M size (past ++ [s]) ws' ∧ Φ_law_caught [.ref n, .str s] μ = .ok .non μ' ∧ WatchAt μ' n p A (past ++ [s]) ws' ∧ Keeps μ μ' n p := by
  obtain ⟨ws', μ', a, b, c, d⟩ := see_ok hM h ok hl hs hr
  exact ⟨ws', μ', a, caught_run h s .none μ' b, c, d⟩
/-- one sign is tried -/
theorem f_tried (hM : McD A M size) (h : WatchAt μ n p A past ws) (ok : SpOk M size past ws) (hl : past.length ≤ 40) (ho : ∀ z ∈ past, okS z) {s : Str} (hs : okS s) :
    ∃ past' ws' μ', (∀ z ∈ past', okS z) ∧ past'.length ≤ 40 ∧ SpOk M size past' ws' ∧ WatchAt μ' n p A past' ws' ∧ Φ_law_tried [A, .ref n, .lst (past.map .str), .str s] μ = .ok (.lst (past'.map .str)) μ' := by
  have hpo : ∀ z ∈ past ++ [s], okS z := fun z hz => by
    rcases List.mem_append.mp hz with q | q
    · exact ho z q
    · rw [List.mem_singleton.mp q]; exact hs
  -- what comes
  obtain ⟨d, past', ws', ν, hd, hp', hl', ok', W', ec, hdue⟩ : ∃ (d : DueW) (past' : List Str) (ws' : Ws) (ν : Mu), d.ok ∧ (∀ z ∈ past', okS z) ∧ past'.length ≤ 40 ∧ SpOk M size past' ws' ∧ WatchAt ν n p A past' ws' ∧ Φ_law_caught [.ref n, .str s] μ = .ok d.exc ν ∧
      ((past.length = 40 ∧ d = .full ∧ past' = past) ∨ (past.length < 40 ∧ (¬ ∃ sp, M.Reach (past ++ [s]) sp) ∧ d = .no s ∧ past' = past) ∨ (past.length < 40 ∧ (∃ sp, M.Reach (past ++ [s]) sp) ∧ d = .none ∧ past' = past ++ [s])) := by
    by_cases h40 : past.length = 40
    · exact ⟨.full, past, ws, μ, trivial, ho, hl, ok, h, caught_run h s .full μ (see_full h h40 s), .inl ⟨h40, rfl, rfl⟩⟩
    · by_cases hr : ∃ sp, M.Reach (past ++ [s]) sp
      · obtain ⟨ws', μ', a, b, c, _⟩ := caught_ok hM h ok (by omega) hs hr
        exact ⟨.none, past ++ [s], ws', μ', trivial, hpo, by rw [List.length_append, List.length_singleton]; omega, a, c, b, .inr (.inr ⟨by omega, hr, rfl, rfl⟩)⟩
      · exact ⟨.no s, past, ws, μ ++ [.dic []], hs, ho, hl, ok, h.app _, caught_run h s (.no s) _ (see_none hM h ok (by omega) hs hr), .inr (.inl ⟨by omega, hr, rfl, rfl⟩)⟩
  refine ⟨past', ws', ν, hp', hl', ok', W', ?_⟩
  obtain ⟨d', μ', ⟨rfl, rfl⟩, e⟩ := callG_wp (n := 5) (m := m_law_tried) (ds := [A, .ref n, .lst (past.map .str), .str s]) (μ := μ) (fun d' μ' => d' = .lst (past'.map .str) ∧ μ' = ν) (by
    show WP _ _ _ _ (m_law_tried [some A, some (.ref n), some (.lst (past.map .str)), some (.str s), none] μ)
    unfold m_law_tried
    refine wp_seq (wp_set (d := .lst []) (μ' := μ) (ρ' := [some A, some (.ref n), some (.lst (past.map .str)), some (.str s), some (.lst [])]) (by (simp only [ev_cst, ev_var, ev_bin, ev_call, ev_nil, ev_cons, ev_bool, ev_asB, ev_not, ev_and, ev_or, ev_tup, ev_lst, ev_yes, ev_chain, ev_andV2, ev_orV, orB_bb, orB_t, orB_f, andB_bb, andB_t, andB_f, ite_andB, ite_orB, op_is, op_isn, ev_bor, ev_borT, borT_ok, bor_b, bor_i, bor_s, bor_n, bor1, bor2, bora1, bora2, ev_notV, ev_ifE, ev_frzT, ev_met, ev_fld, ev_un, un_neg, ev_dnil, ev_methC, ev_iseq, ev_isi, List.getElem?_cons_succ, List.getElem?_cons_zero, List.set_cons_succ, List.set_cons_zero, Res.bind_ok, Res.of_some, vw_i, vw_b, vw_s, vw_n, vw_t, vw_l, vw_d, vw_k, vw_c, it_l, it_t, it_s, op_add_i, op_sub_i, op_lt_i, op_le_i, op_gt_i, op_ge_i, op_eq_i, op_ne_i, op_eq_b, op_ne_b, bi_len_l, bi_len_t, bi_len_d, bi_len_c, op_ix_0, op_ix_1, op_ix_2, tp1, tp2, tp3, tp4, tp5, mk0, mk1, mk2, mk3, mk4, mk5, if_true, if_false, Bool.false_eq_true, Bool.not_true, Bool.not_false, Bool.true_and, Bool.false_and, Bool.true_or, Bool.false_or, bt_one, bt_tup, bt_lst, sa_nil, sa_cons, wipeD, List.length_map] <;> try rfl)) rfl ?_)
    have ad : ∀ ν, opAdd false (.lst (past.map .str)) (.lst [.str s]) ν = .ok (.lst ((past ++ [s]).map .str)) ν := fun ν => op_add_l (e := D.str) (xs := past) (ys := [s]) ν (by rw [List.length_singleton]; omega)
    -- what is due
    refine wp_seq (wp_mono (N := fun ρ μ' => μ' = μ ∧ ρ = [some A, some (.ref n), some (.lst (past.map .str)), some (.str s), some d.due]) (R := fun _ _ => False) (C := NO) (B := NO) ?_ ?_ (fun _ _ h => h.elim) (fun _ _ h => h.elim) (fun _ _ h => h.elim))
    · refine wp_if (μ' := μ) (b := decide ((past.length : Int) = 40)) (by (simp only [ev_cst, ev_var, ev_bin, ev_call, ev_nil, ev_cons, ev_bool, ev_asB, ev_not, ev_and, ev_or, ev_tup, ev_lst, ev_yes, ev_chain, ev_andV2, ev_orV, orB_bb, orB_t, orB_f, andB_bb, andB_t, andB_f, ite_andB, ite_orB, op_is, op_isn, ev_bor, ev_borT, borT_ok, bor_b, bor_i, bor_s, bor_n, bor1, bor2, bora1, bora2, ev_notV, ev_ifE, ev_frzT, ev_met, ev_fld, ev_un, un_neg, ev_dnil, ev_methC, ev_iseq, ev_isi, List.getElem?_cons_succ, List.getElem?_cons_zero, List.set_cons_succ, List.set_cons_zero, Res.bind_ok, Res.of_some, vw_i, vw_b, vw_s, vw_n, vw_t, vw_l, vw_d, vw_k, vw_c, it_l, it_t, it_s, op_add_i, op_sub_i, op_lt_i, op_le_i, op_gt_i, op_ge_i, op_eq_i, op_ne_i, op_eq_b, op_ne_b, bi_len_l, bi_len_t, bi_len_d, bi_len_c, op_ix_0, op_ix_1, op_ix_2, tp1, tp2, tp3, tp4, tp5, mk0, mk1, mk2, mk3, mk4, mk5, if_true, if_false, Bool.false_eq_true, Bool.not_true, Bool.not_false, Bool.true_and, Bool.false_and, Bool.true_or, Bool.false_or, bt_one, bt_tup, bt_lst, sa_nil, sa_cons, wipeD, List.length_map] <;> try rfl)) (fun hb => ?_) (fun hb => ?_)
      · rw [decide_eq_true_eq] at hb
        have hf : d = .full := by
          rcases hdue with q | q | q
          · exact q.2.1
          · omega
          · omega
        subst hf
        exact wp_set (d := DueW.due .full) (μ' := μ) (by (simp only [ev_cst, ev_var, ev_bin, ev_call, ev_nil, ev_cons, ev_bool, ev_asB, ev_not, ev_and, ev_or, ev_tup, ev_lst, ev_yes, ev_chain, ev_andV2, ev_orV, orB_bb, orB_t, orB_f, andB_bb, andB_t, andB_f, ite_andB, ite_orB, op_is, op_isn, ev_bor, ev_borT, borT_ok, bor_b, bor_i, bor_s, bor_n, bor1, bor2, bora1, bora2, ev_notV, ev_ifE, ev_frzT, ev_met, ev_fld, ev_un, un_neg, ev_dnil, ev_methC, ev_iseq, ev_isi, List.getElem?_cons_succ, List.getElem?_cons_zero, List.set_cons_succ, List.set_cons_zero, Res.bind_ok, Res.of_some, vw_i, vw_b, vw_s, vw_n, vw_t, vw_l, vw_d, vw_k, vw_c, it_l, it_t, it_s, op_add_i, op_sub_i, op_lt_i, op_le_i, op_gt_i, op_ge_i, op_eq_i, op_ne_i, op_eq_b, op_ne_b, bi_len_l, bi_len_t, bi_len_d, bi_len_c, op_ix_0, op_ix_1, op_ix_2, tp1, tp2, tp3, tp4, tp5, mk0, mk1, mk2, mk3, mk4, mk5, if_true, if_false, Bool.false_eq_true, Bool.not_true, Bool.not_false, Bool.true_and, Bool.false_and, Bool.true_or, Bool.false_or, bt_one, bt_tup, bt_lst, sa_nil, sa_cons, wipeD, List.length_map, DueW.due] <;> try rfl)) rfl ⟨rfl, rfl⟩
      · rw [decide_eq_false_iff_not] at hb
        obtain ⟨rs, hrs, ep⟩ := poss_nil hM (past := past ++ [s]) (by rw [List.length_append, List.length_singleton]; omega) hpo
        have nn := op_eq_nil (xs := rs) em_int (by decide) (fun _ _ => trivial)
        generalize (past ++ [s]).map D.str = PS at ad ep
        refine wp_if (μ' := μ) (b := decide (rs = [])) (by
          generalize rs.map D.int = RD at ep nn
          (simp only [ev_cst, ev_var, ev_bin, ev_call, ev_nil, ev_cons, ev_bool, ev_asB, ev_not, ev_and, ev_or, ev_tup, ev_lst, ev_yes, ev_chain, ev_andV2, ev_orV, orB_bb, orB_t, orB_f, andB_bb, andB_t, andB_f, ite_andB, ite_orB, op_is, op_isn, ev_bor, ev_borT, borT_ok, bor_b, bor_i, bor_s, bor_n, bor1, bor2, bora1, bora2, ev_notV, ev_ifE, ev_frzT, ev_met, ev_fld, ev_un, un_neg, ev_dnil, ev_methC, ev_iseq, ev_isi, List.getElem?_cons_succ, List.getElem?_cons_zero, List.set_cons_succ, List.set_cons_zero, Res.bind_ok, Res.of_some, vw_i, vw_b, vw_s, vw_n, vw_t, vw_l, vw_d, vw_k, vw_c, it_l, it_t, it_s, op_add_i, op_sub_i, op_lt_i, op_le_i, op_gt_i, op_ge_i, op_eq_i, op_ne_i, op_eq_b, op_ne_b, bi_len_l, bi_len_t, bi_len_d, bi_len_c, op_ix_0, op_ix_1, op_ix_2, tp1, tp2, tp3, tp4, tp5, mk0, mk1, mk2, mk3, mk4, mk5, if_true, if_false, Bool.false_eq_true, Bool.not_true, Bool.not_false, Bool.true_and, Bool.false_and, Bool.true_or, Bool.false_or, bt_one, bt_tup, bt_lst, sa_nil, sa_cons, wipeD, List.length_map, ad, ep, nn] <;> try rfl)) (fun hb2 => ?_) (fun hb2 => ?_)
        · rw [decide_eq_true_eq] at hb2
          have hf : d = .no s := by
            rcases hdue with q | q | q
            · omega
            · exact q.2.2.1
            · exact absurd q.2.1 (hrs.mp hb2)
          subst hf
          exact wp_set (d := DueW.due (.no s)) (μ' := μ) (by (simp only [ev_cst, ev_var, ev_bin, ev_call, ev_nil, ev_cons, ev_bool, ev_asB, ev_not, ev_and, ev_or, ev_tup, ev_lst, ev_yes, ev_chain, ev_andV2, ev_orV, orB_bb, orB_t, orB_f, andB_bb, andB_t, andB_f, ite_andB, ite_orB, op_is, op_isn, ev_bor, ev_borT, borT_ok, bor_b, bor_i, bor_s, bor_n, bor1, bor2, bora1, bora2, ev_notV, ev_ifE, ev_frzT, ev_met, ev_fld, ev_un, un_neg, ev_dnil, ev_methC, ev_iseq, ev_isi, List.getElem?_cons_succ, List.getElem?_cons_zero, List.set_cons_succ, List.set_cons_zero, Res.bind_ok, Res.of_some, vw_i, vw_b, vw_s, vw_n, vw_t, vw_l, vw_d, vw_k, vw_c, it_l, it_t, it_s, op_add_i, op_sub_i, op_lt_i, op_le_i, op_gt_i, op_ge_i, op_eq_i, op_ne_i, op_eq_b, op_ne_b, bi_len_l, bi_len_t, bi_len_d, bi_len_c, op_ix_0, op_ix_1, op_ix_2, tp1, tp2, tp3, tp4, tp5, mk0, mk1, mk2, mk3, mk4, mk5, if_true, if_false, Bool.false_eq_true, Bool.not_true, Bool.not_false, Bool.true_and, Bool.false_and, Bool.true_or, Bool.false_or, bt_one, bt_tup, bt_lst, sa_nil, sa_cons, wipeD, List.length_map, DueW.due] <;> try rfl)) rfl ⟨rfl, rfl⟩
        · rw [decide_eq_false_iff_not] at hb2
          have hf : d = .none := by
            rcases hdue with q | q | q
            · omega
            · exact absurd (hrs.mpr q.2.1) hb2
            · exact q.2.2.1
          subst hf
          exact wp_skip ⟨rfl, rfl⟩
    rintro ρ μ0 ⟨rfl, rfl⟩
    have fr := f_refused52 d hd
    refine wp_seq (wp_if (μ' := ν) (b := false) (by
      generalize d.exc = EX at ec fr
      generalize d.due = DU at fr ⊢
      (simp only [ev_cst, ev_var, ev_bin, ev_call, ev_nil, ev_cons, ev_bool, ev_asB, ev_not, ev_and, ev_or, ev_tup, ev_lst, ev_yes, ev_chain, ev_andV2, ev_orV, orB_bb, orB_t, orB_f, andB_bb, andB_t, andB_f, ite_andB, ite_orB, op_is, op_isn, ev_bor, ev_borT, borT_ok, bor_b, bor_i, bor_s, bor_n, bor1, bor2, bora1, bora2, ev_notV, ev_ifE, ev_frzT, ev_met, ev_fld, ev_un, un_neg, ev_dnil, ev_methC, ev_iseq, ev_isi, List.getElem?_cons_succ, List.getElem?_cons_zero, List.set_cons_succ, List.set_cons_zero, Res.bind_ok, Res.of_some, vw_i, vw_b, vw_s, vw_n, vw_t, vw_l, vw_d, vw_k, vw_c, it_l, it_t, it_s, op_add_i, op_sub_i, op_lt_i, op_le_i, op_gt_i, op_ge_i, op_eq_i, op_ne_i, op_eq_b, op_ne_b, bi_len_l, bi_len_t, bi_len_d, bi_len_c, op_ix_0, op_ix_1, op_ix_2, tp1, tp2, tp3, tp4, tp5, mk0, mk1, mk2, mk3, mk4, mk5, if_true, if_false, Bool.false_eq_true, Bool.not_true, Bool.not_false, Bool.true_and, Bool.false_and, Bool.true_or, Bool.false_or, bt_one, bt_tup, bt_lst, sa_nil, sa_cons, wipeD, List.length_map, ec, fr] <;> try rfl)) (fun h => by cases h) (fun _ => wp_skip ?_))
    have dn := due_nil d hd ν
    refine wp_seq (wp_mono (N := fun ρ μ' => μ' = ν ∧ ρ = [some A, some (.ref n), some (.lst (past'.map .str)), some (.str s), some d.due]) (R := fun _ _ => False) (C := NO) (B := NO) (wp_if (μ' := ν) (b := d.isNo) (by
      generalize d.isNo = bb at dn ⊢
      generalize d.due = DU at dn ⊢
      (simp only [ev_cst, ev_var, ev_bin, ev_call, ev_nil, ev_cons, ev_bool, ev_asB, ev_not, ev_and, ev_or, ev_tup, ev_lst, ev_yes, ev_chain, ev_andV2, ev_orV, orB_bb, orB_t, orB_f, andB_bb, andB_t, andB_f, ite_andB, ite_orB, op_is, op_isn, ev_bor, ev_borT, borT_ok, bor_b, bor_i, bor_s, bor_n, bor1, bor2, bora1, bora2, ev_notV, ev_ifE, ev_frzT, ev_met, ev_fld, ev_un, un_neg, ev_dnil, ev_methC, ev_iseq, ev_isi, List.getElem?_cons_succ, List.getElem?_cons_zero, List.set_cons_succ, List.set_cons_zero, Res.bind_ok, Res.of_some, vw_i, vw_b, vw_s, vw_n, vw_t, vw_l, vw_d, vw_k, vw_c, it_l, it_t, it_s, op_add_i, op_sub_i, op_lt_i, op_le_i, op_gt_i, op_ge_i, op_eq_i, op_ne_i, op_eq_b, op_ne_b, bi_len_l, bi_len_t, bi_len_d, bi_len_c, op_ix_0, op_ix_1, op_ix_2, tp1, tp2, tp3, tp4, tp5, mk0, mk1, mk2, mk3, mk4, mk5, if_true, if_false, Bool.false_eq_true, Bool.not_true, Bool.not_false, Bool.true_and, Bool.false_and, Bool.true_or, Bool.false_or, bt_one, bt_tup, bt_lst, sa_nil, sa_cons, wipeD, List.length_map, dn] <;> try rfl)) (fun hb => ?_) (fun hb => wp_skip ?_)) ?_ (fun _ _ h => h.elim) (fun _ _ h => h.elim) (fun _ _ h => h.elim))
    · have hf : past' = past ++ [s] := by
        rcases hdue with q | q | q
        · rw [q.2.1] at hb; cases hb
        · rw [q.2.2.1] at hb; cases hb
        · exact q.2.2.2
      subst hf
      exact wp_set (d := .lst ((past ++ [s]).map .str)) (μ' := ν) (by (simp only [ev_cst, ev_var, ev_bin, ev_call, ev_nil, ev_cons, ev_bool, ev_asB, ev_not, ev_and, ev_or, ev_tup, ev_lst, ev_yes, ev_chain, ev_andV2, ev_orV, orB_bb, orB_t, orB_f, andB_bb, andB_t, andB_f, ite_andB, ite_orB, op_is, op_isn, ev_bor, ev_borT, borT_ok, bor_b, bor_i, bor_s, bor_n, bor1, bor2, bora1, bora2, ev_notV, ev_ifE, ev_frzT, ev_met, ev_fld, ev_un, un_neg, ev_dnil, ev_methC, ev_iseq, ev_isi, List.getElem?_cons_succ, List.getElem?_cons_zero, List.set_cons_succ, List.set_cons_zero, Res.bind_ok, Res.of_some, vw_i, vw_b, vw_s, vw_n, vw_t, vw_l, vw_d, vw_k, vw_c, it_l, it_t, it_s, op_add_i, op_sub_i, op_lt_i, op_le_i, op_gt_i, op_ge_i, op_eq_i, op_ne_i, op_eq_b, op_ne_b, bi_len_l, bi_len_t, bi_len_d, bi_len_c, op_ix_0, op_ix_1, op_ix_2, tp1, tp2, tp3, tp4, tp5, mk0, mk1, mk2, mk3, mk4, mk5, if_true, if_false, Bool.false_eq_true, Bool.not_true, Bool.not_false, Bool.true_and, Bool.false_and, Bool.true_or, Bool.false_or, bt_one, bt_tup, bt_lst, sa_nil, sa_cons, wipeD, List.length_map, ad] <;> try rfl)) rfl ⟨rfl, rfl⟩
    · have hf : past' = past := by
        rcases hdue with q | q | q
        · exact q.2.2
        · exact q.2.2.2
        · rw [q.2.2.1] at hb; cases hb
      subst hf
      exact ⟨rfl, rfl⟩
    rintro ρ μ0 ⟨rfl, rfl⟩
    have few := ok'.few hM.s8
    have sg := f_W_sights W' (by omega)
    have rm := f_W_rooms W' (by omega)
    have vr := f_W_verdict W' (by omega)
    have ic : insC (vw μ0 (.ref n)) = some 1 := by rw [vw_cI W'.ob]; rfl
    have ps := poss_of hM ok' (by omega) hp'
    have vs := verd_of hM ok' (by omega) hp'
    have n1 := ne_strs hp' μ0
    have n2 := ne_ints (ssI (roomsW ws')) μ0
    have n3 := ne_v (ok_vdU (fl := (keysW ws').map (·.2))) μ0
    generalize vd ((keysW ws').map (·.2)) = V at vr vs n3
    generalize (ssI (roomsW ws')).map D.int = RD at rm ps n2
    generalize past'.map D.str = PD at sg ps vs n1 ⊢
    refine wp_seq (wp_if (μ' := μ0) (b := false) (by (simp only [ev_cst, ev_var, ev_bin, ev_call, ev_nil, ev_cons, ev_bool, ev_asB, ev_not, ev_and, ev_or, ev_tup, ev_lst, ev_yes, ev_chain, ev_andV2, ev_orV, orB_bb, orB_t, orB_f, andB_bb, andB_t, andB_f, ite_andB, ite_orB, op_is, op_isn, ev_bor, ev_borT, borT_ok, bor_b, bor_i, bor_s, bor_n, bor1, bor2, bora1, bora2, ev_notV, ev_ifE, ev_frzT, ev_met, ev_fld, ev_un, un_neg, ev_dnil, ev_methC, ev_iseq, ev_isi, List.getElem?_cons_succ, List.getElem?_cons_zero, List.set_cons_succ, List.set_cons_zero, Res.bind_ok, Res.of_some, vw_i, vw_b, vw_s, vw_n, vw_t, vw_l, vw_d, vw_k, vw_c, it_l, it_t, it_s, op_add_i, op_sub_i, op_lt_i, op_le_i, op_gt_i, op_ge_i, op_eq_i, op_ne_i, op_eq_b, op_ne_b, bi_len_l, bi_len_t, bi_len_d, bi_len_c, op_ix_0, op_ix_1, op_ix_2, tp1, tp2, tp3, tp4, tp5, mk0, mk1, mk2, mk3, mk4, mk5, if_true, if_false, Bool.false_eq_true, Bool.not_true, Bool.not_false, Bool.true_and, Bool.false_and, Bool.true_or, Bool.false_or, bt_one, bt_tup, bt_lst, sa_nil, sa_cons, wipeD, List.length_map, ic, sg, n1, rm, ps, n2] <;> try rfl)) (fun h => by cases h) (fun _ => wp_skip ?_))
    refine wp_seq (wp_if (μ' := μ0) (b := false) (by (simp only [ev_cst, ev_var, ev_bin, ev_call, ev_nil, ev_cons, ev_bool, ev_asB, ev_not, ev_and, ev_or, ev_tup, ev_lst, ev_yes, ev_chain, ev_andV2, ev_orV, orB_bb, orB_t, orB_f, andB_bb, andB_t, andB_f, ite_andB, ite_orB, op_is, op_isn, ev_bor, ev_borT, borT_ok, bor_b, bor_i, bor_s, bor_n, bor1, bor2, bora1, bora2, ev_notV, ev_ifE, ev_frzT, ev_met, ev_fld, ev_un, un_neg, ev_dnil, ev_methC, ev_iseq, ev_isi, List.getElem?_cons_succ, List.getElem?_cons_zero, List.set_cons_succ, List.set_cons_zero, Res.bind_ok, Res.of_some, vw_i, vw_b, vw_s, vw_n, vw_t, vw_l, vw_d, vw_k, vw_c, it_l, it_t, it_s, op_add_i, op_sub_i, op_lt_i, op_le_i, op_gt_i, op_ge_i, op_eq_i, op_ne_i, op_eq_b, op_ne_b, bi_len_l, bi_len_t, bi_len_d, bi_len_c, op_ix_0, op_ix_1, op_ix_2, tp1, tp2, tp3, tp4, tp5, mk0, mk1, mk2, mk3, mk4, mk5, if_true, if_false, Bool.false_eq_true, Bool.not_true, Bool.not_false, Bool.true_and, Bool.false_and, Bool.true_or, Bool.false_or, bt_one, bt_tup, bt_lst, sa_nil, sa_cons, wipeD, List.length_map, ic, vr, vs, n3] <;> try rfl)) (fun h => by cases h) (fun _ => wp_skip ?_))
    exact wp_ret (d := .lst PD) (μ' := μ0) (by (simp only [ev_cst, ev_var, ev_bin, ev_call, ev_nil, ev_cons, ev_bool, ev_asB, ev_not, ev_and, ev_or, ev_tup, ev_lst, ev_yes, ev_chain, ev_andV2, ev_orV, orB_bb, orB_t, orB_f, andB_bb, andB_t, andB_f, ite_andB, ite_orB, op_is, op_isn, ev_bor, ev_borT, borT_ok, bor_b, bor_i, bor_s, bor_n, bor1, bor2, bora1, bora2, ev_notV, ev_ifE, ev_frzT, ev_met, ev_fld, ev_un, un_neg, ev_dnil, ev_methC, ev_iseq, ev_isi, List.getElem?_cons_succ, List.getElem?_cons_zero, List.set_cons_succ, List.set_cons_zero, Res.bind_ok, Res.of_some, vw_i, vw_b, vw_s, vw_n, vw_t, vw_l, vw_d, vw_k, vw_c, it_l, it_t, it_s, op_add_i, op_sub_i, op_lt_i, op_le_i, op_gt_i, op_ge_i, op_eq_i, op_ne_i, op_eq_b, op_ne_b, bi_len_l, bi_len_t, bi_len_d, bi_len_c, op_ix_0, op_ix_1, op_ix_2, tp1, tp2, tp3, tp4, tp5, mk0, mk1, mk2, mk3, mk4, mk5, if_true, if_false, Bool.false_eq_true, Bool.not_true, Bool.not_false, Bool.true_and, Bool.false_and, Bool.true_or, Bool.false_or, bt_one, bt_tup, bt_lst, sa_nil, sa_cons, wipeD, List.length_map] <;> try rfl)) ⟨rfl, rfl⟩)
  exact e
end
end SB
set_option Elab.async false
set_option linter.all false
set_option maxRecDepth 10000
namespace SB
open PySem L2
theorem cl_mc (size : Nat) (bs : List Int) (kn : List Mv) (sg : List (Str × Str)) (fs : List Str) : closed (mcD size bs kn sg fs) = true := by
  have e : closeds ((List.range size).map fun r : Nat => rowD (kn.filter fun m => decide (m.h = (r : Int)))) = true := closeds_map (fun r => by simp only [closed, cl_mvs]) _
  simp only [closed, closeds, cl_ints, cl_mvs, closede_sg, cl_strs, e, Bool.and_self]
theorem cls_mc (size : Nat) (bs : List Int) (kn : List Mv) (sg : List (Str × Str)) (fs : List Str) (xs : List D) : closeds (mcD size bs kn sg fs :: xs) = closeds xs := by
  show (closed (mcD size bs kn sg fs) && closeds xs) = closeds xs
  rw [cl_mc, Bool.true_and]
section
variable {size : Nat} {bs : List Int} {kn : List Mv} {sg : List (Str × Str)} {fs : List Str}
theorem f_starts (h : bs.length ≤ 1000) (μ : Mu) : Φ_Machine_starts [mcD size bs kn sg fs] μ = .ok (.lst (bs.map .int)) μ := by
  refine callP_rt (by rw [cls_mc]; rfl) (μ' := []) ?_ (by simp only [closed, cl_ints]) μ
  rw [show startD 1 [mcD size bs kn sg fs] = [some (mcD size bs kn sg fs)] from rfl]
  have e : biList false [.lst (bs.map .int)] [] = .ok (.lst (bs.map .int)) [] := mkL_f (sz (by rw [List.length_map]; omega))
  simp only [m_Machine_starts, ev_ret, ev_call, ev_cons, ev_nil, dFld, ev_var, List.getElem?_cons_zero, Res.bind_ok, vw_k, if_true, List.getElem?_cons_succ, Res.of_some, e, out_ok]
theorem f_moves (h : kn.length ≤ 1000) (μ : Mu) : Φ_Machine_moves [mcD size bs kn sg fs] μ = .ok (.lst (kn.map mvD)) μ := by
  refine callP_rt (by rw [cls_mc]; rfl) (μ' := []) ?_ (by simp only [closed, cl_mvs]) μ
  rw [show startD 1 [mcD size bs kn sg fs] = [some (mcD size bs kn sg fs)] from rfl]
  have e : biList false [.lst (kn.map mvD)] [] = .ok (.lst (kn.map mvD)) [] := mkL_f (sz (by rw [List.length_map]; omega))
  simp only [m_Machine_moves, ev_ret, ev_call, ev_cons, ev_nil, dFld, ev_var, List.getElem?_cons_zero, Res.bind_ok, vw_k, if_true, List.getElem?_cons_succ, Res.of_some, e, out_ok]
theorem f_sign_of (z : Str) (μ : Mu) : Φ_Machine_sign_of [mcD size bs kn sg fs, .str z] μ = .ok (optD (getS sg z)) μ := by
  refine callP_rt (by rw [cls_mc]; rfl) (μ' := []) ?_ (by cases getS sg z <;> rfl) μ
  rw [show startD 2 [mcD size bs kn sg fs, .str z] = [some (mcD size bs kn sg fs), some (.str z)] from rfl]
  have e : isDic (.dic (sg.map sgD)) [] = true := rfl
  simp only [m_Machine_sign_of, ev_ret, dGet, dFld, ev_var, List.getElem?_cons_zero, Res.bind_ok, vw_k, if_true, List.getElem?_cons_succ, Res.of_some, e, vw_d, kfits_sg, dget_sg, out_ok]
theorem f_is_fault (z : Str) (hz : okS z) (hf : ∀ w ∈ fs, okS w) (μ : Mu) : Φ_Machine_is_fault [mcD size bs kn sg fs, .str z] μ = .ok (.bl (decide (z ∈ fs))) μ := by
  refine callP_rt (by rw [cls_mc]; rfl) (μ' := []) ?_ rfl μ
  rw [show startD 2 [mcD size bs kn sg fs, .str z] = [some (mcD size bs kn sg fs), some (.str z)] from rfl]
  have e := em_str.opIn (a := z) (xs := fs) (by decide) hz hf []
  simp only [m_Machine_is_fault, ev_ret, ev_bin, dFld, ev_var, List.getElem?_cons_zero, Res.bind_ok, vw_k, if_true, List.getElem?_cons_succ, Res.of_some, e, out_ok]
theorem f_moves_from (h1 : size ≤ 8) (hk : kn.length ≤ 1000) (r : Int) (h0 : 0 ≤ r) (hr : r < size) (μ : Mu) : Φ_moves_from [mcD size bs kn sg fs, .int r] μ = .ok (.lst ((kn.filter fun m => decide (m.h = r)).map mvD)) μ := by
  refine callP_wpe (by rw [cls_mc]; rfl) (by simp only [closed, cl_mvs]) ?_ μ
  show WP _ _ _ _ (m_moves_from [some (mcD size bs kn sg fs), some (.int r)] [])
  obtain ⟨n, rfl⟩ : ∃ n : Nat, r = n := ⟨r.toNat, by omega⟩
  have ix : opIx (.lst ((List.range size).map fun r : Nat => rowD (kn.filter fun m => decide (m.h = (r : Int))))) (.int n) [] = .ok (.lst ((kn.filter fun m => decide (m.h = (n : Int))).map mvD)) [] := op_ix_l (by
    rw [atI_nat, List.getElem?_map, List.getElem?_range (by omega)]; rfl)
  have hl := List.length_filter_le (fun m : Mv => decide (m.h = (n : Int))) kn
  have lb : biList false [.lst ((kn.filter fun m => decide (m.h = (n : Int))).map mvD)] [] = .ok (.lst ((kn.filter fun m => decide (m.h = (n : Int))).map mvD)) [] := mkL_f (sz (by rw [List.length_map]; omega))
  have fl : dFld 0 3 (dVar 0) [some (mcD size bs kn sg fs), some (.int (n : Int))] [] = .ok (.lst ((List.range size).map fun r : Nat => rowD (kn.filter fun m => decide (m.h = (r : Int))))) [] := rfl
  exact wp_ret (by rw [ev_call, ev_cons, ev_bin, fl]; (simp only [ev_cst, ev_var, ev_bin, ev_call, ev_nil, ev_cons, ev_bool, ev_asB, ev_not, ev_and, ev_or, ev_tup, ev_lst, ev_yes, ev_chain, ev_andV2, ev_orV, orB_bb, orB_t, orB_f, andB_bb, andB_t, andB_f, ite_andB, ite_orB, op_is, op_isn, ev_bor, ev_borT, borT_ok, bor_b, bor_i, bor_s, bor_n, bor1, bor2, bora1, bora2, ev_notV, ev_ifE, ev_frzT, ev_met, ev_fld, ev_un, un_neg, ev_dnil, ev_methC, ev_iseq, ev_isi, List.getElem?_cons_succ, List.getElem?_cons_zero, List.set_cons_succ, List.set_cons_zero, Res.bind_ok, Res.of_some, vw_i, vw_b, vw_s, vw_n, vw_t, vw_l, vw_d, vw_k, vw_c, it_l, it_t, it_s, op_add_i, op_sub_i, op_lt_i, op_le_i, op_gt_i, op_ge_i, op_eq_i, op_ne_i, op_eq_b, op_ne_b, bi_len_l, bi_len_t, bi_len_d, bi_len_c, op_ix_0, op_ix_1, op_ix_2, tp1, tp2, tp3, tp4, tp5, mk0, mk1, mk2, mk3, mk4, mk5, if_true, if_false, Bool.false_eq_true, Bool.not_true, Bool.not_false, Bool.true_and, Bool.false_and, Bool.true_or, Bool.false_or, bt_one, bt_tup, bt_lst, sa_nil, sa_cons, wipeD, List.length_map, ix, lb] <;> try rfl)) rfl
theorem mc_ok (s1 : 1 ≤ size) (s8 : size ≤ 8) (hb : ∀ r ∈ bs, 0 ≤ r ∧ r < size) (hbl : bs.length ≤ 64) (hbn : bs.Nodup) (hk : ∀ m ∈ kn, (0 ≤ m.h ∧ m.h < size) ∧ okS m.d ∧ 0 ≤ m.t ∧ m.t < size) (hkl : kn.length ≤ 24) (hg : ∀ p ∈ sg, okS p.2) (hf : ∀ w ∈ fs, okS w) : McD (mcD size bs kn sg fs) ⟨bs, kn, sg, fs⟩ size where
  cl := cl_mc _ _ _ _ _
  ic := fun _ => rfl
  s1 := s1
  s8 := s8
  st := hb
  knh := fun m h => (hk m h).1
  knt := fun m h => (hk m h).2.2
  kno := fun m h => (hk m h).2.1
  sgo := hg
  stl := hbl
  knl := hkl
  stn := hbn
  starts := f_starts (by omega)
  moves := f_moves (by omega)
  sign_of := f_sign_of
  is_fault := fun z hz => f_is_fault z hz hf
  from_ := f_moves_from s8 (by omega)
end
/-- a machine made of the parts -/
theorem f_make {size : Nat} {rs : List Int} {ms : List Mv} {sg : List (Str × Str)} {fs : List Str} (s1 : 1 ≤ size) (s8 : size ≤ 8) (hr : ∀ r ∈ rs, 0 ≤ r ∧ r < size) (hrl : rs.length < 64) (hm : ∀ m ∈ ms, 0 ≤ m.h ∧ m.h < size ∧ wordOk m.d ∧ 0 ≤ m.t ∧ m.t < size) (hml : ms.length ≤ 24)
    (hg : ∀ p ∈ sg, wordOk p.1 ∧ wordOk p.2) (hf : ∀ w ∈ fs, wordOk w) (hfl : fs.length ≤ 100) :
    ∃ A M, McD A M size ∧ (∀ r, r ∈ M.st ↔ r ∈ rs) ∧ (∀ m, m ∈ M.kn ↔ m ∈ ms) ∧ M.sg = sg ∧ M.fs = fs ∧ ∀ {fsE : DEs} {ρ : Ev} {μ : Mu}, fsE ρ μ = .ok [.int size, .lst (rs.map .int), .lst (ms.map mvD), .dic (sg.map sgD), .lst (fs.map .str)] μ →
      dMake false 0 fsE Φ_Machine_init ρ μ = .ok A (μ ++ [.fz A]) := by
  have hbr : ∀ x, x ∈ ssI rs ↔ x ∈ rs := fun x => ssI_mem
  have hbl := ssI_len rs
  have hbs : ∀ (f : DE) (ρ : Ev) (μ μ' : Mu), f ρ μ = .ok (.lst (rs.map .int)) μ' → dSortSet false f ρ μ = .ok (.lst ((ssI rs).map .int)) μ' := fun f ρ μ μ' hf => by
    rw [ev_ssI hrl hf]
    exact mkL_f (sz (by rw [List.length_map]; omega))
  have hbn := ssI_nd rs
  generalize ssI rs = bs at hbr hbl hbs hbn
  obtain ⟨kn, hkm, hkl, hkn⟩ := sset_mv ms (by omega)
  have hmk : ∀ m ∈ kn, 0 ≤ m.h ∧ m.h < size ∧ wordOk m.d ∧ 0 ≤ m.t ∧ m.t < size := fun m h => hm m ((hkm m).mp h)
  refine ⟨mcD size bs kn sg fs, ⟨bs, kn, sg, fs⟩, mc_ok s1 s8 (fun r h => hr r ((hbr r).mp h)) (by omega) hbn (fun m h => ⟨⟨(hmk m h).1, (hmk m h).2.1⟩, okS_of (hmk m h).2.2.1.2.2, (hmk m h).2.2.2⟩) (by omega) (fun p h => okS_of (hg p h).2.2.2) (fun w h => okS_of (hf w h).2.2), hbr, hkm, rfl, rfl, fun {fsE ρ μ} ha => f_Machine size rs ms sg fs bs kn s1 s8 hr hm hml hg hf (by omega) hbs hkn (by omega) ha⟩
end SB
set_option Elab.async false
set_option linter.all false
set_option maxRecDepth 10000
namespace SB
open PySem L2
structure SgOk (sg : List (Str × Str)) : Prop where
  ok : ∀ p ∈ sg, wordOk p.1 ∧ wordOk p.2
  nd : (sg.map (·.1)).Nodup
theorem putS_nd {sg : List (Str × Str)} (h : (sg.map (·.1)).Nodup) (k v : Str) : ((putS sg k v).map (·.1)).Nodup := by
  unfold putS
  split
  · have e : (sg.map fun p => if decide (p.1 = k) then (p.1, v) else p).map (·.1) = sg.map (·.1) := by
      rw [List.map_map]
      refine List.map_congr_left fun p _ => ?_
      show (if decide (p.1 = k) then (p.1, v) else p).1 = p.1
      split <;> rfl
    rw [e]; exact h
  · rename_i hn
    rw [List.map_append]
    refine nd_snoc h fun hm => hn ?_
    obtain ⟨p, hp, e⟩ := List.mem_map.mp hm
    exact List.any_eq_true.mpr ⟨p, hp, decide_eq_true e⟩
theorem f_law_signs_L (deeds spare : List Str) (c : Int) (hb : Builtin.Int.intBits c ≤ 134000000) (hd : ∀ w ∈ deeds, wordOk w) (hs : spare.length = 5) (hso : ∀ w ∈ spare, wordOk w) (hl : deeds.length ≤ 100) :
    ∃ sg : List (Str × Str), SgOk sg ∧ sg.length ≤ deeds.length ∧ Φ_law_signs_L [.lst (deeds.map .str), .int c, .lst (spare.map .str)] [] = .ok (.ref 0) [.dic (sg.map sgD)] := by
  suffices h : ∃ sg : List (Str × Str), SgOk sg ∧ sg.length ≤ deeds.length ∧ m_law_signs_L [some (.lst (deeds.map .str)), some (.int c), some (.lst (spare.map .str)), none, none, none, none] [] = .rt (.ref 0) [.dic (sg.map sgD)] by
    obtain ⟨sg, h1, h2, h3⟩ := h
    refine ⟨sg, h1, h2, ?_⟩
    show callG 7 m_law_signs_L _ _ = _
    unfold callG
    rw [show startD 7 [.lst (deeds.map .str), .int c, .lst (spare.map .str)] = [some (.lst (deeds.map .str)), some (.int c), some (.lst (spare.map .str)), none, none, none, none] from rfl, h3]
  unfold m_law_signs_L
  have hN0 : (0 : Int) ≤ c * 1000000007 % 2147483647 := Int.emod_nonneg _ (by decide)
  have hN1 : c * 1000000007 % 2147483647 < 2147483647 := Int.emod_lt_of_pos _ (by decide)
  have hm : opMulA false (.int c) (.int 1000000007) [] = .ok (.int (c * 1000000007)) [] := op_mul_s hb (by decide)
  generalize c * 1000000007 = N0 at hm hN0 hN1
  rw [seq_nx (ρ' := [some (.lst (deeds.map .str)), some (.int c), some (.lst (spare.map .str)), some (.int (N0 % 2147483647)), none, none, none]) (μ' := []) (by simp [hm, op_mod_i])]
  generalize N0 % 2147483647 = N at hN0 hN1
  rw [seq_nx (ρ' := [some (.lst (deeds.map .str)), some (.int c), some (.lst (spare.map .str)), some (.int N), some (.ref 0), none, none]) (μ' := [.dic []]) (by simp [dDnil])]
  obtain ⟨s0, s1, s2, s3, s4, rfl⟩ : ∃ a b c d e, spare = [a, b, c, d, e] := by
    match spare, hs with
    | [a, b, c, d, e], _ => exact ⟨a, b, c, d, e, rfl⟩
  have w0 : wordOk s0 := hso s0 (by simp)
  have w1 : wordOk s1 := hso s1 (by simp)
  have w4 : wordOk s4 := hso s4 (by simp)
  have loop := sForL_nx (t := .one 5) (g := (sSeq (sSet 6 (dBin (dVar 3) (dCst (.int 7)) opMod))
    (sSeq (sIf (dBool (dBin (dVar 6) (dCst (.int 5)) opLt)) (sSub (dVar 4) (dVar 5) (dBin (dLst false (dCons (dBin (dVar 2) (dCst (.int 0)) opIx) (dCons (dBin (dVar 2) (dCst (.int 1)) opIx) (dCons (dBin (dVar 2) (dCst (.int 0)) opIx) (dCons (dVar 5) (dCons (dBin (dVar 2) (dCst (.int 4)) opIx) dNil)))))) (dVar 6) opIx)) sSkip)
    (sSet 3 (dBin (dVar 3) (dCst (.int 7)) opFdiv)))))
    (fun k ρ μ => k ≤ deeds.length → ∃ sg n x y, μ = [.dic (sg.map sgD)] ∧ ρ = [some (.lst (deeds.map .str)), some (.int c), some (.lst ([s0, s1, s2, s3, s4].map .str)), some (.int n), some (.ref 0), x, y] ∧ 0 ≤ n ∧ SgOk sg ∧ sg.length ≤ k) (deeds.map .str) 0
    [some (.lst (deeds.map .str)), some (.int c), some (.lst ([s0, s1, s2, s3, s4].map .str)), some (.int N), some (.ref 0), none, none] [.dic []] (fun _ => ⟨[], N, none, none, rfl, rfl, hN0, ⟨(fun p hp => by cases hp), List.nodup_nil⟩, Nat.le_refl _⟩) (fun i d ρ μ hdd hi => by
      rw [List.getElem?_map] at hdd
      obtain ⟨w, hw, rfl⟩ := Option.map_eq_some_iff.mp hdd
      have hwm := List.mem_of_getElem? hw
      have hlt : i < deeds.length := (List.getElem?_eq_some_iff.mp hw).1
      obtain ⟨sg, n, x, y, rfl, rfl, hn, hsg, hlen⟩ := hi (by omega)
      have d7 : ∀ μ, opFdiv (.int n) (.int 7) μ = .ok (.int (n / 7)) μ := fun μ => op_div_s (by decide) (by decide)
      refine ⟨_, rfl, ?_⟩
      by_cases h5 : n % 7 < 5
      · obtain ⟨k, hk⟩ : ∃ k : Nat, n % 7 = (k : Int) := ⟨(n % 7).toNat, by omega⟩
        obtain ⟨v, hv, hvw⟩ : ∃ v, ([s0, s1, s0, w, s4] : List Str)[k]? = some v ∧ wordOk v := by
          have : k = 0 ∨ k = 1 ∨ k = 2 ∨ k = 3 ∨ k = 4 := by omega
          rcases this with rfl | rfl | rfl | rfl | rfl
          · exact ⟨s0, rfl, w0⟩
          · exact ⟨s1, rfl, w1⟩
          · exact ⟨s0, rfl, w0⟩
          · exact ⟨w, rfl, hd w hwm⟩
          · exact ⟨s4, rfl, w4⟩
        refine ⟨[some (.lst (deeds.map .str)), some (.int c), some (.lst ([s0, s1, s2, s3, s4].map .str)), some (.int (n / 7)), some (.ref 0), some (.str w), some (.int (n % 7))], [.dic ((putS sg w v).map sgD)], .inl ?_, fun _ => ⟨putS sg w v, n / 7, _, _, rfl, rfl, by omega, ⟨fun p hp => ?_, putS_nd hsg.2 w v⟩, by have := putS_len sg w v; omega⟩⟩
        · have i0 : ∀ μ, opIx (.lst ([s0, s1, s2, s3, s4].map .str)) (.int 0) μ = .ok (.str s0) μ := fun μ => ix_str (k := 0) rfl μ
          have i1 : ∀ μ, opIx (.lst ([s0, s1, s2, s3, s4].map .str)) (.int 1) μ = .ok (.str s1) μ := fun μ => ix_str (k := 1) rfl μ
          have i4 : ∀ μ, opIx (.lst ([s0, s1, s2, s3, s4].map .str)) (.int 4) μ = .ok (.str s4) μ := fun μ => ix_str (k := 4) rfl μ
          have ik : ∀ μ, opIx (.lst [.str s0, .str s1, .str s0, .str w, .str s4]) (.int (n % 7)) μ = .ok (.str v) μ := fun μ => by rw [hk]; exact ix_str (ws := [s0, s1, s0, w, s4]) hv μ
          have st : setIxD (.ref 0) (.str w) (.str v) [.dic (sg.map sgD)] = some [.dic ((putS sg w v).map sgD)] := by
            unfold setIxD
            simp only [List.getElem?_cons_zero, kfits_sg, dput_sg, Bool.true_and]
            rw [if_pos (by rw [List.length_map, decide_eq_true_eq, sizeLine_eq]; omega)]; rfl
          have mk : ∀ μ, mkL false [.str s0, .str s1, .str s0, .str w, .str s4] μ = .ok (.lst [.str s0, .str s1, .str s0, .str w, .str s4]) μ := fun μ => mkL_f (sz (by show 5 ≤ 16777216; decide))
          simp only [ev_seq, ev_set, ev_bin, ev_var, ev_cst, List.set_cons_succ, List.set_cons_zero, List.getElem?_cons_succ, List.getElem?_cons_zero, Res.bind_ok, out_ok, op_mod_i (show (0 : Int) < 7 by decide), ev_if, ev_bool, op_lt_i, ev_asB, h5, decide_true, if_true, sSub, ev_lst, ev_cons, ev_nil, i0, i1, i4, mk, ik, st, d7]
        · rcases putS_mem hp with hp | ⟨hp1, hp2⟩
          · exact hsg.1 p hp
          · rw [hp2]
            refine ⟨?_, hvw⟩
            rcases hp1 with e | ⟨q, hq, e⟩
            · rw [e]; exact hd w hwm
            · rw [← e]; exact (hsg.1 q hq).1
      · refine ⟨[some (.lst (deeds.map .str)), some (.int c), some (.lst ([s0, s1, s2, s3, s4].map .str)), some (.int (n / 7)), some (.ref 0), some (.str w), some (.int (n % 7))], [.dic (sg.map sgD)], .inl ?_, fun _ => ⟨sg, n / 7, _, _, rfl, rfl, by omega, hsg, by omega⟩⟩
        simp only [ev_seq, ev_set, ev_bin, ev_var, ev_cst, List.set_cons_succ, List.set_cons_zero, List.getElem?_cons_succ, List.getElem?_cons_zero, Res.bind_ok, out_ok, op_mod_i (show (0 : Int) < 7 by decide), ev_if, ev_bool, op_lt_i, ev_asB, h5, decide_false, Bool.false_eq_true, if_false, ev_skip, d7])
  obtain ⟨ρ1, μ1, e1, h1⟩ := loop
  rw [List.length_map] at h1
  obtain ⟨sg, n, x, y, rfl, rfl, _, hsg, hlen⟩ := h1 (by omega)
  refine ⟨sg, hsg, by omega, ?_⟩
  rw [seq_nx (by simp only [ev_for, ev_iseq, ev_var, List.getElem?_cons_zero, Res.bind_ok, it_l, Res.of_some, out_ok]; exact e1)]
  simp only [ev_ret, ev_var, List.getElem?_cons_succ, List.getElem?_cons_zero, out_ok]
abbrev partsL (size : Nat) (rs : List Int) (ms : List Mv) (fs : List Str) : D := .lst [.int size, .lst (rs.map .int), .lst (ms.map mvD), .ref 0, .lst (fs.map .str)]
theorem f_law_parts_L (ns : List Int) (hl : ns.length ≤ 63) (hb : ∀ z ∈ ns, Builtin.Int.intBits z ≤ 1048576) (most : Nat) (hm : most ≤ 100) :
    ∃ size rs ms sg fs deeds, PartsOk most size rs ms sg fs deeds ∧ (sg.map (·.1)).Nodup ∧ Φ_law_parts_L [.scr ns, .int 0, .int most] [] = .ok (partsL size rs ms fs) [.dic (sg.map sgD)] := by
  suffices h : ∃ size rs ms sg fs deeds, PartsOk most size rs ms sg fs deeds ∧ (sg.map (·.1)).Nodup ∧ m_law_parts_L [some (.scr ns), some (.int 0), some (.int most), none, none, none, none, none, none, none, none, none] [] = .rt (partsL size rs ms fs) [.dic (sg.map sgD)] by
    obtain ⟨size, rs, ms, sg, fs, deeds, h1, h2, h3⟩ := h
    refine ⟨size, rs, ms, sg, fs, deeds, h1, h2, ?_⟩
    show callG 12 m_law_parts_L _ _ = _
    unfold callG
    rw [show startD 12 [.scr ns, .int 0, .int most] = [some (.scr ns), some (.int 0), some (.int most), none, none, none, none, none, none, none, none, none] from rfl, h3]
  have cb := cellOf_bits hb
  unfold m_law_parts_L
  have c0 : ∀ μ, Φ_law_cell [.scr ns, .int 0] μ = .ok (.int (cellOf ns 0)) μ := fun μ => f_law_cell ns 0 μ
  have c1 : ∀ μ, Φ_law_cell [.scr ns, .int 1] μ = .ok (.int (cellOf ns 1)) μ := fun μ => f_law_cell ns 1 μ
  have c2 : ∀ μ, Φ_law_cell [.scr ns, .int 2] μ = .ok (.int (cellOf ns 2)) μ := fun μ => f_law_cell ns 2 μ
  have c3 : ∀ μ, Φ_law_cell [.scr ns, .int 3] μ = .ok (.int (cellOf ns 3)) μ := fun μ => f_law_cell ns 3 μ
  have b0 := cb 0
  have b1 := cb 1
  have b2 := cb 2
  have b3 := cb 3
  generalize cellOf ns 0 = x0 at c0 b0
  generalize cellOf ns 1 = x1 at c1 b1
  generalize cellOf ns 2 = x2 at c2 b2
  generalize cellOf ns 3 = x3 at c3 b3
  rw [seq_nx (ρ' := [some (.scr ns), some (.int 0), some (.int most), some (.int x0), none, none, none, none, none, none, none, none]) (μ' := []) (by simp [c0])]
  -- the size
  obtain ⟨k0, hk0⟩ : ∃ k : Nat, x0 % 8 = (k : Int) := ⟨(x0 % 8).toNat, by omega⟩
  obtain ⟨size, hsz, hs1, hs8⟩ : ∃ size : Nat, ([D.int 2, .int 3, .int 4, .int 3, .int 5, .int 1, .int 4, .int 8] : List D)[k0]? = some (.int size) ∧ 1 ≤ size ∧ size ≤ 8 := by
    have : k0 = 0 ∨ k0 = 1 ∨ k0 = 2 ∨ k0 = 3 ∨ k0 = 4 ∨ k0 = 5 ∨ k0 = 6 ∨ k0 = 7 := by omega
    rcases this with rfl | rfl | rfl | rfl | rfl | rfl | rfl | rfl
    · exact ⟨2, rfl, by decide, by decide⟩
    · exact ⟨3, rfl, by decide, by decide⟩
    · exact ⟨4, rfl, by decide, by decide⟩
    · exact ⟨3, rfl, by decide, by decide⟩
    · exact ⟨5, rfl, by decide, by decide⟩
    · exact ⟨1, rfl, by decide, by decide⟩
    · exact ⟨4, rfl, by decide, by decide⟩
    · exact ⟨8, rfl, by decide, by decide⟩
  have mk8 : ∀ μ, mkL false [D.int 2, .int 3, .int 4, .int 3, .int 5, .int 1, .int 4, .int 8] μ = .ok (.lst [D.int 2, .int 3, .int 4, .int 3, .int 5, .int 1, .int 4, .int 8]) μ := fun μ => mkL_f (sz (by show 8 ≤ _; decide))
  have ix8 : ∀ μ, opIx (.lst [D.int 2, .int 3, .int 4, .int 3, .int 5, .int 1, .int 4, .int 8]) (.int k0) μ = .ok (.int size) μ := fun μ => op_ix_l (by rw [atI_nat]; exact hsz)
  rw [seq_nx (ρ' := [some (.scr ns), some (.int 0), some (.int most), some (.int x0), some (.int size), none, none, none, none, none, none, none]) (μ' := []) (by
    simp only [ev_set, ev_bin, ev_lst, ev_cons, ev_nil, ev_cst, ev_var, List.set_cons_succ, List.set_cons_zero, List.getElem?_cons_succ, List.getElem?_cons_zero, Res.bind_ok, out_ok, mk8, op_mod_i (show (0 : Int) < 8 by decide), hk0, ix8])]
  -- the deeds
  obtain ⟨ws, hw5, hwo, hw⟩ := f_law_words (x0 / 8) (by have := bits_mono (a := x0 / 8) b0 (by omega); omega)
  obtain ⟨sp, hp5, hpo, hp⟩ := f_law_words (x0 / 16 + 5) (by have := bits_plus (a := x0 / 16 + 5) b0 (by omega); omega)
  obtain ⟨kd, hkd⟩ : ∃ k : Nat, 2 + x0 / 8 % 4 = (k : Int) := ⟨(2 + x0 / 8 % 4).toNat, by omega⟩
  have d8 : ∀ μ, opFdiv (.int x0) (.int 8) μ = .ok (.int (x0 / 8)) μ := fun μ => op_div_s (by decide) (by decide)
  have d16 : ∀ μ, opFdiv (.int x0) (.int 16) μ = .ok (.int (x0 / 16)) μ := fun μ => op_div_s (by decide) (by decide)
  generalize hds : cutA ws none (some (kd : Int)) = deeds
  have hdo : ∀ w ∈ deeds, wordOk w := fun w h => hwo w (cutA_mem (hds ▸ h))
  have hdl : 1 ≤ deeds.length ∧ deeds.length ≤ 5 := by
    rw [← hds]
    have e : (cutA ws none (some (kd : Int))).length = min kd 5 := by
      unfold cutA
      simp only [HT.sIx_none, HT.sIx_nat, List.length_take, List.length_drop, hw5]
      omega
    rw [e]; omega
  rw [seq_nx (ρ' := [some (.scr ns), some (.int 0), some (.int most), some (.int x0), some (.int size), some (.lst (deeds.map .str)), none, none, none, none, none, none]) (μ' := []) (by
    have e := ev_slice_m (e := D.str) (xs := ws) (f := dCall (dCons (dBin (dVar 3) (dCst (.int 8)) opFdiv) dNil) Φ_law_deeds) (lo := none) (hi := some (dBin (dCst (.int 2)) (dBin (dBin (dVar 3) (dCst (.int 8)) opFdiv) (dCst (.int 4)) opMod) (opAdd false))) (l := none) (u := some (kd : Int))
      (ρ := [some (.scr ns), some (.int 0), some (.int most), some (.int x0), some (.int size), none, none, none, none, none, none, none]) (μ := []) (by simp [d8, f_law_deeds _ ws hw]) (ends_0f (by simp [d8, op_mod_i, hkd])) (by omega)
    rw [hds] at e
    rw [ev_set, e]; rfl)]
  -- the signs
  obtain ⟨sg, hgo, hgl, hg⟩ := f_law_signs_L deeds sp x1 (by omega) hdo hp5 hpo (by omega)
  rw [seq_nx (ρ' := [some (.scr ns), some (.int 0), some (.int most), some (.int x0), some (.int size), some (.lst (deeds.map .str)), some (.ref 0), none, none, none, none, none]) (μ' := [.dic (sg.map sgD)]) (by simp [c1, d16, hp, hg])]
  -- the faults
  have hm2 : ∀ μ, opMulA false (.int x2) (.int 1000000007) μ = .ok (.int (x2 * 1000000007)) μ := fun μ => op_mul_s (by omega) (by decide)
  generalize x2 * 1000000007 = N0 at hm2
  rw [seq_nx (ρ' := [some (.scr ns), some (.int 0), some (.int most), some (.int x0), some (.int size), some (.lst (deeds.map .str)), some (.ref 0), some (.int (N0 % 2147483647)), none, none, none, none]) (μ' := [.dic (sg.map sgD)]) (by simp [c2, hm2, op_mod_i])]
  generalize N0 % 2147483647 = N
  let pw : Nat → Int := fun k => ([1, 3, 9, 27, 81] : List Int).getD k 1
  let q : D → Bool := fun d => match d with | .int k => decide (N / pw k.toNat % 3 = 1) | _ => false
  let v : D → D := fun d => match d with | .int k => .str (deeds.getD k.toNat "") | d => d
  have mk5 : ∀ μ, mkL false [D.int 1, .int 3, .int 9, .int 27, .int 81] μ = .ok (.lst [D.int 1, .int 3, .int 9, .int 27, .int 81]) μ := fun μ => mkL_f (sz (by show 5 ≤ _; decide))
  have cm := compL_eq (own := [9]) (tt := .one 9) (c := dBool (dBin (dBin (dBin (dVar 7) (dBin (dLst false (dCons (dCst (.int 1)) (dCons (dCst (.int 3)) (dCons (dCst (.int 9)) (dCons (dCst (.int 27)) (dCons (dCst (.int 81)) dNil)))))) (dVar 9) opIx) opFdiv) (dCst (.int 3)) opMod) (dCst (.int 1)) opEq)) (f := dBin (dVar 5) (dVar 9) opIx)
    (ρ := [some (.scr ns), some (.int 0), some (.int most), some (.int x0), some (.int size), some (.lst (deeds.map .str)), some (.ref 0), some (.int N), none, none, none, none]) (μ := [.dic (sg.map sgD)]) q v (rngD 0 deeds.length) (fun d hd => by
    obtain ⟨k, hk, rfl⟩ := mem_rng hd
    have hk5 : k = 0 ∨ k = 1 ∨ k = 2 ∨ k = 3 ∨ k = 4 := by omega
    have hpw : ([D.int 1, .int 3, .int 9, .int 27, .int 81] : List D)[k]? = some (.int (pw k)) ∧ 0 < pw k ∧ (pw k).natAbs < 2 ^ 64 := by
      rcases hk5 with rfl | rfl | rfl | rfl | rfl <;> exact ⟨rfl, by decide, by decide⟩
    have ixp : ∀ μ, opIx (.lst [D.int 1, .int 3, .int 9, .int 27, .int 81]) (.int k) μ = .ok (.int (pw k)) μ := fun μ => op_ix_l (by rw [atI_nat]; exact hpw.1)
    have dv : ∀ μ, opFdiv (.int N) (.int (pw k)) μ = .ok (.int (N / pw k)) μ := fun μ => op_div_s hpw.2.1 hpw.2.2
    refine ⟨_, rfl, ?_, fun _ => ?_⟩
    · simp only [wipeD, ev_bool, ev_bin, ev_var, ev_cst, ev_lst, ev_cons, ev_nil, List.set_cons_succ, List.set_cons_zero, List.getElem?_cons_succ, List.getElem?_cons_zero, Res.bind_ok, mk5, ixp, dv, op_mod_i (show (0 : Int) < 3 by decide), op_eq_i, ev_asB]; rfl
    · simp only [wipeD, ev_bin, ev_var, List.set_cons_succ, List.set_cons_zero, List.getElem?_cons_succ, List.getElem?_cons_zero, Res.bind_ok]
      have e : deeds[k]? = some (deeds.getD k "") := by rw [List.getD_eq_getElem?_getD, List.getElem?_eq_getElem hk]; rfl
      exact ix_str e _)
  obtain ⟨fs, hfs, hfo⟩ : ∃ fs : List Str, ((rngD 0 deeds.length).filter q).map v = fs.map .str ∧ ∀ f ∈ fs, f ∈ deeds := by
    refine pre_map D.str _ _ fun d hd => ?_
    obtain ⟨d', hd', rfl⟩ := List.mem_map.mp hd
    obtain ⟨k, hk, rfl⟩ := mem_rng (List.mem_filter.mp hd').1
    have e : deeds.getD k "" = deeds[k] := by rw [List.getD_eq_getElem?_getD, List.getElem?_eq_getElem hk]; rfl
    exact List.mem_map.mpr ⟨deeds[k], List.getElem_mem hk, by show D.str deeds[k] = .str (deeds.getD k ""); rw [e]⟩
  have hfl : fs.length ≤ 100 := by
    have e := congrArg List.length hfs
    rw [List.length_map, List.length_map] at e
    have := List.length_filter_le q (rngD 0 deeds.length)
    have e2 : (rngD 0 deeds.length).length = deeds.length := by simp [rngD]
    omega
  rw [hfs] at cm
  rw [seq_nx (ρ' := [some (.scr ns), some (.int 0), some (.int most), some (.int x0), some (.int size), some (.lst (deeds.map .str)), some (.ref 0), some (.int N), some (.lst (fs.map .str)), none, none, none]) (μ' := [.dic (sg.map sgD)]) (by
    rw [ev_set, ev_comp, ev_rng1 (i := deeds.length) (by simp) (by omega) (by omega)]
    simp only [Res.bind_ok, Int.toNat_natCast, cm]
    rw [mkL_f (sz (by rw [List.length_map]; omega))]; rfl)]
  -- the starts, the moves
  obtain ⟨rs, hro, hrl, hr⟩ := f_law_rooms x3 size (by omega) hs1 (by omega)
  rw [seq_nx (ρ' := [some (.scr ns), some (.int 0), some (.int most), some (.int x0), some (.int size), some (.lst (deeds.map .str)), some (.ref 0), some (.int N), some (.lst (fs.map .str)), none, some (.lst (rs.map .int)), none]) (μ' := [.dic (sg.map sgD)]) (by simp [c3, hr])]
  obtain ⟨ms, hml, hmo, hmv⟩ := f_law_moves (cutA ns (some 4) (some (4 + (most : Int)))) size deeds (fun c h => by have := hb c (cutA_mem h); omega) hs1 hdl.1 (by omega) (by have := cutA_len ns (some 4) (some (4 + (most : Int))); omega)
  rw [seq_nx (ρ' := [some (.scr ns), some (.int 0), some (.int most), some (.int x0), some (.int size), some (.lst (deeds.map .str)), some (.ref 0), some (.int N), some (.lst (fs.map .str)), none, some (.lst (rs.map .int)), some (.lst (ms.map mvD))]) (μ' := [.dic (sg.map sgD)]) (by
    have e := ev_slice_c (f := dVar 0) (lo := some (dBin (dVar 1) (dCst (.int 4)) (opAdd false))) (hi := some (dBin (dBin (dVar 1) (dCst (.int 4)) (opAdd false)) (dVar 2) (opAdd false))) (l := some 4) (u := some (4 + (most : Int))) (ns := ns)
      (ρ := [some (.scr ns), some (.int 0), some (.int most), some (.int x0), some (.int size), some (.lst (deeds.map .str)), some (.ref 0), some (.int N), some (.lst (fs.map .str)), none, some (.lst (rs.map .int)), none]) (μ := [.dic (sg.map sgD)]) (by simp) (ends_ff (by simp) (by simp)) (by omega)
    simp only [ev_set, ev_call, ev_cons, ev_nil, e, Res.bind_ok, ev_var, List.getElem?_cons_succ, List.getElem?_cons_zero, hmv, out_ok, List.set_cons_succ, List.set_cons_zero])]
  refine ⟨size, rs, ms, sg, fs, deeds, ⟨hs1, hs8, hro, Nat.le_trans hrl hs8, hmo, ?_, hdo, hgo.1, by omega, fun w h => hdo w (hfo w h), hfl⟩, hgo.2, ?_⟩
  · rw [hml]
    unfold cutA
    have e1 : HT.sIx ns.length ns.length (some (4 + (most : Int))) = min (4 + most) ns.length := by
      have := HT.sIx_nat ns.length ns.length (4 + most)
      rwa [Int.natCast_add] at this
    have e2 : HT.sIx ns.length 0 (some 4) = min 4 ns.length := HT.sIx_nat ns.length 0 4
    rw [e1, e2, List.length_take, List.length_drop]
    omega
  · have mk : ∀ μ, mkL false [D.int size, .lst (rs.map .int), .lst (ms.map mvD), .ref 0, .lst (fs.map .str)] μ = .ok (partsL size rs ms fs) μ := fun μ => mkL_f (sz (by show 5 ≤ _; decide))
    simp only [ev_ret, ev_lst, ev_cons, ev_nil, ev_var, List.getElem?_cons_succ, List.getElem?_cons_zero, Res.bind_ok, mk, out_ok]
end SB
set_option Elab.async false
set_option linter.all false
set_option maxRecDepth 10000
namespace SB
open PySem L2
theorem getS_consZ (p : Str × Str) (sg : List (Str × Str)) (z : Str) : getS (p :: sg) z = if p.1 = z then some p.2 else getS sg z := by
  unfold getS
  rw [List.find?_cons]
  by_cases h : p.1 = z
  · simp [h]
  · simp [h]
theorem getS_appZ (a b : List (Str × Str)) (z : Str) : getS (a ++ b) z = (getS a z).or (getS b z) := by
  induction a with
  | nil => simp [getS]
  | cons p a ih =>
    rw [List.cons_append, getS_consZ, getS_consZ, ih]
    by_cases h : p.1 = z
    · simp [h]
    · simp [h]
theorem getS_mapputZ (sg : List (Str × Str)) (k v z : Str) : getS (sg.map fun p => if decide (p.1 = k) then (p.1, v) else p) z = if z = k then (getS sg z).map (fun _ => v) else getS sg z := by
  induction sg with
  | nil => simp [getS]
  | cons p sg ih =>
    rw [List.map_cons, getS_consZ, getS_consZ, ih]
    by_cases h1 : p.1 = k
    · by_cases h2 : p.1 = z
      · simp [h1, ← h2]
      · have h3 : ¬ z = k := fun e => h2 (by rw [h1, e])
        have h4 : ¬ k = z := fun e => h3 e.symm
        simp [h1, h3, h4]
    · by_cases h2 : p.1 = z
      · have h3 : ¬ z = k := fun e => h1 (by rw [h2, e])
        simp [h1, h2, h3]
      · simp [h1, h2]
theorem getS_anyZ {sg : List (Str × Str)} {k : Str} (h : (sg.any fun p => decide (p.1 = k)) = true) : (getS sg k).isSome = true := by
  obtain ⟨p, hp, e⟩ := List.any_eq_true.mp h
  obtain ⟨v, hv⟩ := getS_key hp
  rw [of_decide_eq_true e] at hv
  rw [hv]; rfl
theorem getS_notanyZ {sg : List (Str × Str)} {k : Str} (h : (sg.any fun p => decide (p.1 = k)) = false) : getS sg k = none := by
  cases q : getS sg k with
  | none => rfl
  | some v =>
    obtain ⟨p, hp, e, _⟩ := getS_mem' q
    have := List.any_eq_false.mp h p hp
    exact absurd (decide_eq_true e) this
theorem getS_putZ (sg : List (Str × Str)) (k v z : Str) : getS (putS sg k v) z = if z = k then some v else getS sg z := by
  unfold putS
  split
  · rename_i h
    rw [getS_mapputZ]
    by_cases q : z = k
    · subst q
      obtain ⟨w, hw⟩ := Option.isSome_iff_exists.mp (getS_anyZ h)
      simp [hw]
    · simp [q]
  · rename_i h
    rw [getS_appZ, getS_consZ]
    by_cases q : z = k
    · subst q
      rw [getS_notanyZ (Bool.eq_false_iff.mpr h)]
      simp
    · have : ¬ k = z := fun e => q e.symm
      simp [q, this, getS]
theorem set_sgZ {n : Nat} {sg : List (Str × Str)} {w v : Str} {μ : Mu} (h : μ[n]? = some (.dic (sg.map sgD))) (hl : sg.length ≤ 1000) : setIxD (.ref n) (.str w) (.str v) μ = some (μ.set n (.dic ((putS sg w v).map sgD))) := by
  unfold setIxD
  simp only [h, kfits_sg, dput_sg, Bool.true_and]
  rw [if_pos (by rw [List.length_map, decide_eq_true_eq, sizeLine_eq]; omega)]
theorem low_ofZ {z : Str} (h : (chs z).all (fun c => decide (97 ≤ c) && decide (c ≤ 122)) = true) : low z := fun c hc => by
  have := List.all_eq_true.mp h c hc
  rw [Bool.and_eq_true, decide_eq_true_eq, decide_eq_true_eq] at this
  exact this
theorem rng_nZ {f : DE} {ρ : Ev} {μ : Mu} {n : Nat} (hf : f ρ μ = .ok (.int (n : Int)) μ) (hn : n ≤ 1000) : iRange1 f ρ μ = .ok ((List.range n).map fun j : Nat => D.int j) μ := by
  rw [ev_rng1 hf (by omega) (by omega), Int.toNat_natCast]
  unfold rngD
  congr 1
  refine List.map_congr_left fun k _ => ?_
  rw [Int.zero_add]
theorem make_alt {b : Bool} {c : Nat} {fsE : DEs} {Φ : Fn} {ρ : Ev} {μ μ' : Mu} {xs : List D} (h : fsE ρ μ = .ok xs μ') : dMake b c fsE Φ ρ μ = dMake b c (fun _ ν => .ok xs ν) Φ ρ μ' := by
  unfold dMake
  rw [h]
abbrev agS : Str := "again"
abbrev rdS : Str := "round"
theorem reach_round {M : Mc} {home : Int} (h : home ∈ M.st) (m : (⟨home, rdS, home⟩ : Mv) ∈ M.kn) (g : getS M.sg rdS = some agS) : ∀ k : Nat, ∃ b, M.Reach (List.replicate k agS) (home, b)
  | 0 => ⟨false, _, Mc.at_start h⟩
  | k + 1 => by
    obtain ⟨b, w, hw⟩ := reach_round h m g k
    rw [List.replicate_succ']
    exact ⟨b || decide (rdS ∈ M.fs), (w.1, w.2 ++ [(⟨home, rdS, home⟩ : Mv)]), Mc.at_seen (m := ⟨home, rdS, home⟩) hw m rfl g⟩
/-- the state the signs leave -/
def St52 (A : D) (M : Mc) (size : Nat) (past : List Str) (μ : Mu) : Prop := ∃ ws, SpOk M size past ws ∧ WatchAt μ 2 3 A past ws
theorem main_thm (ns : List Int) (hl : ns.length ≤ 63) (hb : ∀ z ∈ ns, Builtin.Int.intBits z ≤ 1048576) : Φ_law [.scr ns] [] = .ok (.bl true) [] := by
  obtain ⟨size, rs, ms, sg, fs, deeds, ok, nd, ep⟩ := f_law_parts_L ns hl hb 20 (by decide)
  have ep' : Φ_law_parts_L [.scr ns, .int 0, .int 20] [] = .ok (partsL size rs ms fs) [.dic (sg.map sgD)] := ep
  have cb := cellOf_bits hb
  have c1 : ∀ μ, Φ_law_cell [.scr ns, .int 1] μ = .ok (.int (cellOf ns 1)) μ := fun μ => f_law_cell ns 1 μ
  have b1 := cb 1
  generalize cellOf ns 1 = z1 at c1 b1
  clear cb
  refine callP_wpe (by rfl) rfl ?_ []
  show WP _ _ _ _ (m_law [some (.scr ns), none, none, none, none, none, none, none, none, none, none, none, none, none, none, none, none] [])
  unfold m_law
  have bind0 : bindT (.many [1, 2, 3, 4, 5]) (partsL size rs ms fs) [some (.scr ns), none, none, none, none, none, none, none, none, none, none, none, none, none, none, none, none] [.dic (sg.map sgD)] = some [some (.scr ns), some (.int size), some (.lst (rs.map .int)), some (.lst (ms.map mvD)), some (.ref 0), some (.lst (fs.map .str)), none, none, none, none, none, none, none, none, none, none, none] := rfl
  refine wp_seq (wp_asg (d := partsL size rs ms fs) (μ' := [.dic (sg.map sgD)]) (by (simp only [ev_cst, ev_var, ev_bin, ev_call, ev_nil, ev_cons, ev_bool, ev_asB, ev_not, ev_and, ev_or, ev_tup, ev_lst, ev_yes, ev_chain, ev_andV2, ev_orV, orB_bb, orB_t, orB_f, andB_bb, andB_t, andB_f, ite_andB, ite_orB, op_is, op_isn, ev_bor, ev_borT, borT_ok, bor_b, bor_i, bor_s, bor_n, bor1, bor2, bora1, bora2, ev_notV, ev_ifE, ev_frzT, ev_met, ev_fld, ev_un, un_neg, ev_dnil, ev_methC, ev_iseq, ev_isi, List.getElem?_cons_succ, List.getElem?_cons_zero, List.set_cons_succ, List.set_cons_zero, Res.bind_ok, Res.of_some, vw_i, vw_b, vw_s, vw_n, vw_t, vw_l, vw_d, vw_k, vw_c, it_l, it_t, it_s, op_add_i, op_sub_i, op_lt_i, op_le_i, op_gt_i, op_ge_i, op_eq_i, op_ne_i, op_eq_b, op_ne_b, bi_len_l, bi_len_t, bi_len_d, bi_len_c, op_ix_0, op_ix_1, op_ix_2, tp1, tp2, tp3, tp4, tp5, mk0, mk1, mk2, mk3, mk4, mk5, if_true, if_false, Bool.false_eq_true, Bool.not_true, Bool.not_false, Bool.true_and, Bool.false_and, Bool.true_or, Bool.false_or, bt_one, bt_tup, bt_lst, sa_nil, sa_cons, wipeD, List.length_map, ep'] <;> try rfl)) bind0 ?_)
  clear bind0 ep ep'
  -- the number
  have mq : ∀ ν, opMulA false (.int z1) (.int 1000000007) ν = .ok (.int (z1 * 1000000007)) ν := fun ν => op_mul_s (by omega) (by decide)
  generalize z1 * 1000000007 = Q at mq
  have mQ : ∀ ν, opMod (.int Q) (.int 2147483647) ν = .ok (.int (Q % 2147483647)) ν := fun ν => op_mod_i (by decide)
  have hN : 0 ≤ Q % 2147483647 := Int.emod_nonneg _ (by decide)
  generalize Q % 2147483647 = N at mQ hN
  have hs1 := ok.s1
  have mN : ∀ ν, opMod (.int N) (.int size) ν = .ok (.int (N % size)) ν := fun ν => op_mod_i (by omega)
  have hh0 : 0 ≤ N % (size : Int) := Int.emod_nonneg _ (by omega)
  have hh1 : N % (size : Int) < size := Int.emod_lt_of_pos _ (by omega)
  generalize N % (size : Int) = home at mN hh0 hh1
  refine wp_seq (wp_set (d := .int N) (μ' := [.dic (sg.map sgD)]) (by (simp only [ev_cst, ev_var, ev_bin, ev_call, ev_nil, ev_cons, ev_bool, ev_asB, ev_not, ev_and, ev_or, ev_tup, ev_lst, ev_yes, ev_chain, ev_andV2, ev_orV, orB_bb, orB_t, orB_f, andB_bb, andB_t, andB_f, ite_andB, ite_orB, op_is, op_isn, ev_bor, ev_borT, borT_ok, bor_b, bor_i, bor_s, bor_n, bor1, bor2, bora1, bora2, ev_notV, ev_ifE, ev_frzT, ev_met, ev_fld, ev_un, un_neg, ev_dnil, ev_methC, ev_iseq, ev_isi, List.getElem?_cons_succ, List.getElem?_cons_zero, List.set_cons_succ, List.set_cons_zero, Res.bind_ok, Res.of_some, vw_i, vw_b, vw_s, vw_n, vw_t, vw_l, vw_d, vw_k, vw_c, it_l, it_t, it_s, op_add_i, op_sub_i, op_lt_i, op_le_i, op_gt_i, op_ge_i, op_eq_i, op_ne_i, op_eq_b, op_ne_b, bi_len_l, bi_len_t, bi_len_d, bi_len_c, op_ix_0, op_ix_1, op_ix_2, tp1, tp2, tp3, tp4, tp5, mk0, mk1, mk2, mk3, mk4, mk5, if_true, if_false, Bool.false_eq_true, Bool.not_true, Bool.not_false, Bool.true_and, Bool.false_and, Bool.true_or, Bool.false_or, bt_one, bt_tup, bt_lst, sa_nil, sa_cons, wipeD, List.length_map, c1, mq, mQ] <;> try rfl)) (by (simp only [List.set_cons_succ, List.set_cons_zero] <;> try rfl)) ?_)
  refine wp_seq (wp_set (d := .str rdS) (μ' := [.dic (sg.map sgD)]) (by (simp only [ev_cst, ev_var, ev_bin, ev_call, ev_nil, ev_cons, ev_bool, ev_asB, ev_not, ev_and, ev_or, ev_tup, ev_lst, ev_yes, ev_chain, ev_andV2, ev_orV, orB_bb, orB_t, orB_f, andB_bb, andB_t, andB_f, ite_andB, ite_orB, op_is, op_isn, ev_bor, ev_borT, borT_ok, bor_b, bor_i, bor_s, bor_n, bor1, bor2, bora1, bora2, ev_notV, ev_ifE, ev_frzT, ev_met, ev_fld, ev_un, un_neg, ev_dnil, ev_methC, ev_iseq, ev_isi, List.getElem?_cons_succ, List.getElem?_cons_zero, List.set_cons_succ, List.set_cons_zero, Res.bind_ok, Res.of_some, vw_i, vw_b, vw_s, vw_n, vw_t, vw_l, vw_d, vw_k, vw_c, it_l, it_t, it_s, op_add_i, op_sub_i, op_lt_i, op_le_i, op_gt_i, op_ge_i, op_eq_i, op_ne_i, op_eq_b, op_ne_b, bi_len_l, bi_len_t, bi_len_d, bi_len_c, op_ix_0, op_ix_1, op_ix_2, tp1, tp2, tp3, tp4, tp5, mk0, mk1, mk2, mk3, mk4, mk5, if_true, if_false, Bool.false_eq_true, Bool.not_true, Bool.not_false, Bool.true_and, Bool.false_and, Bool.true_or, Bool.false_or, bt_one, bt_tup, bt_lst, sa_nil, sa_cons, wipeD, List.length_map] <;> try rfl)) (by (simp only [List.set_cons_succ, List.set_cons_zero] <;> try rfl)) ?_)
  refine wp_seq (wp_set (d := .int home) (μ' := [.dic (sg.map sgD)]) (by (simp only [ev_cst, ev_var, ev_bin, ev_call, ev_nil, ev_cons, ev_bool, ev_asB, ev_not, ev_and, ev_or, ev_tup, ev_lst, ev_yes, ev_chain, ev_andV2, ev_orV, orB_bb, orB_t, orB_f, andB_bb, andB_t, andB_f, ite_andB, ite_orB, op_is, op_isn, ev_bor, ev_borT, borT_ok, bor_b, bor_i, bor_s, bor_n, bor1, bor2, bora1, bora2, ev_notV, ev_ifE, ev_frzT, ev_met, ev_fld, ev_un, un_neg, ev_dnil, ev_methC, ev_iseq, ev_isi, List.getElem?_cons_succ, List.getElem?_cons_zero, List.set_cons_succ, List.set_cons_zero, Res.bind_ok, Res.of_some, vw_i, vw_b, vw_s, vw_n, vw_t, vw_l, vw_d, vw_k, vw_c, it_l, it_t, it_s, op_add_i, op_sub_i, op_lt_i, op_le_i, op_gt_i, op_ge_i, op_eq_i, op_ne_i, op_eq_b, op_ne_b, bi_len_l, bi_len_t, bi_len_d, bi_len_c, op_ix_0, op_ix_1, op_ix_2, tp1, tp2, tp3, tp4, tp5, mk0, mk1, mk2, mk3, mk4, mk5, if_true, if_false, Bool.false_eq_true, Bool.not_true, Bool.not_false, Bool.true_and, Bool.false_and, Bool.true_or, Bool.false_or, bt_one, bt_tup, bt_lst, sa_nil, sa_cons, wipeD, List.length_map, mN] <;> try rfl)) (by (simp only [List.set_cons_succ, List.set_cons_zero] <;> try rfl)) ?_)
  -- the sign of a round
  have sgl := ok.gl
  have st := set_sgZ (n := 0) (sg := sg) (w := rdS) (v := agS) (μ := [.dic (sg.map sgD)]) rfl (by omega)
  refine wp_seq (wp_sub (d := .str agS) (x := .ref 0) (y := .str rdS) (μ1 := [.dic (sg.map sgD)]) (μ2 := [.dic (sg.map sgD)]) (μ3 := [.dic (sg.map sgD)]) (by (simp only [ev_cst, ev_var, ev_bin, ev_call, ev_nil, ev_cons, ev_bool, ev_asB, ev_not, ev_and, ev_or, ev_tup, ev_lst, ev_yes, ev_chain, ev_andV2, ev_orV, orB_bb, orB_t, orB_f, andB_bb, andB_t, andB_f, ite_andB, ite_orB, op_is, op_isn, ev_bor, ev_borT, borT_ok, bor_b, bor_i, bor_s, bor_n, bor1, bor2, bora1, bora2, ev_notV, ev_ifE, ev_frzT, ev_met, ev_fld, ev_un, un_neg, ev_dnil, ev_methC, ev_iseq, ev_isi, List.getElem?_cons_succ, List.getElem?_cons_zero, List.set_cons_succ, List.set_cons_zero, Res.bind_ok, Res.of_some, vw_i, vw_b, vw_s, vw_n, vw_t, vw_l, vw_d, vw_k, vw_c, it_l, it_t, it_s, op_add_i, op_sub_i, op_lt_i, op_le_i, op_gt_i, op_ge_i, op_eq_i, op_ne_i, op_eq_b, op_ne_b, bi_len_l, bi_len_t, bi_len_d, bi_len_c, op_ix_0, op_ix_1, op_ix_2, tp1, tp2, tp3, tp4, tp5, mk0, mk1, mk2, mk3, mk4, mk5, if_true, if_false, Bool.false_eq_true, Bool.not_true, Bool.not_false, Bool.true_and, Bool.false_and, Bool.true_or, Bool.false_or, bt_one, bt_tup, bt_lst, sa_nil, sa_cons, wipeD, List.length_map] <;> try rfl)) (by (simp only [ev_cst, ev_var, ev_bin, ev_call, ev_nil, ev_cons, ev_bool, ev_asB, ev_not, ev_and, ev_or, ev_tup, ev_lst, ev_yes, ev_chain, ev_andV2, ev_orV, orB_bb, orB_t, orB_f, andB_bb, andB_t, andB_f, ite_andB, ite_orB, op_is, op_isn, ev_bor, ev_borT, borT_ok, bor_b, bor_i, bor_s, bor_n, bor1, bor2, bora1, bora2, ev_notV, ev_ifE, ev_frzT, ev_met, ev_fld, ev_un, un_neg, ev_dnil, ev_methC, ev_iseq, ev_isi, List.getElem?_cons_succ, List.getElem?_cons_zero, List.set_cons_succ, List.set_cons_zero, Res.bind_ok, Res.of_some, vw_i, vw_b, vw_s, vw_n, vw_t, vw_l, vw_d, vw_k, vw_c, it_l, it_t, it_s, op_add_i, op_sub_i, op_lt_i, op_le_i, op_gt_i, op_ge_i, op_eq_i, op_ne_i, op_eq_b, op_ne_b, bi_len_l, bi_len_t, bi_len_d, bi_len_c, op_ix_0, op_ix_1, op_ix_2, tp1, tp2, tp3, tp4, tp5, mk0, mk1, mk2, mk3, mk4, mk5, if_true, if_false, Bool.false_eq_true, Bool.not_true, Bool.not_false, Bool.true_and, Bool.false_and, Bool.true_or, Bool.false_or, bt_one, bt_tup, bt_lst, sa_nil, sa_cons, wipeD, List.length_map] <;> try rfl)) (by (simp only [ev_cst, ev_var, ev_bin, ev_call, ev_nil, ev_cons, ev_bool, ev_asB, ev_not, ev_and, ev_or, ev_tup, ev_lst, ev_yes, ev_chain, ev_andV2, ev_orV, orB_bb, orB_t, orB_f, andB_bb, andB_t, andB_f, ite_andB, ite_orB, op_is, op_isn, ev_bor, ev_borT, borT_ok, bor_b, bor_i, bor_s, bor_n, bor1, bor2, bora1, bora2, ev_notV, ev_ifE, ev_frzT, ev_met, ev_fld, ev_un, un_neg, ev_dnil, ev_methC, ev_iseq, ev_isi, List.getElem?_cons_succ, List.getElem?_cons_zero, List.set_cons_succ, List.set_cons_zero, Res.bind_ok, Res.of_some, vw_i, vw_b, vw_s, vw_n, vw_t, vw_l, vw_d, vw_k, vw_c, it_l, it_t, it_s, op_add_i, op_sub_i, op_lt_i, op_le_i, op_gt_i, op_ge_i, op_eq_i, op_ne_i, op_eq_b, op_ne_b, bi_len_l, bi_len_t, bi_len_d, bi_len_c, op_ix_0, op_ix_1, op_ix_2, tp1, tp2, tp3, tp4, tp5, mk0, mk1, mk2, mk3, mk4, mk5, if_true, if_false, Bool.false_eq_true, Bool.not_true, Bool.not_false, Bool.true_and, Bool.false_and, Bool.true_or, Bool.false_or, bt_one, bt_tup, bt_lst, sa_nil, sa_cons, wipeD, List.length_map] <;> try rfl)) st ?_)
  have wr : wordOk rdS := ⟨by decide +kernel, by decide +kernel, low_ofZ (by decide +kernel)⟩
  have wa : wordOk agS := ⟨by decide +kernel, by decide +kernel, low_ofZ (by decide +kernel)⟩
  have l2 := putS_len sg rdS agS
  have gr : getS (putS sg rdS agS) rdS = some agS := by rw [getS_putZ, if_pos rfl]
  have ok2 : ∀ p ∈ putS sg rdS agS, wordOk p.1 ∧ wordOk p.2 := fun p hp => by
    rcases putS_mem hp with q | ⟨q1, q2⟩
    · exact ok.g p q
    · refine ⟨?_, by rw [q2]; exact wa⟩
      rcases q1 with e | ⟨q, hq, e⟩
      · rw [e]; exact wr
      · rw [← e]; exact (ok.g q hq).1
  clear st
  show WP _ _ _ _ (sSeq _ _ [some (.scr ns), some (.int size), some (.lst (rs.map .int)), some (.lst (ms.map mvD)), some (.ref 0), some (.lst (fs.map .str)), some (.int N), some (.str rdS), some (.int home), none, none, none, none, none, none, none, none] [.dic ((putS sg rdS agS).map sgD)])
  generalize putS sg rdS agS = sg2 at gr l2 ok2 ⊢
  -- the machine
  have rl := ok.rl
  have ml := ok.ml
  obtain ⟨A, M, hM, hst, hkn, hsg, hfs, made⟩ := f_make (size := size) (rs := rs ++ [home]) (ms := ms ++ [(⟨home, rdS, home⟩ : Mv)]) (sg := sg2) (fs := fs) ok.s1 ok.s8 (fun r hr => by
    rcases List.mem_append.mp hr with q | q
    · exact ok.r r q
    · rw [List.mem_singleton.mp q]; exact ⟨hh0, hh1⟩) (by rw [List.length_append, List.length_singleton]; omega) (fun m hm => by
    rcases List.mem_append.mp hm with q | q
    · obtain ⟨a1, a2, a3, a4, a5⟩ := ok.m m q
      exact ⟨a1, a2, ok.d _ a3, a4, a5⟩
    · rw [List.mem_singleton.mp q]; exact ⟨hh0, hh1, wr, hh0, hh1⟩) (by rw [List.length_append, List.length_singleton]; omega) ok2 ok.f ok.fl
  have hst0 : home ∈ M.st := (hst home).mpr (by simp)
  have hkn0 : (⟨home, rdS, home⟩ : Mv) ∈ M.kn := (hkn _).mpr (by simp)
  have reach := reach_round hst0 hkn0 (by rw [hsg]; exact gr)
  have ar : ∀ ν, opAdd false (.lst (rs.map .int)) (.lst [.int home]) ν = .ok (.lst ((rs ++ [home]).map .int)) ν := fun ν => op_add_l (e := D.int) (xs := rs) (ys := [home]) ν (by rw [List.length_singleton]; omega)
  have am : ∀ ν, opAdd false (.lst (ms.map mvD)) (.lst [.tup [.int home, .str rdS, .int home]]) ν = .ok (.lst ((ms ++ [(⟨home, rdS, home⟩ : Mv)]).map mvD)) ν := fun ν => op_add_l (e := mvD) (xs := ms) (ys := [(⟨home, rdS, home⟩ : Mv)]) ν (by rw [List.length_singleton]; omega)
  have fz0 : frzT (.ref 0) [.dic (sg2.map sgD)] = .ok (.dic (sg2.map sgD)) [.fz (.dic (sg2.map sgD))] := rfl
  refine wp_seq (wp_set (d := A) (μ' := [.fz (.dic (sg2.map sgD)), .fz A]) (ρ' := [some (.scr ns), some (.int size), some (.lst (rs.map .int)), some (.lst (ms.map mvD)), some (.ref 0), some (.lst (fs.map .str)), some (.int N), some (.str rdS), some (.int home), some A, none, none, none, none, none, none, none]) (by
    rw [make_alt (xs := [.int size, .lst ((rs ++ [home]).map .int), .lst ((ms ++ [(⟨home, rdS, home⟩ : Mv)]).map mvD), .dic (sg2.map sgD), .lst (fs.map .str)]) (μ' := [.fz (.dic (sg2.map sgD))]) (by
      generalize (ms ++ [(⟨home, rdS, home⟩ : Mv)]).map mvD = MS at am ⊢
      generalize (rs ++ [home]).map D.int = RS at ar ⊢
      (simp only [ev_cst, ev_var, ev_bin, ev_call, ev_nil, ev_cons, ev_bool, ev_asB, ev_not, ev_and, ev_or, ev_tup, ev_lst, ev_yes, ev_chain, ev_andV2, ev_orV, orB_bb, orB_t, orB_f, andB_bb, andB_t, andB_f, ite_andB, ite_orB, op_is, op_isn, ev_bor, ev_borT, borT_ok, bor_b, bor_i, bor_s, bor_n, bor1, bor2, bora1, bora2, ev_notV, ev_ifE, ev_frzT, ev_met, ev_fld, ev_un, un_neg, ev_dnil, ev_methC, ev_iseq, ev_isi, List.getElem?_cons_succ, List.getElem?_cons_zero, List.set_cons_succ, List.set_cons_zero, Res.bind_ok, Res.of_some, vw_i, vw_b, vw_s, vw_n, vw_t, vw_l, vw_d, vw_k, vw_c, it_l, it_t, it_s, op_add_i, op_sub_i, op_lt_i, op_le_i, op_gt_i, op_ge_i, op_eq_i, op_ne_i, op_eq_b, op_ne_b, bi_len_l, bi_len_t, bi_len_d, bi_len_c, op_ix_0, op_ix_1, op_ix_2, tp1, tp2, tp3, tp4, tp5, mk0, mk1, mk2, mk3, mk4, mk5, if_true, if_false, Bool.false_eq_true, Bool.not_true, Bool.not_false, Bool.true_and, Bool.false_and, Bool.true_or, Bool.false_or, bt_one, bt_tup, bt_lst, sa_nil, sa_cons, wipeD, List.length_map, ar, am, fz0] <;> try rfl))]
    exact made rfl) rfl ?_)
  clear made ar am fz0 hkn hst
  -- the words
  have hμ0 : vw [.fz (.dic (sg2.map sgD)), .fz A] (.ref 0) = .dic (sg2.map sgD) := rfl
  let val : Str → Str := fun z => (getS sg2 z).getD ""
  have keyv : ∀ z ∈ sg2.map (fun q : Str × Str => q.1), ∃ v, getS sg2 z = some v := fun z hz => by
    obtain ⟨q, hq, rfl⟩ := List.mem_map.mp hz
    exact getS_key hq
  generalize hP4 : (.lst (fs.map .str) : D) = FS
  generalize hP3 : (.lst (ms.map mvD) : D) = MS
  generalize hP2 : (.lst (rs.map .int) : D) = RS
  clear hP4 hP3 hP2
  have cm : dComp false [11] (.one 11) (iKeys (dFrzT (dVar 4))) dYes (dBin (dVar 4) (dVar 11) opIx) [some (.scr ns), some (.int size), some RS, some MS, some (.ref 0), some FS, some (.int N), some (.str rdS), some (.int home), some A, none, none, none, none, none, none, none] [.fz (.dic (sg2.map sgD)), .fz A] = .ok (.lst (((sg2.map fun q : Str × Str => q.1).map val).map .str)) [.fz (.dic (sg2.map sgD)), .fz A] := by
    refine ev_compA (e := D.str) (e' := D.str) (sg2.map fun q : Str × Str => q.1) val ?_ (by rw [List.length_map]; omega) fun z hz => ?_
    · rw [ev_keys (es := sg2.map sgD) rfl, List.map_map, List.map_map]; rfl
    · obtain ⟨v, hv⟩ := keyv z hz
      refine ⟨_, rfl, ?_⟩
      have e1 := op_ix_sg hv [.fz (.dic (sg2.map sgD)), .fz A]
      have e2 : val z = v := by show (getS sg2 z).getD "" = v; rw [hv]; rfl
      rw [e2]
      exact e1
  have hbo : ∀ z ∈ (sg2.map fun q : Str × Str => q.1).map val, okS z := fun z hz => by
    obtain ⟨y, hy, rfl⟩ := List.mem_map.mp hz
    obtain ⟨v, hv⟩ := keyv y hy
    show okS ((getS sg2 y).getD "")
    rw [hv]
    obtain ⟨q, hq, _, rfl⟩ := getS_mem' hv
    exact okS_of (ok2 q hq).2.2.2
  have hbl : ((sg2.map fun q : Str × Str => q.1).map val).length ≤ 21 := by rw [List.length_map, List.length_map]; omega
  generalize (sg2.map fun q : Str × Str => q.1).map val = bs at cm hbo hbl
  have ad := op_add_l (e := D.str) (xs := bs) (ys := ["nosuch"]) [.fz (.dic (sg2.map sgD)), .fz A] (by rw [List.length_singleton]; omega)
  refine wp_seq (wp_set (d := .lst ((bs ++ [("nosuch" : Str)]).map .str)) (μ' := [.fz (.dic (sg2.map sgD)), .fz A]) (ρ' := [some (.scr ns), some (.int size), some RS, some MS, some (.ref 0), some FS, some (.int N), some (.str rdS), some (.int home), some A, some (.lst ((bs ++ [("nosuch" : Str)]).map .str)), none, none, none, none, none, none]) (by
    rw [ev_bin, cm]
    simp only [Res.bind_ok]
    rw [show dLst false (dCons (dCst (.str ("nosuch" : Str))) dNil) [some (.scr ns), some (.int size), some RS, some MS, some (.ref 0), some FS, some (.int N), some (.str rdS), some (.int home), some A, none, none, none, none, none, none, none] [.fz (.dic (sg2.map sgD)), .fz A] = .ok (.lst ((["nosuch"] : List Str).map .str)) [.fz (.dic (sg2.map sgD)), .fz A] from (by (simp only [ev_cst, ev_var, ev_bin, ev_call, ev_nil, ev_cons, ev_bool, ev_asB, ev_not, ev_and, ev_or, ev_tup, ev_lst, ev_yes, ev_chain, ev_andV2, ev_orV, orB_bb, orB_t, orB_f, andB_bb, andB_t, andB_f, ite_andB, ite_orB, op_is, op_isn, ev_bor, ev_borT, borT_ok, bor_b, bor_i, bor_s, bor_n, bor1, bor2, bora1, bora2, ev_notV, ev_ifE, ev_frzT, ev_met, ev_fld, ev_un, un_neg, ev_dnil, ev_methC, ev_iseq, ev_isi, List.getElem?_cons_succ, List.getElem?_cons_zero, List.set_cons_succ, List.set_cons_zero, Res.bind_ok, Res.of_some, vw_i, vw_b, vw_s, vw_n, vw_t, vw_l, vw_d, vw_k, vw_c, it_l, it_t, it_s, op_add_i, op_sub_i, op_lt_i, op_le_i, op_gt_i, op_ge_i, op_eq_i, op_ne_i, op_eq_b, op_ne_b, bi_len_l, bi_len_t, bi_len_d, bi_len_c, op_ix_0, op_ix_1, op_ix_2, tp1, tp2, tp3, tp4, tp5, mk0, mk1, mk2, mk3, mk4, mk5, if_true, if_false, Bool.false_eq_true, Bool.not_true, Bool.not_false, Bool.true_and, Bool.false_and, Bool.true_or, Bool.false_or, bt_one, bt_tup, bt_lst, sa_nil, sa_cons, wipeD, List.length_map] <;> try rfl))]
    simp only [Res.bind_ok, ad]) rfl ?_)
  have hw : ∀ s ∈ bs ++ [("nosuch" : Str)], okS s := fun s hs => by
    rcases List.mem_append.mp hs with q | q
    · exact hbo s q
    · rw [List.mem_singleton.mp q]; decide +kernel
  have hw1 : 1 ≤ (bs ++ [("nosuch" : Str)]).length := by rw [List.length_append, List.length_singleton]; omega
  clear cm ad hbo hbl val keyv
  generalize bs ++ [("nosuch" : Str)] = words at hw hw1 ⊢
  -- the watcher
  obtain ⟨ws0, wok, w1⟩ := f_Watcher (f := dVar 9) (ρ := [some (.scr ns), some (.int size), some RS, some MS, some (.ref 0), some FS, some (.int N), some (.str rdS), some (.int home), some A, some (.lst (words.map .str)), none, none, none, none, none, none]) (μ := [.fz (.dic (sg2.map sgD)), .fz A]) hM rfl
  have wat := watch_new (A := A) (ws := ws0) [.fz (.dic (sg2.map sgD)), .fz A]
  refine wp_seq (wp_set (d := .ref 2) (ρ' := [some (.scr ns), some (.int size), some RS, some MS, some (.ref 0), some FS, some (.int N), some (.str rdS), some (.int home), some A, some (.lst (words.map .str)), none, some (.ref 2), none, none, none, none]) w1 rfl ?_)
  have h0 : St52 A M size [] ([.fz (.dic (sg2.map sgD)), .fz A] ++ [.ins 1 [A, .ref (([.fz (.dic (sg2.map sgD)), .fz A] : Mu).length + 1), .dic (wsE ws0)], .lst []]) := ⟨ws0, wok, wat⟩
  generalize ([.fz (.dic (sg2.map sgD)), .fz A] ++ [.ins 1 [A, .ref (([.fz (.dic (sg2.map sgD)), .fz A] : Mu).length + 1), .dic (wsE ws0)], .lst []] : Mu) = μ4 at h0 ⊢
  clear wat w1 hμ0
  -- how many
  have d8 : ∀ ν, opFdiv (.int N) (.int 8) ν = .ok (.int (N / 8)) ν := fun ν => op_div_s (by decide) (by decide)
  have d64 : ∀ ν, opFdiv (.int N) (.int 64) ν = .ok (.int (N / 64)) ν := fun ν => op_div_s (by decide) (by decide)
  have m8 : ∀ ν, opMod (.int (N / 8)) (.int 8) ν = .ok (.int (N / 8 % 8)) ν := fun ν => op_mod_i (by decide)
  have m5 : ∀ ν, opMod (.int (N / 64)) (.int 5) ν = .ok (.int (N / 64 % 5)) ν := fun ν => op_mod_i (by decide)
  obtain ⟨kk, hkk, hk5⟩ : ∃ k : Nat, N / 64 % 5 = (k : Int) ∧ k < 5 := ⟨(N / 64 % 5).toNat, by omega, by omega⟩
  obtain ⟨many, hix, hmany⟩ : ∃ many : Nat, (∀ ν, opIx (.lst [.int 37, .int 38, .int 39, .int 40, .int (N / 8 % 8)]) (.int kk) ν = .ok (.int many) ν) ∧ many ≤ 40 := by
    obtain ⟨j, hj, hj8⟩ : ∃ j : Nat, N / 8 % 8 = (j : Int) ∧ j < 8 := ⟨(N / 8 % 8).toNat, by omega, by omega⟩
    rw [hj]
    have : kk = 0 ∨ kk = 1 ∨ kk = 2 ∨ kk = 3 ∨ kk = 4 := by omega
    rcases this with rfl | rfl | rfl | rfl | rfl
    · exact ⟨37, fun ν => op_ix_l rfl, by decide⟩
    · exact ⟨38, fun ν => op_ix_l rfl, by decide⟩
    · exact ⟨39, fun ν => op_ix_l rfl, by decide⟩
    · exact ⟨40, fun ν => op_ix_l rfl, by decide⟩
    · exact ⟨j, fun ν => op_ix_l rfl, by omega⟩
  have it1 : ∀ (ρ : Ev) (μ : Mu), ρ[13]? = some (some (.int (many : Int))) → iRange1 (dVar 13) ρ μ = .ok ((List.range many).map fun j : Nat => D.int j) μ := fun ρ μ h => rng_nZ (by rw [ev_var, h]) (by omega)
  have lr : (List.range many).length ≤ 40 := by rw [List.length_range]; exact hmany
  generalize List.range many = LR at it1 lr
  generalize iRange1 (dVar 13) = IR at it1 ⊢
  refine wp_seq (wp_set (d := .int many) (μ' := μ4) (ρ' := [some (.scr ns), some (.int size), some RS, some MS, some (.ref 0), some FS, some (.int N), some (.str rdS), some (.int home), some A, some (.lst (words.map .str)), none, some (.ref 2), some (.int many), none, none, none]) (by
    have mk : ∀ ν, mkL false [.int 37, .int 38, .int 39, .int 40, .int (N / 8 % 8)] ν = .ok (.lst [.int 37, .int 38, .int 39, .int 40, .int (N / 8 % 8)]) ν := fun ν => mk5
    rw [hkk] at m5
    generalize (.int (N / 8 % 8) : D) = E8 at m8 mk hix
    (simp only [ev_cst, ev_var, ev_bin, ev_call, ev_nil, ev_cons, ev_bool, ev_asB, ev_not, ev_and, ev_or, ev_tup, ev_lst, ev_yes, ev_chain, ev_andV2, ev_orV, orB_bb, orB_t, orB_f, andB_bb, andB_t, andB_f, ite_andB, ite_orB, op_is, op_isn, ev_bor, ev_borT, borT_ok, bor_b, bor_i, bor_s, bor_n, bor1, bor2, bora1, bora2, ev_notV, ev_ifE, ev_frzT, ev_met, ev_fld, ev_un, un_neg, ev_dnil, ev_methC, ev_iseq, ev_isi, List.getElem?_cons_succ, List.getElem?_cons_zero, List.set_cons_succ, List.set_cons_zero, Res.bind_ok, Res.of_some, vw_i, vw_b, vw_s, vw_n, vw_t, vw_l, vw_d, vw_k, vw_c, it_l, it_t, it_s, op_add_i, op_sub_i, op_lt_i, op_le_i, op_gt_i, op_ge_i, op_eq_i, op_ne_i, op_eq_b, op_ne_b, bi_len_l, bi_len_t, bi_len_d, bi_len_c, op_ix_0, op_ix_1, op_ix_2, tp1, tp2, tp3, tp4, tp5, mk0, mk1, mk2, mk3, mk4, mk5, if_true, if_false, Bool.false_eq_true, Bool.not_true, Bool.not_false, Bool.true_and, Bool.false_and, Bool.true_or, Bool.false_or, bt_one, bt_tup, bt_lst, sa_nil, sa_cons, wipeD, List.length_map, d8, m8, d64, m5, mk, hix] <;> try rfl)) rfl ?_)
  refine wp_seq (wp_set (d := .lst []) (μ' := μ4) (ρ' := [some (.scr ns), some (.int size), some RS, some MS, some (.ref 0), some FS, some (.int N), some (.str rdS), some (.int home), some A, some (.lst (words.map .str)), none, some (.ref 2), some (.int many), some (.lst []), none, none]) (by (simp only [ev_cst, ev_var, ev_bin, ev_call, ev_nil, ev_cons, ev_bool, ev_asB, ev_not, ev_and, ev_or, ev_tup, ev_lst, ev_yes, ev_chain, ev_andV2, ev_orV, orB_bb, orB_t, orB_f, andB_bb, andB_t, andB_f, ite_andB, ite_orB, op_is, op_isn, ev_bor, ev_borT, borT_ok, bor_b, bor_i, bor_s, bor_n, bor1, bor2, bora1, bora2, ev_notV, ev_ifE, ev_frzT, ev_met, ev_fld, ev_un, un_neg, ev_dnil, ev_methC, ev_iseq, ev_isi, List.getElem?_cons_succ, List.getElem?_cons_zero, List.set_cons_succ, List.set_cons_zero, Res.bind_ok, Res.of_some, vw_i, vw_b, vw_s, vw_n, vw_t, vw_l, vw_d, vw_k, vw_c, it_l, it_t, it_s, op_add_i, op_sub_i, op_lt_i, op_le_i, op_gt_i, op_ge_i, op_eq_i, op_ne_i, op_eq_b, op_ne_b, bi_len_l, bi_len_t, bi_len_d, bi_len_c, op_ix_0, op_ix_1, op_ix_2, tp1, tp2, tp3, tp4, tp5, mk0, mk1, mk2, mk3, mk4, mk5, if_true, if_false, Bool.false_eq_true, Bool.not_true, Bool.not_false, Bool.true_and, Bool.false_and, Bool.true_or, Bool.false_or, bt_one, bt_tup, bt_lst, sa_nil, sa_cons, wipeD, List.length_map] <;> try rfl)) (by (simp only [List.set_cons_succ, List.set_cons_zero] <;> try rfl)) ?_)
  clear d8 d64 m8 m5 hix
  have oa : okS agS := okS_of wa.2.2
  -- the rounds
  refine wp_seq (wp_for LR (fun done ρ μ => St52 A M size (List.replicate done.length agS) μ ∧ ∃ x15, ρ = [some (.scr ns), some (.int size), some RS, some MS, some (.ref 0), some FS, some (.int N), some (.str rdS), some (.int home), some A, some (.lst (words.map .str)), none, some (.ref 2), some (.int many), some (.lst ((List.replicate done.length agS).map .str)), x15, none]) (it1 _ _ rfl) ⟨h0, _, rfl⟩ ?_ ?_)
  · rintro done c rest ρ μ hd ⟨⟨ws, sok, W⟩, x15, rfl⟩
    refine ⟨_, bt_one, ?_⟩
    have hlen : done.length < 40 := by rw [hd, List.length_append, List.length_cons] at lr; omega
    obtain ⟨b, hr⟩ := reach (done.length + 1)
    rw [List.length_append, List.length_singleton]
    rw [List.replicate_succ'] at hr ⊢
    have hll : (List.replicate done.length agS).length = done.length := List.length_replicate
    generalize List.replicate done.length agS = past at sok W hr hll ⊢
    obtain ⟨ws', μ', a, e, W', _⟩ := caught_ok hM W sok (by omega) oa ⟨_, hr⟩
    have ad : ∀ ν, opAdd false (.lst (past.map .str)) (.lst [.str agS]) ν = .ok (.lst ((past ++ [agS]).map .str)) ν := fun ν => op_add_l (e := D.str) (xs := past) (ys := [agS]) ν (by rw [List.length_singleton]; omega)
    have e' : Φ_law_caught [.ref 2, .str agS] μ = .ok .non μ' := e
    refine wp_seq (wp_if (μ' := μ') (b := false) (by (simp only [ev_cst, ev_var, ev_bin, ev_call, ev_nil, ev_cons, ev_bool, ev_asB, ev_not, ev_and, ev_or, ev_tup, ev_lst, ev_yes, ev_chain, ev_andV2, ev_orV, orB_bb, orB_t, orB_f, andB_bb, andB_t, andB_f, ite_andB, ite_orB, op_is, op_isn, ev_bor, ev_borT, borT_ok, bor_b, bor_i, bor_s, bor_n, bor1, bor2, bora1, bora2, ev_notV, ev_ifE, ev_frzT, ev_met, ev_fld, ev_un, un_neg, ev_dnil, ev_methC, ev_iseq, ev_isi, List.getElem?_cons_succ, List.getElem?_cons_zero, List.set_cons_succ, List.set_cons_zero, Res.bind_ok, Res.of_some, vw_i, vw_b, vw_s, vw_n, vw_t, vw_l, vw_d, vw_k, vw_c, it_l, it_t, it_s, op_add_i, op_sub_i, op_lt_i, op_le_i, op_gt_i, op_ge_i, op_eq_i, op_ne_i, op_eq_b, op_ne_b, bi_len_l, bi_len_t, bi_len_d, bi_len_c, op_ix_0, op_ix_1, op_ix_2, tp1, tp2, tp3, tp4, tp5, mk0, mk1, mk2, mk3, mk4, mk5, if_true, if_false, Bool.false_eq_true, Bool.not_true, Bool.not_false, Bool.true_and, Bool.false_and, Bool.true_or, Bool.false_or, bt_one, bt_tup, bt_lst, sa_nil, sa_cons, wipeD, List.length_map, e', isNon] <;> try rfl)) (fun h => by cases h) (fun _ => wp_skip ?_))
    refine wp_set (d := .lst ((past ++ [agS]).map .str)) (μ' := μ') (by
      generalize (past ++ [agS]).map D.str = P2 at ad ⊢
      (simp only [ev_cst, ev_var, ev_bin, ev_call, ev_nil, ev_cons, ev_bool, ev_asB, ev_not, ev_and, ev_or, ev_tup, ev_lst, ev_yes, ev_chain, ev_andV2, ev_orV, orB_bb, orB_t, orB_f, andB_bb, andB_t, andB_f, ite_andB, ite_orB, op_is, op_isn, ev_bor, ev_borT, borT_ok, bor_b, bor_i, bor_s, bor_n, bor1, bor2, bora1, bora2, ev_notV, ev_ifE, ev_frzT, ev_met, ev_fld, ev_un, un_neg, ev_dnil, ev_methC, ev_iseq, ev_isi, List.getElem?_cons_succ, List.getElem?_cons_zero, List.set_cons_succ, List.set_cons_zero, Res.bind_ok, Res.of_some, vw_i, vw_b, vw_s, vw_n, vw_t, vw_l, vw_d, vw_k, vw_c, it_l, it_t, it_s, op_add_i, op_sub_i, op_lt_i, op_le_i, op_gt_i, op_ge_i, op_eq_i, op_ne_i, op_eq_b, op_ne_b, bi_len_l, bi_len_t, bi_len_d, bi_len_c, op_ix_0, op_ix_1, op_ix_2, tp1, tp2, tp3, tp4, tp5, mk0, mk1, mk2, mk3, mk4, mk5, if_true, if_false, Bool.false_eq_true, Bool.not_true, Bool.not_false, Bool.true_and, Bool.false_and, Bool.true_or, Bool.false_or, bt_one, bt_tup, bt_lst, sa_nil, sa_cons, wipeD, List.length_map, ad] <;> try rfl)) rfl ⟨⟨ws', a, W'⟩, _, rfl⟩
  rintro ρ μ ⟨hS, x15, rfl⟩
  have hpl : (List.replicate LR.length agS).length ≤ 40 := by rw [List.length_replicate]; exact lr
  have hpo : ∀ z ∈ List.replicate LR.length agS, okS z := fun z hz => by rw [List.eq_of_mem_replicate hz]; exact oa
  generalize List.replicate LR.length agS = past at hS hpl hpo ⊢
  clear it1 h0 reach hst0 hkn0 lr
  -- the tries
  have s1 : dSlice false (dVar 0) (some (dCst (.int 24))) (some (dCst (.int 25))) [some (.scr ns), some (.int size), some RS, some MS, some (.ref 0), some FS, some (.int N), some (.str rdS), some (.int home), some A, some (.lst (words.map .str)), none, some (.ref 2), some (.int many), some (.lst (past.map .str)), x15, none] μ = .ok (.lst ((cutA ns (some 24) (some 25)).map .int)) μ := ev_slice_c (by (simp only [ev_cst, ev_var, ev_bin, ev_call, ev_nil, ev_cons, ev_bool, ev_asB, ev_not, ev_and, ev_or, ev_tup, ev_lst, ev_yes, ev_chain, ev_andV2, ev_orV, orB_bb, orB_t, orB_f, andB_bb, andB_t, andB_f, ite_andB, ite_orB, op_is, op_isn, ev_bor, ev_borT, borT_ok, bor_b, bor_i, bor_s, bor_n, bor1, bor2, bora1, bora2, ev_notV, ev_ifE, ev_frzT, ev_met, ev_fld, ev_un, un_neg, ev_dnil, ev_methC, ev_iseq, ev_isi, List.getElem?_cons_succ, List.getElem?_cons_zero, List.set_cons_succ, List.set_cons_zero, Res.bind_ok, Res.of_some, vw_i, vw_b, vw_s, vw_n, vw_t, vw_l, vw_d, vw_k, vw_c, it_l, it_t, it_s, op_add_i, op_sub_i, op_lt_i, op_le_i, op_gt_i, op_ge_i, op_eq_i, op_ne_i, op_eq_b, op_ne_b, bi_len_l, bi_len_t, bi_len_d, bi_len_c, op_ix_0, op_ix_1, op_ix_2, tp1, tp2, tp3, tp4, tp5, mk0, mk1, mk2, mk3, mk4, mk5, if_true, if_false, Bool.false_eq_true, Bool.not_true, Bool.not_false, Bool.true_and, Bool.false_and, Bool.true_or, Bool.false_or, bt_one, bt_tup, bt_lst, sa_nil, sa_cons, wipeD, List.length_map] <;> try rfl)) (ends_ff rfl rfl) (by omega)
  have l1 := cutA_len ns (some 24) (some 25)
  have a1 := op_add_l (e := D.int) (xs := [1]) (ys := cutA ns (some 24) (some 25)) μ (by rw [List.length_singleton]; omega)
  generalize [1] ++ cutA ns (some 24) (some 25) = cs at a1
  have mk1' : mkL false [D.int 1] μ = .ok (.lst (([1] : List Int).map .int)) μ := mk1
  refine wp_seq (wp_for cs (fun _ ρ μ => ∃ past x15 x16, past.length ≤ 40 ∧ (∀ z ∈ past, okS z) ∧ St52 A M size past μ ∧ ρ = [some (.scr ns), some (.int size), some RS, some MS, some (.ref 0), some FS, some (.int N), some (.str rdS), some (.int home), some A, some (.lst (words.map .str)), none, some (.ref 2), some (.int many), some (.lst (past.map .str)), x15, x16]) (e := D.int) (μ' := μ) (by
    rw [ev_iseq, ev_bin, ev_lst]
    simp only [ev_cons, ev_nil, ev_cst, Res.bind_ok, mk1', s1, a1, it_l, Res.of_some]) ⟨past, _, _, hpl, hpo, hS, rfl⟩ ?_ ?_)
  · clear hS hpl hpo s1 a1
    rintro done c rest ρ μ hd ⟨past, x15, x16, hpl, hpo, ⟨ws, sok, W⟩, rfl⟩
    refine ⟨_, bt_one, ?_⟩
    obtain ⟨k, hk, hkl⟩ : ∃ k : Nat, c % (words.length : Int) = (k : Int) ∧ k < words.length := by
      have h1 := Int.emod_nonneg c (b := (words.length : Int)) (by omega)
      have h2 := Int.emod_lt_of_pos c (b := (words.length : Int)) (by omega)
      exact ⟨(c % (words.length : Int)).toNat, by omega, by omega⟩
    have mw : ∀ ν, opMod (.int c) (.int (words.map D.str).length) ν = .ok (.int k) ν := fun ν => by
      rw [List.length_map, op_mod_i (by omega), hk]
    have iw : ∀ ν, opIx (.lst (words.map .str)) (.int k) ν = .ok (.str words[k]) ν := fun ν => ix_str (List.getElem?_eq_getElem hkl) ν
    have ho := hw _ (List.getElem_mem hkl)
    generalize words[k] = s at iw ho
    obtain ⟨past', ws', μ', ho', hl', sok', W', e⟩ := f_tried hM W sok hpl hpo ho
    refine wp_seq (wp_set (d := .lst (past'.map .str)) (μ' := μ') (by
      have e' : Φ_law_tried [A, .ref 2, .lst (past.map .str), .str s] μ = .ok (.lst (past'.map .str)) μ' := e
      generalize past'.map D.str = P2 at e' ⊢
      generalize past.map D.str = P1 at e' ⊢
      generalize words.map D.str = Wd' at mw iw ⊢
      (simp only [ev_cst, ev_var, ev_bin, ev_call, ev_nil, ev_cons, ev_bool, ev_asB, ev_not, ev_and, ev_or, ev_tup, ev_lst, ev_yes, ev_chain, ev_andV2, ev_orV, orB_bb, orB_t, orB_f, andB_bb, andB_t, andB_f, ite_andB, ite_orB, op_is, op_isn, ev_bor, ev_borT, borT_ok, bor_b, bor_i, bor_s, bor_n, bor1, bor2, bora1, bora2, ev_notV, ev_ifE, ev_frzT, ev_met, ev_fld, ev_un, un_neg, ev_dnil, ev_methC, ev_iseq, ev_isi, List.getElem?_cons_succ, List.getElem?_cons_zero, List.set_cons_succ, List.set_cons_zero, Res.bind_ok, Res.of_some, vw_i, vw_b, vw_s, vw_n, vw_t, vw_l, vw_d, vw_k, vw_c, it_l, it_t, it_s, op_add_i, op_sub_i, op_lt_i, op_le_i, op_gt_i, op_ge_i, op_eq_i, op_ne_i, op_eq_b, op_ne_b, bi_len_l, bi_len_t, bi_len_d, bi_len_c, op_ix_0, op_ix_1, op_ix_2, tp1, tp2, tp3, tp4, tp5, mk0, mk1, mk2, mk3, mk4, mk5, if_true, if_false, Bool.false_eq_true, Bool.not_true, Bool.not_false, Bool.true_and, Bool.false_and, Bool.true_or, Bool.false_or, bt_one, bt_tup, bt_lst, sa_nil, sa_cons, wipeD, List.length_map, mw, iw, e'] <;> try rfl)) rfl ?_)
    refine wp_if (μ' := μ') (b := false) (by (simp only [ev_cst, ev_var, ev_bin, ev_call, ev_nil, ev_cons, ev_bool, ev_asB, ev_not, ev_and, ev_or, ev_tup, ev_lst, ev_yes, ev_chain, ev_andV2, ev_orV, orB_bb, orB_t, orB_f, andB_bb, andB_t, andB_f, ite_andB, ite_orB, op_is, op_isn, ev_bor, ev_borT, borT_ok, bor_b, bor_i, bor_s, bor_n, bor1, bor2, bora1, bora2, ev_notV, ev_ifE, ev_frzT, ev_met, ev_fld, ev_un, un_neg, ev_dnil, ev_methC, ev_iseq, ev_isi, List.getElem?_cons_succ, List.getElem?_cons_zero, List.set_cons_succ, List.set_cons_zero, Res.bind_ok, Res.of_some, vw_i, vw_b, vw_s, vw_n, vw_t, vw_l, vw_d, vw_k, vw_c, it_l, it_t, it_s, op_add_i, op_sub_i, op_lt_i, op_le_i, op_gt_i, op_ge_i, op_eq_i, op_ne_i, op_eq_b, op_ne_b, bi_len_l, bi_len_t, bi_len_d, bi_len_c, op_ix_0, op_ix_1, op_ix_2, tp1, tp2, tp3, tp4, tp5, mk0, mk1, mk2, mk3, mk4, mk5, if_true, if_false, Bool.false_eq_true, Bool.not_true, Bool.not_false, Bool.true_and, Bool.false_and, Bool.true_or, Bool.false_or, bt_one, bt_tup, bt_lst, sa_nil, sa_cons, wipeD, List.length_map, isNon] <;> try rfl)) (fun h => by cases h) (fun _ => wp_skip ⟨past', _, _, hl', ho', ⟨ws', sok', W'⟩, rfl⟩)
  clear hS hpl hpo s1 a1
  rintro ρ μ ⟨past, x15, x16, hpl, hpo, ⟨ws, sok, W⟩, rfl⟩
  obtain ⟨past', ws', μ', ho', hl', sok', W', e⟩ := f_tried hM W sok hpl hpo (s := "nosuch") (by decide +kernel)
  refine wp_ret (d := .bl true) (μ' := μ') ?_ rfl
  have e' : Φ_law_tried [A, .ref 2, .lst (past.map .str), .str ("nosuch" : Str)] μ = .ok (.lst (past'.map .str)) μ' := e
  generalize past'.map D.str = P2 at e'
  generalize past.map D.str = P1 at e' ⊢
  (simp only [ev_cst, ev_var, ev_bin, ev_call, ev_nil, ev_cons, ev_bool, ev_asB, ev_not, ev_and, ev_or, ev_tup, ev_lst, ev_yes, ev_chain, ev_andV2, ev_orV, orB_bb, orB_t, orB_f, andB_bb, andB_t, andB_f, ite_andB, ite_orB, op_is, op_isn, ev_bor, ev_borT, borT_ok, bor_b, bor_i, bor_s, bor_n, bor1, bor2, bora1, bora2, ev_notV, ev_ifE, ev_frzT, ev_met, ev_fld, ev_un, un_neg, ev_dnil, ev_methC, ev_iseq, ev_isi, List.getElem?_cons_succ, List.getElem?_cons_zero, List.set_cons_succ, List.set_cons_zero, Res.bind_ok, Res.of_some, vw_i, vw_b, vw_s, vw_n, vw_t, vw_l, vw_d, vw_k, vw_c, it_l, it_t, it_s, op_add_i, op_sub_i, op_lt_i, op_le_i, op_gt_i, op_ge_i, op_eq_i, op_ne_i, op_eq_b, op_ne_b, bi_len_l, bi_len_t, bi_len_d, bi_len_c, op_ix_0, op_ix_1, op_ix_2, tp1, tp2, tp3, tp4, tp5, mk0, mk1, mk2, mk3, mk4, mk5, if_true, if_false, Bool.false_eq_true, Bool.not_true, Bool.not_false, Bool.true_and, Bool.false_and, Bool.true_or, Bool.false_or, bt_one, bt_tup, bt_lst, sa_nil, sa_cons, wipeD, List.length_map, e', isNon] <;> try rfl)
end SB
set_option Elab.async false
set_option linter.all false
set_option maxRecDepth 100000
namespace SB
open PySem L2
def top (i : Nat) : Stmt := PySem.Challenge.pw_sightbook_k52_forty_sights.main.body.getD i (.Pass ⟨0, 0, 0, 0⟩)
def lcScope (e : Expr) : Scope := match e with
  | .ListComp _ _ sc _ => sc
  | _ => { kind := .function, names := [], isGenerator := false, isCoroutine := false }
def asgV (s : Stmt) : Expr := match s with
  | .Assign _ v _ => v
  | _ => .Constant .none 0 ⟨0, 0, 0, 0⟩
def retV (s : Stmt) : Expr := match s with
  | .Return (some v) _ => v
  | _ => .Constant .none 0 ⟨0, 0, 0, 0⟩
structure Txt (K : PySem.W.Frag) (mg : Str → Option Value) (ct : Nat → Addr × List Str) : Prop where
  n_len : mg "len" = none
  n_all : mg "all" = none
  n_list : mg "list" = none
  n_dict : mg "dict" = none
  n_sorted : mg "sorted" = none
  n_set : mg "set" = none
  n_range : mg "range" = none
  n_isinstance : mg "isinstance" = none
  n_ValueError : mg "ValueError" = none
  x_LETTERS : ∃ t, mg "LETTERS" = some (.str ("abcdefghijklmnopqrstuvwxyz" : Str) t)
  x_MOST_ROOMS : ∃ t, mg "MOST_ROOMS" = some (.int 8 t)
  x_MOST_MOVES : ∃ t, mg "MOST_MOVES" = some (.int 24 t)
  x_MOST_SIGHTS : ∃ t, mg "MOST_SIGHTS" = some (.int 40 t)
  c0 : ClsD K ct 0
  k0_0 : (ct 0).2[0]? = some ("size" : Str)
  k0_1 : (ct 0).2[1]? = some ("begun" : Str)
  k0_2 : (ct 0).2[2]? = some ("known" : Str)
  k0_3 : (ct 0).2[3]? = some ("leading" : Str)
  k0_4 : (ct 0).2[4]? = some ("seen" : Str)
  k0_5 : (ct 0).2[5]? = some ("wrong" : Str)
  c1 : ClsD K ct 1
  k1_0 : (ct 1).2[0]? = some ("machine" : Str)
  k1_1 : (ct 1).2[1]? = some ("past" : Str)
  k1_2 : (ct 1).2[2]? = some ("spots" : Str)
  e2 : ExD K ct 2
  g2 : mg "TooGreat" = some (.ref (ct 2).1)
  y2_0 : (ct 2).2[0]? = some ("most" : Str)
  y2_1 : (ct 2).2[1]? = some ("number" : Str)
  i2 : IsA K ct [2, 3, 4, 5, 6] [2] (.ref (ct 2).1)
  e3 : ExD K ct 3
  g3 : mg "NoRoom" = some (.ref (ct 3).1)
  y3_0 : (ct 3).2[0]? = some ("room" : Str)
  i3 : IsA K ct [2, 3, 4, 5, 6] [3] (.ref (ct 3).1)
  e4 : ExD K ct 4
  g4 : mg "NoWord" = some (.ref (ct 4).1)
  y4_0 : (ct 4).2[0]? = some ("word" : Str)
  i4 : IsA K ct [2, 3, 4, 5, 6] [4] (.ref (ct 4).1)
  e5 : ExD K ct 5
  g5 : mg "NoSight" = some (.ref (ct 5).1)
  y5_0 : (ct 5).2[0]? = some ("sign" : Str)
  i5 : IsA K ct [2, 3, 4, 5, 6] [5] (.ref (ct 5).1)
  g6 : mg "SightError" = some (.ref (ct 6).1)
  iV : IsA K ct [2, 3, 4, 5, 6] [2, 3, 4, 5, 6] (.type "ValueError")
  x6 : PySem.W.excIn K (ct 6).1 [.type "ValueError", .type "Exception", .type "BaseException", .type "object"] "ValueError.__new__" = true
  k6 : PySem.W.keepIn K (.ref (ct 6).1) = true
  m6 : ∀ c ∈ ([2, 3, 4, 5] : List Nat), PySem.W.exmOne K (.ref (ct c).1) (.ref (ct 6).1) = some true
  m5 : ∀ c ∈ ([5] : List Nat), PySem.W.exmOne K (.ref (ct c).1) (.ref (ct 5).1) = some true
abbrev s_TooGreat_init : Stmt := (inClass (top 2) 0)
abbrev N_TooGreat_init : List Str := ["self", "number", "most"]
abbrev P_TooGreat_init : List Str := ["self", "number", "most"]
theorem sc_TooGreat_init : FnScope N_TooGreat_init P_TooGreat_init (defScope s_TooGreat_init) := ⟨rfl, rfl, rfl, by decide +kernel, rfl, by decide +kernel, by decide +kernel⟩
abbrev s_NoRoom_init : Stmt := (inClass (top 3) 0)
abbrev N_NoRoom_init : List Str := ["self", "room"]
abbrev P_NoRoom_init : List Str := ["self", "room"]
theorem sc_NoRoom_init : FnScope N_NoRoom_init P_NoRoom_init (defScope s_NoRoom_init) := ⟨rfl, rfl, rfl, by decide +kernel, rfl, by decide +kernel, by decide +kernel⟩
abbrev s_NoWord_init : Stmt := (inClass (top 4) 0)
abbrev N_NoWord_init : List Str := ["self", "word"]
abbrev P_NoWord_init : List Str := ["self", "word"]
theorem sc_NoWord_init : FnScope N_NoWord_init P_NoWord_init (defScope s_NoWord_init) := ⟨rfl, rfl, rfl, by decide +kernel, rfl, by decide +kernel, by decide +kernel⟩
abbrev s_NoSight_init : Stmt := (inClass (top 5) 0)
abbrev N_NoSight_init : List Str := ["self", "sign"]
abbrev P_NoSight_init : List Str := ["self", "sign"]
theorem sc_NoSight_init : FnScope N_NoSight_init P_NoSight_init (defScope s_NoSight_init) := ⟨rfl, rfl, rfl, by decide +kernel, rfl, by decide +kernel, by decide +kernel⟩
abbrev s_law_cell : Stmt := (top 29)
abbrev N_law_cell : List Str := ["_law_script", "_law_k"]
abbrev P_law_cell : List Str := ["_law_script", "_law_k"]
theorem sc_law_cell : FnScope N_law_cell P_law_cell (defScope s_law_cell) := ⟨rfl, rfl, rfl, by decide +kernel, rfl, by decide +kernel, by decide +kernel⟩
set_option maxHeartbeats 4000000 in
theorem ok_law_cell {P : Program} {w : World} {K : PySem.W.Frag} {mg : Str → Option Value} {base : Heap} {ct : Nat → Addr × List Str} {f : Addr} {fd : FuncData} (F : Fun K "_law_cell" "_law_cell" s_law_cell f fd) (T : Txt K mg ct) :
    FnOk P w K mg base CX0 1 f fd P_law_cell (spG ⟨P, w, K, ct⟩ 2 Φ_law_cell) := by
  refine FnOk.pure (n := 2) (fn_ok (N := N_law_cell) F sc_law_cell (fun cdv A outer s H E hr => ?_))
  have hu9 : (A.deeper (PyProof.Rows.envOfC "_law_cell" (defScope s_law_cell) s.heap.objs.size f cdv)).units + 9 < cLine := by have := hr.un; omega
  have hu64 : (A.deeper (PyProof.Rows.envOfC "_law_cell" (defScope s_law_cell) s.heap.objs.size f cdv)).units + 64 < cLine := by have := hr.un; omega
  have hu65 : (A.deeper (PyProof.Rows.envOfC "_law_cell" (defScope s_law_cell) s.heap.objs.size f cdv)).units + 65 < cLine := by have := hr.un; omega
  exact (ds_cons (ds_if (dt_cmp op_lt os_lt (de_var 1) (de_callB (call_lenA ct) cs_len rfl T.n_len PySem.boot_len (da_cons (de_var 0) da_nil))) (ds_one (ds_ret (de_ix hu9 (de_var 0) (de_var 1)))) ds_nil)
    (ds_one (ds_ret de_int)))
abbrev s_law_signs : Stmt := (top 32)
abbrev N_law_signs : List Str := ["_law_deeds_here", "_law_cell_here", "_law_spare", "_law_number", "_law_signs_here", "_law_deed", "_law_kind"]
abbrev P_law_signs : List Str := ["_law_deeds_here", "_law_cell_here", "_law_spare"]
theorem sc_law_signs : FnScope N_law_signs P_law_signs (defScope s_law_signs) := ⟨rfl, rfl, rfl, by decide +kernel, rfl, by decide +kernel, by decide +kernel⟩
set_option maxHeartbeats 4000000 in
theorem ok_law_signs {P : Program} {w : World} {K : PySem.W.Frag} {mg : Str → Option Value} {base : Heap} {ct : Nat → Addr × List Str} {f : Addr} {fd : FuncData} (F : Fun K "_law_signs" "_law_signs" s_law_signs f fd) (T : Txt K mg ct) :
    FnOk P w K mg base CX0 1 f fd P_law_signs (spG ⟨P, w, K, ct⟩ 3 Φ_law_signs) := by
  refine FnOk.pure (n := 7) (fn_ok (N := N_law_signs) F sc_law_signs (fun cdv A outer s H E hr => ?_))
  have hu9 : (A.deeper (PyProof.Rows.envOfC "_law_signs" (defScope s_law_signs) s.heap.objs.size f cdv)).units + 9 < cLine := by have := hr.un; omega
  have hu64 : (A.deeper (PyProof.Rows.envOfC "_law_signs" (defScope s_law_signs) s.heap.objs.size f cdv)).units + 64 < cLine := by have := hr.un; omega
  have hu65 : (A.deeper (PyProof.Rows.envOfC "_law_signs" (defScope s_law_signs) s.heap.objs.size f cdv)).units + 65 < cLine := by have := hr.un; omega
  exact (ds_cons (ds_set (i := 3) sc_law_signs.nd rfl (Or.inl rfl) (de_bin op_mod os_mod (de_bin op_mulA (os_mulA false) (de_var 1) de_int) de_int))
    (ds_cons (ds_set (i := 4) sc_law_signs.nd rfl (Or.inl rfl) de_dnil)
    (ds_cons (ds_for PassesOwn.never rfl (di_seq (de_var 0)) (pg_name (i := 5) sc_law_signs.nd rfl (Or.inl rfl)) (go_name 5) (ds_cons (ds_set (i := 6) sc_law_signs.nd rfl (Or.inl rfl) (de_bin op_mod os_mod (de_var 3) de_int))
    (ds_cons (ds_if (dt_cmp op_lt os_lt (de_var 6) de_int) (ds_one (ds_sub hu9 (de_var 4) (de_var 5) (de_ix hu9 (de_lst false (da_cons (de_ix hu9 (de_var 2) de_int) (da_cons (de_ix hu9 (de_var 2) de_int) (da_cons (de_ix hu9 (de_var 2) de_int) (da_cons (de_var 5) (da_cons (de_ix hu9 (de_var 2) de_int) da_nil)))))) (de_var 6)))) ds_nil)
    (ds_one (ds_set (i := 3) sc_law_signs.nd rfl (Or.inl rfl) (de_bin op_fdivW os_fdiv (de_var 3) de_int))))))
    (ds_one (ds_ret (de_frzT (de_var 4)))))))
set_option maxHeartbeats 4000000 in
theorem ok_law_signs_L {P : Program} {w : World} {K : PySem.W.Frag} {mg : Str → Option Value} {base : Heap} {ct : Nat → Addr × List Str} {f : Addr} {fd : FuncData} (F : Fun K "_law_signs" "_law_signs" s_law_signs f fd) (T : Txt K mg ct) :
    FnOk P w K mg base CX0 1 f fd P_law_signs (spG ⟨P, w, K, ct⟩ 3 Φ_law_signs_L) := by
  refine fn_ok (N := N_law_signs) F sc_law_signs (fun cdv A outer s H E hr => ?_)
  have hu9 : (A.deeper (PyProof.Rows.envOfC "_law_signs" (defScope s_law_signs) s.heap.objs.size f cdv)).units + 9 < cLine := by have := hr.un; omega
  have hu64 : (A.deeper (PyProof.Rows.envOfC "_law_signs" (defScope s_law_signs) s.heap.objs.size f cdv)).units + 64 < cLine := by have := hr.un; omega
  have hu65 : (A.deeper (PyProof.Rows.envOfC "_law_signs" (defScope s_law_signs) s.heap.objs.size f cdv)).units + 65 < cLine := by have := hr.un; omega
  exact (ds_cons (ds_set (i := 3) sc_law_signs.nd rfl (Or.inl rfl) (de_bin op_mod os_mod (de_bin op_mulA (os_mulA false) (de_var 1) de_int) de_int))
    (ds_cons (ds_set (i := 4) sc_law_signs.nd rfl (Or.inl rfl) de_dnil)
    (ds_cons (ds_for PassesOwn.never rfl (di_seq (de_var 0)) (pg_name (i := 5) sc_law_signs.nd rfl (Or.inl rfl)) (go_name 5) (ds_cons (ds_set (i := 6) sc_law_signs.nd rfl (Or.inl rfl) (de_bin op_mod os_mod (de_var 3) de_int))
    (ds_cons (ds_if (dt_cmp op_lt os_lt (de_var 6) de_int) (ds_one (ds_sub hu9 (de_var 4) (de_var 5) (de_ix hu9 (de_lst false (da_cons (de_ix hu9 (de_var 2) de_int) (da_cons (de_ix hu9 (de_var 2) de_int) (da_cons (de_ix hu9 (de_var 2) de_int) (da_cons (de_var 5) (da_cons (de_ix hu9 (de_var 2) de_int) da_nil)))))) (de_var 6)))) ds_nil)
    (ds_one (ds_set (i := 3) sc_law_signs.nd rfl (Or.inl rfl) (de_bin op_fdivW os_fdiv (de_var 3) de_int))))))
    (ds_one (ds_ret (de_var 4))))))
abbrev s_law_rooms : Stmt := (top 34)
abbrev N_law_rooms : List Str := ["_law_cell_here", "_law_size", "_law_number", "_law_found", "_law_room"]
abbrev P_law_rooms : List Str := ["_law_cell_here", "_law_size"]
theorem sc_law_rooms : FnScope N_law_rooms P_law_rooms (defScope s_law_rooms) := ⟨rfl, rfl, rfl, by decide +kernel, rfl, by decide +kernel, by decide +kernel⟩
set_option maxHeartbeats 4000000 in
theorem ok_law_rooms {P : Program} {w : World} {K : PySem.W.Frag} {mg : Str → Option Value} {base : Heap} {ct : Nat → Addr × List Str} {f : Addr} {fd : FuncData} (F : Fun K "_law_rooms" "_law_rooms" s_law_rooms f fd) (T : Txt K mg ct) :
    FnOk P w K mg base CX0 1 f fd P_law_rooms (spG ⟨P, w, K, ct⟩ 2 Φ_law_rooms) := by
  refine FnOk.pure (n := 5) (fn_ok (N := N_law_rooms) F sc_law_rooms (fun cdv A outer s H E hr => ?_))
  have hu9 : (A.deeper (PyProof.Rows.envOfC "_law_rooms" (defScope s_law_rooms) s.heap.objs.size f cdv)).units + 9 < cLine := by have := hr.un; omega
  have hu64 : (A.deeper (PyProof.Rows.envOfC "_law_rooms" (defScope s_law_rooms) s.heap.objs.size f cdv)).units + 64 < cLine := by have := hr.un; omega
  have hu65 : (A.deeper (PyProof.Rows.envOfC "_law_rooms" (defScope s_law_rooms) s.heap.objs.size f cdv)).units + 65 < cLine := by have := hr.un; omega
  exact (ds_cons (ds_set (i := 2) sc_law_rooms.nd rfl (Or.inr rfl) (de_bin op_mod os_mod (de_bin op_mulA (os_mulA false) (de_var 0) de_int) de_int))
    (ds_cons (ds_lc (i := 3) (own := [("_law_room", 4)]) false rfl sc_law_rooms.nd rfl rfl (sw_true rfl rfl rfl (by decide +kernel)) (di_rng1 rfl T.n_range (de_var 1)) (blkOk_by (own := [("_law_room", 4)]) (N := N_law_rooms) (sc := defScope s_law_rooms) (by decide +kernel)) (go_name 4) (by decide) (fun _ _ _ _ _ => (pg_name (i := 4) sc_law_rooms.nd rfl (Or.inl rfl))) (fun _ _ _ _ _ => (pts_one (dt_cmp (op_eqD hu64) os_eq (de_bin op_and os_band (de_bin op_shr os_shr (de_var 2) (de_var 4)) de_int) de_int))) (fun _ _ _ _ _ => (de_var 4)))
    (ds_cons (ds_if (dt_pw (dw_and (dt_cmp (op_eqD hu64) os_eq (de_var 3) (de_lst false da_nil)) (dw_and1 (dt_cmp op_gt os_gt (de_bin op_mod os_mod (de_bin op_fdivW os_fdiv (de_var 2) de_int) de_int) de_int)))) (ds_one (ds_ret (de_lst false (da_cons (de_bin op_mod os_mod (de_bin op_fdivW os_fdiv (de_var 2) de_int) (de_var 1)) da_nil)))) ds_nil)
    (ds_one (ds_ret (de_var 3))))))
abbrev s_law_moves : Stmt := (top 33)
abbrev N_law_moves : List Str := ["_law_cells", "_law_size", "_law_deeds_here", "_law_moves_here", "_law_cell_here", "_law_number"]
abbrev P_law_moves : List Str := ["_law_cells", "_law_size", "_law_deeds_here"]
theorem sc_law_moves : FnScope N_law_moves P_law_moves (defScope s_law_moves) := ⟨rfl, rfl, rfl, by decide +kernel, rfl, by decide +kernel, by decide +kernel⟩
set_option maxHeartbeats 4000000 in
theorem ok_law_moves {P : Program} {w : World} {K : PySem.W.Frag} {mg : Str → Option Value} {base : Heap} {ct : Nat → Addr × List Str} {f : Addr} {fd : FuncData} (F : Fun K "_law_moves" "_law_moves" s_law_moves f fd) (T : Txt K mg ct) :
    FnOk P w K mg base CX0 1 f fd P_law_moves (spG ⟨P, w, K, ct⟩ 3 Φ_law_moves) := by
  refine FnOk.pure (n := 6) (fn_ok (N := N_law_moves) F sc_law_moves (fun cdv A outer s H E hr => ?_))
  have hu9 : (A.deeper (PyProof.Rows.envOfC "_law_moves" (defScope s_law_moves) s.heap.objs.size f cdv)).units + 9 < cLine := by have := hr.un; omega
  have hu64 : (A.deeper (PyProof.Rows.envOfC "_law_moves" (defScope s_law_moves) s.heap.objs.size f cdv)).units + 64 < cLine := by have := hr.un; omega
  have hu65 : (A.deeper (PyProof.Rows.envOfC "_law_moves" (defScope s_law_moves) s.heap.objs.size f cdv)).units + 65 < cLine := by have := hr.un; omega
  exact (ds_cons (ds_set (i := 3) sc_law_moves.nd rfl (Or.inl rfl) (de_lst true da_nil))
    (ds_cons (ds_for PassesOwn.never rfl (di_seq (de_var 0)) (pg_name (i := 4) sc_law_moves.nd rfl (Or.inl rfl)) (go_name 4) (ds_cons (ds_set (i := 5) sc_law_moves.nd rfl (Or.inl rfl) (de_bin op_mod os_mod (de_bin op_mulA (os_mulA false) (de_var 4) de_int) de_int))
    (ds_one (ds_expr (de_met PySem.F.plainAttrs_list PySem.F.slot_list_append PySem.F.type_list_append mt_append ty_list ms_app (de_var 3) (da_cons (de_tup (da_cons (de_bin op_mod os_mod (de_var 5) (de_var 1)) (da_cons (de_ix hu9 (de_var 2) (de_bin op_mod os_mod (de_bin op_fdivW os_fdiv (de_var 5) de_int) (de_callB (call_lenA ct) cs_len rfl T.n_len PySem.boot_len (da_cons (de_var 2) da_nil)))) (da_cons (de_bin op_mod os_mod (de_bin op_fdivW os_fdiv (de_var 5) de_int) (de_var 1)) da_nil)))) da_nil))))))
    (ds_one (ds_ret (de_frzT (de_var 3))))))
abbrev s_law_words : Stmt := (top 30)
abbrev N_law_words : List Str := ["_law_cell_here", "_law_letters", "_law_number", "_law_base", "_law_k", "_law_at"]
abbrev P_law_words : List Str := ["_law_cell_here"]
theorem sc_law_words : FnScope N_law_words P_law_words (defScope s_law_words) := ⟨rfl, rfl, rfl, by decide +kernel, rfl, by decide +kernel, by decide +kernel⟩
set_option maxHeartbeats 4000000 in
theorem ok_law_words {P : Program} {w : World} {K : PySem.W.Frag} {mg : Str → Option Value} {base : Heap} {ct : Nat → Addr × List Str} {f : Addr} {fd : FuncData} (F : Fun K "_law_words" "_law_words" s_law_words f fd) (T : Txt K mg ct) :
    FnOk P w K mg base CX0 1 f fd P_law_words (spG ⟨P, w, K, ct⟩ 1 Φ_law_words) := by
  refine FnOk.pure (n := 6) (fn_ok (N := N_law_words) F sc_law_words (fun cdv A outer s H E hr => ?_))
  have hu9 : (A.deeper (PyProof.Rows.envOfC "_law_words" (defScope s_law_words) s.heap.objs.size f cdv)).units + 9 < cLine := by have := hr.un; omega
  have hu64 : (A.deeper (PyProof.Rows.envOfC "_law_words" (defScope s_law_words) s.heap.objs.size f cdv)).units + 64 < cLine := by have := hr.un; omega
  have hu65 : (A.deeper (PyProof.Rows.envOfC "_law_words" (defScope s_law_words) s.heap.objs.size f cdv)).units + 65 < cLine := by have := hr.un; omega
  exact (ds_cons (ds_set (i := 1) sc_law_words.nd rfl (Or.inr rfl) de_str)
    (ds_cons (ds_set (i := 2) sc_law_words.nd rfl (Or.inr rfl) (de_bin op_mod os_mod (de_bin op_mulA (os_mulA false) (de_var 0) de_int) (de_bin op_pow os_pow de_int de_int)))
    (ds_cons (ds_set (i := 3) sc_law_words.nd rfl (Or.inr rfl) de_str)
    (ds_cons (ds_for PassesOwn.never rfl (di_rng1 rfl T.n_range (de_bin op_mod os_mod (de_var 2) de_int)) (pg_name (i := 4) sc_law_words.nd rfl (Or.inl rfl)) (go_name 4) (ds_cons (ds_set (i := 3) sc_law_words.nd rfl (Or.inr rfl) (de_bin op_addD (os_add false) (de_var 3) (de_ix hu9 (de_var 1) (de_bin op_mod os_mod (de_bin op_fdivW os_fdiv (de_var 2) de_int) de_int))))
    (ds_one (ds_set (i := 2) sc_law_words.nd rfl (Or.inr rfl) (de_bin op_fdivW os_fdiv (de_var 2) de_int)))))
    (ds_cons (ds_set (i := 5) sc_law_words.nd rfl (Or.inr rfl) (de_bin op_mod os_mod (de_bin op_fdivW os_fdiv (de_var 2) de_int) (de_bin op_addD (os_add false) (de_callB (call_lenA ct) cs_len rfl T.n_len PySem.boot_len (da_cons (de_var 3) da_nil)) de_int)))
    (ds_cons (ds_if (dt_cmp (op_eqD hu64) os_eq (de_bin op_mod os_mod (de_var 2) de_int) de_int) (ds_cons (ds_set (i := 3) sc_law_words.nd rfl (Or.inr rfl) (de_join de_str (de_lc (own := [("_law_k", 4)]) false rfl sc_law_words.nd (di_rng1 rfl T.n_range de_int) (blkOk_by (own := [("_law_k", 4)]) (N := N_law_words) (sc := defScope s_law_words) (by decide +kernel)) (go_name 4) (by decide) (fun _ _ _ _ _ => (pg_name (i := 4) sc_law_words.nd rfl (Or.inl rfl))) (fun _ _ _ _ _ => dpts_nil) (fun _ _ _ _ _ => (de_ix hu9 (de_var 1) (de_bin op_mod os_mod (de_bin op_fdivW os_fdiv (de_var 2) (de_bin op_addD (os_add false) de_int (de_bin op_mulA (os_mulA false) (de_var 4) (de_var 4)))) de_int))))))
    (ds_one (ds_ret (de_lc (own := [("_law_k", 4)]) false rfl sc_law_words.nd (di_rng1 rfl T.n_range de_int) (blkOk_by (own := [("_law_k", 4)]) (N := N_law_words) (sc := defScope s_law_words) (by decide +kernel)) (go_name 4) (by decide) (fun _ _ _ _ _ => (pg_name (i := 4) sc_law_words.nd rfl (Or.inl rfl))) (fun _ _ _ _ _ => dpts_nil) (fun _ _ _ _ _ => (de_slice false (de_var 3) do_none (do_some (de_bin op_addD (os_add false) (de_var 4) de_int)))))))) ds_nil)
    (ds_one (ds_ret (de_lc (own := [("_law_k", 4)]) false rfl sc_law_words.nd (di_rng1 rfl T.n_range de_int) (blkOk_by (own := [("_law_k", 4)]) (N := N_law_words) (sc := defScope s_law_words) (by decide +kernel)) (go_name 4) (by decide) (fun _ _ _ _ _ => (pg_name (i := 4) sc_law_words.nd rfl (Or.inl rfl))) (fun _ _ _ _ _ => dpts_nil) (fun _ _ _ _ _ => (de_bin op_addD (os_add false) (de_bin op_addD (os_add false) (de_slice false (de_var 3) do_none (do_some (de_var 5))) (de_ix hu9 (de_var 1) (de_bin op_mod os_mod (de_bin op_addD (os_add false) (de_bin op_fdivW os_fdiv (de_var 2) de_int) (de_bin op_mulA (os_mulA false) de_int (de_var 4))) de_int))) (de_slice false (de_var 3) (do_some (de_var 5)) do_none))))))))))))
abbrev s_law_deeds : Stmt := (top 31)
abbrev N_law_deeds : List Str := ["_law_cell_here"]
abbrev P_law_deeds : List Str := ["_law_cell_here"]
theorem sc_law_deeds : FnScope N_law_deeds P_law_deeds (defScope s_law_deeds) := ⟨rfl, rfl, rfl, by decide +kernel, rfl, by decide +kernel, by decide +kernel⟩
set_option maxHeartbeats 4000000 in
theorem ok_law_deeds {P : Program} {w : World} {K : PySem.W.Frag} {mg : Str → Option Value} {base : Heap} {ct : Nat → Addr × List Str} {f : Addr} {fd : FuncData} (F : Fun K "_law_deeds" "_law_deeds" s_law_deeds f fd) (T : Txt K mg ct) (c_law_words : Cal P w K mg base ⟨P, w, K, ct⟩ "_law_words" 1 1 Φ_law_words) :
    FnOk P w K mg base CX0 2 f fd P_law_deeds (spG ⟨P, w, K, ct⟩ 1 Φ_law_deeds) := by
  refine FnOk.pure (n := 1) (fn_ok (N := N_law_deeds) F sc_law_deeds (fun cdv A outer s H E hr => ?_))
  have hu9 : (A.deeper (PyProof.Rows.envOfC "_law_deeds" (defScope s_law_deeds) s.heap.objs.size f cdv)).units + 9 < cLine := by have := hr.un; omega
  have hu64 : (A.deeper (PyProof.Rows.envOfC "_law_deeds" (defScope s_law_deeds) s.heap.objs.size f cdv)).units + 64 < cLine := by have := hr.un; omega
  have hu65 : (A.deeper (PyProof.Rows.envOfC "_law_deeds" (defScope s_law_deeds) s.heap.objs.size f cdv)).units + 65 < cLine := by have := hr.un; omega
  exact (ds_one (ds_ret (de_cal c_law_words hr (by decide) rfl (da_cons (de_var 0) da_nil) (len_cons (fun _ _ _ _ => len_nil)))))
abbrev s_law_parts : Stmt := (top 35)
abbrev N_law_parts : List Str := ["_law_script", "_law_at", "_law_most", "_law_cell_here", "_law_size", "_law_deeds_here", "_law_signs_here", "_law_number", "_law_faults", "_law_k", "_law_starts", "_law_moves_here"]
abbrev P_law_parts : List Str := ["_law_script", "_law_at", "_law_most"]
theorem sc_law_parts : FnScope N_law_parts P_law_parts (defScope s_law_parts) := ⟨rfl, rfl, rfl, by decide +kernel, rfl, by decide +kernel, by decide +kernel⟩
set_option maxHeartbeats 4000000 in
theorem ok_law_parts_L {P : Program} {w : World} {K : PySem.W.Frag} {mg : Str → Option Value} {base : Heap} {ct : Nat → Addr × List Str} {f : Addr} {fd : FuncData} (F : Fun K "_law_parts" "_law_parts" s_law_parts f fd) (T : Txt K mg ct) (c_law_cell : Cal P w K mg base ⟨P, w, K, ct⟩ "_law_cell" 1 2 Φ_law_cell) (c_law_deeds : Cal P w K mg base ⟨P, w, K, ct⟩ "_law_deeds" 2 1 Φ_law_deeds) (c_law_signs_L : Cal P w K mg base ⟨P, w, K, ct⟩ "_law_signs" 1 3 Φ_law_signs_L) (c_law_words : Cal P w K mg base ⟨P, w, K, ct⟩ "_law_words" 1 1 Φ_law_words) (c_law_rooms : Cal P w K mg base ⟨P, w, K, ct⟩ "_law_rooms" 1 2 Φ_law_rooms) (c_law_moves : Cal P w K mg base ⟨P, w, K, ct⟩ "_law_moves" 1 3 Φ_law_moves) :
    FnOk P w K mg base CX0 3 f fd P_law_parts (spG ⟨P, w, K, ct⟩ 3 Φ_law_parts_L) := by
  refine fn_ok (N := N_law_parts) F sc_law_parts (fun cdv A outer s H E hr => ?_)
  have hu9 : (A.deeper (PyProof.Rows.envOfC "_law_parts" (defScope s_law_parts) s.heap.objs.size f cdv)).units + 9 < cLine := by have := hr.un; omega
  have hu64 : (A.deeper (PyProof.Rows.envOfC "_law_parts" (defScope s_law_parts) s.heap.objs.size f cdv)).units + 64 < cLine := by have := hr.un; omega
  have hu65 : (A.deeper (PyProof.Rows.envOfC "_law_parts" (defScope s_law_parts) s.heap.objs.size f cdv)).units + 65 < cLine := by have := hr.un; omega
  exact (ds_cons (ds_set (i := 3) sc_law_parts.nd rfl (Or.inl rfl) (de_cal c_law_cell hr (by decide) rfl (da_cons (de_var 0) (da_cons (de_var 1) da_nil)) (len_cons (len_cons (fun _ _ _ _ => len_nil)))))
    (ds_cons (ds_set (i := 4) sc_law_parts.nd rfl (Or.inl rfl) (de_ix hu9 (de_lst false (da_cons de_int (da_cons de_int (da_cons de_int (da_cons de_int (da_cons de_int (da_cons de_int (da_cons de_int (da_cons de_int da_nil))))))))) (de_bin op_mod os_mod (de_var 3) de_int)))
    (ds_cons (ds_set (i := 5) sc_law_parts.nd rfl (Or.inr rfl) (de_slice false (de_cal c_law_deeds hr (by decide) rfl (da_cons (de_bin op_fdivW os_fdiv (de_var 3) de_int) da_nil) (len_cons (fun _ _ _ _ => len_nil))) do_none (do_some (de_bin op_addD (os_add false) de_int (de_bin op_mod os_mod (de_bin op_fdivW os_fdiv (de_var 3) de_int) de_int)))))
    (ds_cons (ds_set (i := 6) sc_law_parts.nd rfl (Or.inl rfl) (de_cal c_law_signs_L hr (by decide) rfl (da_cons (de_var 5) (da_cons (de_cal c_law_cell hr (by decide) rfl (da_cons (de_var 0) (da_cons (de_bin op_addD (os_add false) (de_var 1) de_int) da_nil)) (len_cons (len_cons (fun _ _ _ _ => len_nil)))) (da_cons (de_cal c_law_words hr (by decide) rfl (da_cons (de_bin op_addD (os_add false) (de_bin op_fdivW os_fdiv (de_var 3) de_int) de_int) da_nil) (len_cons (fun _ _ _ _ => len_nil))) da_nil))) (len_cons (len_cons (len_cons (fun _ _ _ _ => len_nil))))))
    (ds_cons (ds_set (i := 7) sc_law_parts.nd rfl (Or.inr rfl) (de_bin op_mod os_mod (de_bin op_mulA (os_mulA false) (de_cal c_law_cell hr (by decide) rfl (da_cons (de_var 0) (da_cons (de_bin op_addD (os_add false) (de_var 1) de_int) da_nil)) (len_cons (len_cons (fun _ _ _ _ => len_nil)))) de_int) de_int))
    (ds_cons (ds_lc (i := 8) (own := [("_law_k", 9)]) false rfl sc_law_parts.nd rfl rfl (sw_true rfl rfl rfl (by decide +kernel)) (di_rng1 rfl T.n_range (de_callB (call_lenA ct) cs_len rfl T.n_len PySem.boot_len (da_cons (de_var 5) da_nil))) (blkOk_by (own := [("_law_k", 9)]) (N := N_law_parts) (sc := defScope s_law_parts) (by decide +kernel)) (go_name 9) (by decide) (fun _ _ _ _ _ => (pg_name (i := 9) sc_law_parts.nd rfl (Or.inl rfl))) (fun _ _ _ _ _ => (pts_one (dt_cmp (op_eqD hu64) os_eq (de_bin op_mod os_mod (de_bin op_fdivW os_fdiv (de_var 7) (de_ix hu9 (de_lst false (da_cons de_int (da_cons de_int (da_cons de_int (da_cons de_int (da_cons de_int da_nil)))))) (de_var 9))) de_int) de_int))) (fun _ _ _ _ _ => (de_ix hu9 (de_var 5) (de_var 9))))
    (ds_cons (ds_set (i := 10) sc_law_parts.nd rfl (Or.inl rfl) (de_cal c_law_rooms hr (by decide) rfl (da_cons (de_cal c_law_cell hr (by decide) rfl (da_cons (de_var 0) (da_cons (de_bin op_addD (os_add false) (de_var 1) de_int) da_nil)) (len_cons (len_cons (fun _ _ _ _ => len_nil)))) (da_cons (de_var 4) da_nil)) (len_cons (len_cons (fun _ _ _ _ => len_nil)))))
    (ds_cons (ds_set (i := 11) sc_law_parts.nd rfl (Or.inl rfl) (de_cal c_law_moves hr (by decide) rfl (da_cons (de_slice false (de_var 0) (do_some (de_bin op_addD (os_add false) (de_var 1) de_int)) (do_some (de_bin op_addD (os_add false) (de_bin op_addD (os_add false) (de_var 1) de_int) (de_var 2)))) (da_cons (de_var 4) (da_cons (de_var 5) da_nil))) (len_cons (len_cons (len_cons (fun _ _ _ _ => len_nil))))))
    (ds_one (ds_ret (de_lst false (da_cons (de_var 4) (da_cons (de_var 10) (da_cons (de_var 11) (da_cons (de_var 6) (da_cons (de_var 8) da_nil))))))))))))))))
abbrev s_must_room : Stmt := (top 12)
abbrev N_must_room : List Str := ["room", "size"]
abbrev P_must_room : List Str := ["room", "size"]
theorem sc_must_room : FnScope N_must_room P_must_room (defScope s_must_room) := ⟨rfl, rfl, rfl, by decide +kernel, rfl, by decide +kernel, by decide +kernel⟩
set_option maxHeartbeats 4000000 in
theorem ok_must_room {P : Program} {w : World} {K : PySem.W.Frag} {mg : Str → Option Value} {base : Heap} {ct : Nat → Addr × List Str} {f : Addr} {fd : FuncData} (F : Fun K "must_room" "must_room" s_must_room f fd) (T : Txt K mg ct) :
    FnOk P w K mg base CX0 1 f fd P_must_room (spG ⟨P, w, K, ct⟩ 2 Φ_must_room) := by
  refine FnOk.pure (n := 2) (fn_ok (N := N_must_room) F sc_must_room (fun cdv A outer s H E hr => ?_))
  have hu9 : (A.deeper (PyProof.Rows.envOfC "must_room" (defScope s_must_room) s.heap.objs.size f cdv)).units + 9 < cLine := by have := hr.un; omega
  have hu64 : (A.deeper (PyProof.Rows.envOfC "must_room" (defScope s_must_room) s.heap.objs.size f cdv)).units + 64 < cLine := by have := hr.un; omega
  have hu65 : (A.deeper (PyProof.Rows.envOfC "must_room" (defScope s_must_room) s.heap.objs.size f cdv)).units + 65 < cLine := by have := hr.un; omega
  exact (ds_one (ds_if (dt_not (dt_chain op_le os_le op_lt os_lt de_int (de_var 0) (de_var 1))) (ds_one (ds_never fun _ _ => rfl)) ds_nil))
abbrev s_is_word : Stmt := (top 10)
abbrev N_is_word : List Str := ["text", "sign"]
abbrev P_is_word : List Str := ["text"]
theorem sc_is_word : FnScope N_is_word P_is_word (defScope s_is_word) := ⟨rfl, rfl, rfl, by decide +kernel, rfl, by decide +kernel, by decide +kernel⟩
set_option maxHeartbeats 4000000 in
theorem ok_is_word {P : Program} {w : World} {K : PySem.W.Frag} {mg : Str → Option Value} {base : Heap} {ct : Nat → Addr × List Str} {f : Addr} {fd : FuncData} (F : Fun K "is_word" "is_word" s_is_word f fd) (T : Txt K mg ct) :
    FnOk P w K mg base CX0 1 f fd P_is_word (spG ⟨P, w, K, ct⟩ 1 Φ_is_word) := by
  refine FnOk.pure (n := 2) (fn_ok (N := N_is_word) F sc_is_word (fun cdv A outer s H E hr => ?_))
  have hu9 : (A.deeper (PyProof.Rows.envOfC "is_word" (defScope s_is_word) s.heap.objs.size f cdv)).units + 9 < cLine := by have := hr.un; omega
  have hu64 : (A.deeper (PyProof.Rows.envOfC "is_word" (defScope s_is_word) s.heap.objs.size f cdv)).units + 64 < cLine := by have := hr.un; omega
  have hu65 : (A.deeper (PyProof.Rows.envOfC "is_word" (defScope s_is_word) s.heap.objs.size f cdv)).units + 65 < cLine := by have := hr.un; omega
  exact (ds_one (ds_ret (de_and (de_chain op_le os_le op_le os_le de_int (de_callB (call_lenA ct) cs_len rfl T.n_len PySem.boot_len (da_cons (de_var 0) da_nil)) de_int) (de_one (de_callB (cr_all rfl) cs_all rfl T.n_all (by decide +kernel) (da_cons (de_lc (own := [("sign", 1)]) false rfl sc_is_word.nd (di_text (de_var 0)) (blkOk_by (own := [("sign", 1)]) (N := N_is_word) (sc := defScope s_is_word) (by decide +kernel)) (go_name 1) (by decide) (fun _ _ _ _ _ => (pg_name (i := 1) sc_is_word.nd rfl (Or.inl rfl))) (fun _ _ _ _ _ => dpts_nil) (fun _ _ _ _ _ => (de_cmp (op_inA ct hu65) os_in (de_var 1) (de_gstr T.x_LETTERS)))) da_nil))))))
abbrev s_must_word : Stmt := (top 11)
abbrev N_must_word : List Str := ["text"]
abbrev P_must_word : List Str := ["text"]
theorem sc_must_word : FnScope N_must_word P_must_word (defScope s_must_word) := ⟨rfl, rfl, rfl, by decide +kernel, rfl, by decide +kernel, by decide +kernel⟩
set_option maxHeartbeats 4000000 in
theorem ok_must_word {P : Program} {w : World} {K : PySem.W.Frag} {mg : Str → Option Value} {base : Heap} {ct : Nat → Addr × List Str} {f : Addr} {fd : FuncData} (F : Fun K "must_word" "must_word" s_must_word f fd) (T : Txt K mg ct) (c_is_word : Cal P w K mg base ⟨P, w, K, ct⟩ "is_word" 1 1 Φ_is_word) :
    FnOk P w K mg base CX0 2 f fd P_must_word (spG ⟨P, w, K, ct⟩ 1 Φ_must_word) := by
  refine FnOk.pure (n := 1) (fn_ok (N := N_must_word) F sc_must_word (fun cdv A outer s H E hr => ?_))
  have hu9 : (A.deeper (PyProof.Rows.envOfC "must_word" (defScope s_must_word) s.heap.objs.size f cdv)).units + 9 < cLine := by have := hr.un; omega
  have hu64 : (A.deeper (PyProof.Rows.envOfC "must_word" (defScope s_must_word) s.heap.objs.size f cdv)).units + 64 < cLine := by have := hr.un; omega
  have hu65 : (A.deeper (PyProof.Rows.envOfC "must_word" (defScope s_must_word) s.heap.objs.size f cdv)).units + 65 < cLine := by have := hr.un; omega
  exact (ds_one (ds_if (dt_not (dt_of (de_cal c_is_word hr (by decide) rfl (da_cons (de_var 0) da_nil) (len_cons (fun _ _ _ _ => len_nil))))) (ds_one (ds_never fun _ _ => rfl)) ds_nil))
abbrev s_Machine_init : Stmt := (inClass (top 13) 0)
abbrev N_Machine_init : List Str := ["self", "size", "starts", "moves", "signs", "faults", "room", "here", "deed", "there", "sign", "move"]
abbrev P_Machine_init : List Str := ["self", "size", "starts", "moves", "signs", "faults"]
theorem sc_Machine_init : FnScope N_Machine_init P_Machine_init (defScope s_Machine_init) := ⟨rfl, rfl, rfl, by decide +kernel, rfl, by decide +kernel, by decide +kernel⟩
set_option maxHeartbeats 4000000 in
theorem ok_Machine_init {P : Program} {w : World} {K : PySem.W.Frag} {mg : Str → Option Value} {base : Heap} {ct : Nat → Addr × List Str} {f : Addr} {fd : FuncData} (F : Fun K "__init__" "Machine.__init__" s_Machine_init f fd) (T : Txt K mg ct) (c_must_room : Cal P w K mg base ⟨P, w, K, ct⟩ "must_room" 1 2 Φ_must_room) (c_must_word : Cal P w K mg base ⟨P, w, K, ct⟩ "must_word" 2 1 Φ_must_word) :
    FnOk P w K mg base CX0 3 f fd P_Machine_init (spG ⟨P, w, K, ct⟩ 6 Φ_Machine_init) := by
  refine fn_ok (N := N_Machine_init) F sc_Machine_init (fun cdv A outer s H E hr => ?_)
  have hu9 : (A.deeper (PyProof.Rows.envOfC "Machine.__init__" (defScope s_Machine_init) s.heap.objs.size f cdv)).units + 9 < cLine := by have := hr.un; omega
  have hu64 : (A.deeper (PyProof.Rows.envOfC "Machine.__init__" (defScope s_Machine_init) s.heap.objs.size f cdv)).units + 64 < cLine := by have := hr.un; omega
  have hu65 : (A.deeper (PyProof.Rows.envOfC "Machine.__init__" (defScope s_Machine_init) s.heap.objs.size f cdv)).units + 65 < cLine := by have := hr.un; omega
  exact (ds_cons (ds_if (dt_cmp op_gt os_gt (de_var 1) (de_gint T.x_MOST_ROOMS)) (ds_one (ds_never fun _ _ => rfl)) ds_nil)
    (ds_cons (ds_if (dt_cmp op_gt os_gt (de_callB (call_lenA ct) cs_len rfl T.n_len PySem.boot_len (da_cons (de_var 3) da_nil)) (de_gint T.x_MOST_MOVES)) (ds_one (ds_never fun _ _ => rfl)) ds_nil)
    (ds_cons (ds_for PassesOwn.never rfl (di_seq (de_var 2)) (pg_name (i := 6) sc_Machine_init.nd rfl (Or.inl rfl)) (go_name 6) (ds_one (ds_expr (de_cal c_must_room hr (by decide) rfl (da_cons (de_var 6) (da_cons (de_var 1) da_nil)) (len_cons (len_cons (fun _ _ _ _ => len_nil)))))))
    (ds_cons (ds_for PassesOwn.never rfl (di_seq (de_var 3)) (pg_or (pg_tup rfl (pgs_cons (pg_name (i := 7) sc_Machine_init.nd rfl (Or.inl rfl)) (pgs_cons (pg_name (i := 8) sc_Machine_init.nd rfl (Or.inl rfl)) (pgs_cons (pg_name (i := 9) sc_Machine_init.nd rfl (Or.inl rfl)) pgs_nil)))) (pg_unl rfl (pgs_cons (pg_name (i := 7) sc_Machine_init.nd rfl (Or.inl rfl)) (pgs_cons (pg_name (i := 8) sc_Machine_init.nd rfl (Or.inl rfl)) (pgs_cons (pg_name (i := 9) sc_Machine_init.nd rfl (Or.inl rfl)) pgs_nil))))) (go_many rfl [7, 8, 9]) (ds_cons (ds_expr (de_cal c_must_room hr (by decide) rfl (da_cons (de_var 7) (da_cons (de_var 1) da_nil)) (len_cons (len_cons (fun _ _ _ _ => len_nil)))))
    (ds_cons (ds_expr (de_cal c_must_word hr (by decide) rfl (da_cons (de_var 8) da_nil) (len_cons (fun _ _ _ _ => len_nil))))
    (ds_one (ds_expr (de_cal c_must_room hr (by decide) rfl (da_cons (de_var 9) (da_cons (de_var 1) da_nil)) (len_cons (len_cons (fun _ _ _ _ => len_nil)))))))))
    (ds_cons (ds_for PassesOwn.never rfl (di_items (de_var 4)) (pg_or (pg_tup rfl (pgs_cons (pg_name (i := 8) sc_Machine_init.nd rfl (Or.inl rfl)) (pgs_cons (pg_name (i := 10) sc_Machine_init.nd rfl (Or.inl rfl)) pgs_nil))) (pg_unl rfl (pgs_cons (pg_name (i := 8) sc_Machine_init.nd rfl (Or.inl rfl)) (pgs_cons (pg_name (i := 10) sc_Machine_init.nd rfl (Or.inl rfl)) pgs_nil)))) (go_many rfl [8, 10]) (ds_cons (ds_expr (de_cal c_must_word hr (by decide) rfl (da_cons (de_var 8) da_nil) (len_cons (fun _ _ _ _ => len_nil))))
    (ds_one (ds_expr (de_cal c_must_word hr (by decide) rfl (da_cons (de_var 10) da_nil) (len_cons (fun _ _ _ _ => len_nil)))))))
    (ds_cons (ds_for PassesOwn.never rfl (di_seq (de_var 5)) (pg_name (i := 8) sc_Machine_init.nd rfl (Or.inl rfl)) (go_name 8) (ds_one (ds_expr (de_cal c_must_word hr (by decide) rfl (da_cons (de_var 8) da_nil) (len_cons (fun _ _ _ _ => len_nil))))))
    (ds_cons (ds_fld (c := 0) (k := 0) T.c0 T.k0_0 (de_var 0) (de_var 1))
    (ds_cons (ds_fld (c := 0) (k := 1) T.c0 T.k0_1 (de_var 0) (de_sortset false rfl hu64 T.n_sorted T.n_set (de_var 2)))
    (ds_cons (ds_fld (c := 0) (k := 2) T.c0 T.k0_2 (de_var 0) (de_sortset false rfl hu64 T.n_sorted T.n_set (de_var 3)))
    (ds_cons (ds_fld (c := 0) (k := 3) T.c0 T.k0_3 (de_var 0) (de_lc (own := [("room", 6)]) false rfl sc_Machine_init.nd (di_rng1 rfl T.n_range (de_var 1)) (blkOk_by (own := [("room", 6)]) (N := N_Machine_init) (sc := defScope s_Machine_init) (by decide +kernel)) (go_name 6) (by decide) (fun _ _ _ _ _ => (pg_name (i := 6) sc_Machine_init.nd rfl (Or.inr rfl))) (fun _ _ _ _ _ => dpts_nil) (fun _ _ _ _ _ => (de_lc (own := [("move", 11)]) false rfl sc_Machine_init.nd (di_seq (de_fld (c := 0) (k := 2) T.c0 T.k0_2 (de_var 0))) (blkOk_by (own := [("move", 11)]) (N := N_Machine_init) (sc := (relS (lcScope (asgV ((defBody s_Machine_init).getD 9 (.Pass ⟨0, 0, 0, 0⟩)))) (defScope s_Machine_init))) (by decide +kernel)) (go_name 11) (by decide) (fun _ _ _ _ _ => (pg_name (i := 11) sc_Machine_init.nd rfl (Or.inl rfl))) (fun _ _ _ _ _ => (pts_one (dt_cmp (op_eqD hu64) os_eq (de_ix hu9 (de_var 11) de_int) (de_var 6)))) (fun _ _ _ _ _ => (de_var 11))))))
    (ds_cons (ds_fld (c := 0) (k := 4) T.c0 T.k0_4 (de_var 0) (de_dictof false T.n_dict (de_var 4)))
    (ds_one (ds_fld (c := 0) (k := 5) T.c0 T.k0_5 (de_var 0) (de_callT call_list_of (cs_list false) rfl T.n_list PyProof.Rows.boot_list (da_cons (de_var 5) da_nil)))))))))))))))
abbrev s_moves_from : Stmt := (top 14)
abbrev N_moves_from : List Str := ["machine", "room"]
abbrev P_moves_from : List Str := ["machine", "room"]
theorem sc_moves_from : FnScope N_moves_from P_moves_from (defScope s_moves_from) := ⟨rfl, rfl, rfl, by decide +kernel, rfl, by decide +kernel, by decide +kernel⟩
set_option maxHeartbeats 4000000 in
theorem ok_moves_from {P : Program} {w : World} {K : PySem.W.Frag} {mg : Str → Option Value} {base : Heap} {ct : Nat → Addr × List Str} {f : Addr} {fd : FuncData} (F : Fun K "moves_from" "moves_from" s_moves_from f fd) (T : Txt K mg ct) :
    FnOk P w K mg base CX0 1 f fd P_moves_from (spG ⟨P, w, K, ct⟩ 2 Φ_moves_from) := by
  refine FnOk.pure (n := 2) (fn_ok (N := N_moves_from) F sc_moves_from (fun cdv A outer s H E hr => ?_))
  have hu9 : (A.deeper (PyProof.Rows.envOfC "moves_from" (defScope s_moves_from) s.heap.objs.size f cdv)).units + 9 < cLine := by have := hr.un; omega
  have hu64 : (A.deeper (PyProof.Rows.envOfC "moves_from" (defScope s_moves_from) s.heap.objs.size f cdv)).units + 64 < cLine := by have := hr.un; omega
  have hu65 : (A.deeper (PyProof.Rows.envOfC "moves_from" (defScope s_moves_from) s.heap.objs.size f cdv)).units + 65 < cLine := by have := hr.un; omega
  exact (ds_one (ds_ret (de_callT call_list_of (cs_list false) rfl T.n_list PyProof.Rows.boot_list (da_cons (de_ix hu9 (de_fld (c := 0) (k := 3) T.c0 T.k0_3 (de_var 0)) (de_var 1)) da_nil))))
abbrev s_Machine_sign_of : Stmt := (inClass (top 13) 3)
abbrev N_Machine_sign_of : List Str := ["self", "deed"]
abbrev P_Machine_sign_of : List Str := ["self", "deed"]
theorem sc_Machine_sign_of : FnScope N_Machine_sign_of P_Machine_sign_of (defScope s_Machine_sign_of) := ⟨rfl, rfl, rfl, by decide +kernel, rfl, by decide +kernel, by decide +kernel⟩
set_option maxHeartbeats 4000000 in
theorem ok_Machine_sign_of {P : Program} {w : World} {K : PySem.W.Frag} {mg : Str → Option Value} {base : Heap} {ct : Nat → Addr × List Str} {f : Addr} {fd : FuncData} (F : Fun K "sign_of" "Machine.sign_of" s_Machine_sign_of f fd) (T : Txt K mg ct) :
    FnOk P w K mg base CX0 1 f fd P_Machine_sign_of (spG ⟨P, w, K, ct⟩ 2 Φ_Machine_sign_of) := by
  refine FnOk.pure (n := 2) (fn_ok (N := N_Machine_sign_of) F sc_Machine_sign_of (fun cdv A outer s H E hr => ?_))
  have hu9 : (A.deeper (PyProof.Rows.envOfC "Machine.sign_of" (defScope s_Machine_sign_of) s.heap.objs.size f cdv)).units + 9 < cLine := by have := hr.un; omega
  have hu64 : (A.deeper (PyProof.Rows.envOfC "Machine.sign_of" (defScope s_Machine_sign_of) s.heap.objs.size f cdv)).units + 64 < cLine := by have := hr.un; omega
  have hu65 : (A.deeper (PyProof.Rows.envOfC "Machine.sign_of" (defScope s_Machine_sign_of) s.heap.objs.size f cdv)).units + 65 < cLine := by have := hr.un; omega
  exact (ds_one (ds_ret (de_get hu9 (de_fld (c := 0) (k := 4) T.c0 T.k0_4 (de_var 0)) (de_var 1) ⟨rfl, rfl, rfl, rfl⟩)))
abbrev s_Machine_is_fault : Stmt := (inClass (top 13) 4)
abbrev N_Machine_is_fault : List Str := ["self", "deed"]
abbrev P_Machine_is_fault : List Str := ["self", "deed"]
theorem sc_Machine_is_fault : FnScope N_Machine_is_fault P_Machine_is_fault (defScope s_Machine_is_fault) := ⟨rfl, rfl, rfl, by decide +kernel, rfl, by decide +kernel, by decide +kernel⟩
set_option maxHeartbeats 4000000 in
theorem ok_Machine_is_fault {P : Program} {w : World} {K : PySem.W.Frag} {mg : Str → Option Value} {base : Heap} {ct : Nat → Addr × List Str} {f : Addr} {fd : FuncData} (F : Fun K "is_fault" "Machine.is_fault" s_Machine_is_fault f fd) (T : Txt K mg ct) :
    FnOk P w K mg base CX0 1 f fd P_Machine_is_fault (spG ⟨P, w, K, ct⟩ 2 Φ_Machine_is_fault) := by
  refine FnOk.pure (n := 2) (fn_ok (N := N_Machine_is_fault) F sc_Machine_is_fault (fun cdv A outer s H E hr => ?_))
  have hu9 : (A.deeper (PyProof.Rows.envOfC "Machine.is_fault" (defScope s_Machine_is_fault) s.heap.objs.size f cdv)).units + 9 < cLine := by have := hr.un; omega
  have hu64 : (A.deeper (PyProof.Rows.envOfC "Machine.is_fault" (defScope s_Machine_is_fault) s.heap.objs.size f cdv)).units + 64 < cLine := by have := hr.un; omega
  have hu65 : (A.deeper (PyProof.Rows.envOfC "Machine.is_fault" (defScope s_Machine_is_fault) s.heap.objs.size f cdv)).units + 65 < cLine := by have := hr.un; omega
  exact (ds_one (ds_ret (de_cmp (op_inA ct hu65) os_in (de_var 1) (de_fld (c := 0) (k := 5) T.c0 T.k0_5 (de_var 0)))))
abbrev s_spread : Stmt := (top 16)
abbrev N_spread : List Str := ["machine", "spots", "found", "row", "at", "room", "wrong", "move", "spot"]
abbrev P_spread : List Str := ["machine", "spots"]
theorem sc_spread : FnScope N_spread P_spread (defScope s_spread) := ⟨rfl, rfl, rfl, by decide +kernel, rfl, by decide +kernel, by decide +kernel⟩
set_option maxHeartbeats 4000000 in
theorem ok_spread {P : Program} {w : World} {K : PySem.W.Frag} {mg : Str → Option Value} {base : Heap} {ct : Nat → Addr × List Str} {f : Addr} {fd : FuncData} (F : Fun K "spread" "spread" s_spread f fd) (T : Txt K mg ct) (c_moves_from : Cal P w K mg base ⟨P, w, K, ct⟩ "moves_from" 1 2 Φ_moves_from) (c_Machine_sign_of : CalM P w K mg base ⟨P, w, K, ct⟩ 0 "sign_of" 1 2 Φ_Machine_sign_of) (c_Machine_is_fault : CalM P w K mg base ⟨P, w, K, ct⟩ 0 "is_fault" 1 2 Φ_Machine_is_fault) :
    FnOk P w K mg base CX0 2 f fd P_spread (spG ⟨P, w, K, ct⟩ 2 Φ_spread) := by
  refine FnOk.pure (n := 9) (fn_ok (N := N_spread) F sc_spread (fun cdv A outer s H E hr => ?_))
  have hu9 : (A.deeper (PyProof.Rows.envOfC "spread" (defScope s_spread) s.heap.objs.size f cdv)).units + 9 < cLine := by have := hr.un; omega
  have hu64 : (A.deeper (PyProof.Rows.envOfC "spread" (defScope s_spread) s.heap.objs.size f cdv)).units + 64 < cLine := by have := hr.un; omega
  have hu65 : (A.deeper (PyProof.Rows.envOfC "spread" (defScope s_spread) s.heap.objs.size f cdv)).units + 65 < cLine := by have := hr.un; omega
  exact (ds_cons (ds_set (i := 2) sc_spread.nd rfl (Or.inl rfl) (de_dictN true hu64 T.n_dict (de_var 1)))
    (ds_cons (ds_set (i := 3) sc_spread.nd rfl (Or.inl rfl) (de_listkeys true rfl T.n_list (de_var 1)))
    (ds_cons (ds_set (i := 4) sc_spread.nd rfl (Or.inl rfl) de_int)
    (ds_cons (ds_while 1000000 PassesOwn.never (dt_cmp op_lt os_lt (de_var 4) (de_callB (call_lenA ct) cs_len rfl T.n_len PySem.boot_len (da_cons (de_var 3) da_nil))) (ds_cons (ds_asg (de_ix hu9 (de_var 3) (de_var 4)) (pg_or (pg_tup rfl (pgs_cons (pg_name (i := 5) sc_spread.nd rfl (Or.inl rfl)) (pgs_cons (pg_name (i := 6) sc_spread.nd rfl (Or.inl rfl)) pgs_nil))) (pg_unl rfl (pgs_cons (pg_name (i := 5) sc_spread.nd rfl (Or.inl rfl)) (pgs_cons (pg_name (i := 6) sc_spread.nd rfl (Or.inl rfl)) pgs_nil)))) (go_many rfl [5, 6]))
    (ds_cons (ds_for PassesOwn.never rfl (di_seq (de_cal c_moves_from hr (by decide) rfl (da_cons (de_var 0) (da_cons (de_var 5) da_nil)) (len_cons (len_cons (fun _ _ _ _ => len_nil))))) (pg_name (i := 7) sc_spread.nd rfl (Or.inl rfl)) (go_name 7) (ds_one (ds_if (dt_cmp op_isN os_is (de_calM T.c0 c_Machine_sign_of hr (by decide) rfl (de_var 0) (da_cons (de_ix hu9 (de_var 7) de_int) da_nil) (len_cons (fun _ _ _ _ => len_nil))) de_non) (ds_cons (ds_set (i := 8) sc_spread.nd rfl (Or.inl rfl) (de_tup (da_cons (de_ix hu9 (de_var 7) de_int) (da_cons (de_or (de_var 6) (de_one (de_calM T.c0 c_Machine_is_fault hr (by decide) rfl (de_var 0) (da_cons (de_ix hu9 (de_var 7) de_int) da_nil) (len_cons (fun _ _ _ _ => len_nil))))) da_nil))))
    (ds_one (ds_if (dt_cmp (op_ninA ct hu65) os_nin (de_var 8) (de_var 2)) (ds_cons (ds_sub hu9 (de_var 2) (de_var 8) (de_bin op_addD (os_add false) (de_ix hu9 (de_var 2) (de_ix hu9 (de_var 3) (de_var 4))) (de_lst false (da_cons (de_var 7) da_nil))))
    (ds_one (ds_expr (de_met PySem.F.plainAttrs_list PySem.F.slot_list_append PySem.F.type_list_append mt_append ty_list ms_app (de_var 3) (da_cons (de_var 8) da_nil))))) ds_nil))) ds_nil)))
    (ds_one (ds_aug (i := 4) sc_spread.nd rfl (Or.inl rfl) de_int)))))
    (ds_one (ds_ret (de_frzT (de_var 2))))))))
abbrev s_Machine_starts : Stmt := (inClass (top 13) 1)
abbrev N_Machine_starts : List Str := ["self"]
abbrev P_Machine_starts : List Str := ["self"]
theorem sc_Machine_starts : FnScope N_Machine_starts P_Machine_starts (defScope s_Machine_starts) := ⟨rfl, rfl, rfl, by decide +kernel, rfl, by decide +kernel, by decide +kernel⟩
set_option maxHeartbeats 4000000 in
theorem ok_Machine_starts {P : Program} {w : World} {K : PySem.W.Frag} {mg : Str → Option Value} {base : Heap} {ct : Nat → Addr × List Str} {f : Addr} {fd : FuncData} (F : Fun K "starts" "Machine.starts" s_Machine_starts f fd) (T : Txt K mg ct) :
    FnOk P w K mg base CX0 1 f fd P_Machine_starts (spG ⟨P, w, K, ct⟩ 1 Φ_Machine_starts) := by
  refine FnOk.pure (n := 1) (fn_ok (N := N_Machine_starts) F sc_Machine_starts (fun cdv A outer s H E hr => ?_))
  have hu9 : (A.deeper (PyProof.Rows.envOfC "Machine.starts" (defScope s_Machine_starts) s.heap.objs.size f cdv)).units + 9 < cLine := by have := hr.un; omega
  have hu64 : (A.deeper (PyProof.Rows.envOfC "Machine.starts" (defScope s_Machine_starts) s.heap.objs.size f cdv)).units + 64 < cLine := by have := hr.un; omega
  have hu65 : (A.deeper (PyProof.Rows.envOfC "Machine.starts" (defScope s_Machine_starts) s.heap.objs.size f cdv)).units + 65 < cLine := by have := hr.un; omega
  exact (ds_one (ds_ret (de_callT call_list_of (cs_list false) rfl T.n_list PyProof.Rows.boot_list (da_cons (de_fld (c := 0) (k := 1) T.c0 T.k0_1 (de_var 0)) da_nil))))
abbrev s_start_spots : Stmt := (top 18)
abbrev N_start_spots : List Str := ["machine", "found", "room"]
abbrev P_start_spots : List Str := ["machine"]
theorem sc_start_spots : FnScope N_start_spots P_start_spots (defScope s_start_spots) := ⟨rfl, rfl, rfl, by decide +kernel, rfl, by decide +kernel, by decide +kernel⟩
set_option maxHeartbeats 4000000 in
theorem ok_start_spots {P : Program} {w : World} {K : PySem.W.Frag} {mg : Str → Option Value} {base : Heap} {ct : Nat → Addr × List Str} {f : Addr} {fd : FuncData} (F : Fun K "start_spots" "start_spots" s_start_spots f fd) (T : Txt K mg ct) (c_Machine_starts : CalM P w K mg base ⟨P, w, K, ct⟩ 0 "starts" 1 1 Φ_Machine_starts) :
    FnOk P w K mg base CX0 2 f fd P_start_spots (spG ⟨P, w, K, ct⟩ 1 Φ_start_spots) := by
  refine FnOk.pure (n := 3) (fn_ok (N := N_start_spots) F sc_start_spots (fun cdv A outer s H E hr => ?_))
  have hu9 : (A.deeper (PyProof.Rows.envOfC "start_spots" (defScope s_start_spots) s.heap.objs.size f cdv)).units + 9 < cLine := by have := hr.un; omega
  have hu64 : (A.deeper (PyProof.Rows.envOfC "start_spots" (defScope s_start_spots) s.heap.objs.size f cdv)).units + 64 < cLine := by have := hr.un; omega
  have hu65 : (A.deeper (PyProof.Rows.envOfC "start_spots" (defScope s_start_spots) s.heap.objs.size f cdv)).units + 65 < cLine := by have := hr.un; omega
  exact (ds_cons (ds_set (i := 1) sc_start_spots.nd rfl (Or.inl rfl) de_dnil)
    (ds_cons (ds_for PassesOwn.never rfl (di_seq (de_calM0 T.c0 c_Machine_starts hr (by decide) (de_var 0))) (pg_name (i := 2) sc_start_spots.nd rfl (Or.inl rfl)) (go_name 2) (ds_one (ds_sub hu9 (de_var 1) (de_tup (da_cons (de_var 2) (da_cons de_bl da_nil))) (de_lst false (da_cons (de_var 2) da_nil)))))
    (ds_one (ds_ret (de_frzT (de_var 1))))))
abbrev s_begun : Stmt := (top 17)
abbrev N_begun : List Str := ["machine"]
abbrev P_begun : List Str := ["machine"]
theorem sc_begun : FnScope N_begun P_begun (defScope s_begun) := ⟨rfl, rfl, rfl, by decide +kernel, rfl, by decide +kernel, by decide +kernel⟩
set_option maxHeartbeats 4000000 in
theorem ok_begun {P : Program} {w : World} {K : PySem.W.Frag} {mg : Str → Option Value} {base : Heap} {ct : Nat → Addr × List Str} {f : Addr} {fd : FuncData} (F : Fun K "begun" "begun" s_begun f fd) (T : Txt K mg ct) (c_spread : Cal P w K mg base ⟨P, w, K, ct⟩ "spread" 2 2 Φ_spread) (c_start_spots : Cal P w K mg base ⟨P, w, K, ct⟩ "start_spots" 2 1 Φ_start_spots) :
    FnOk P w K mg base CX0 3 f fd P_begun (spG ⟨P, w, K, ct⟩ 1 Φ_begun) := by
  refine FnOk.pure (n := 1) (fn_ok (N := N_begun) F sc_begun (fun cdv A outer s H E hr => ?_))
  have hu9 : (A.deeper (PyProof.Rows.envOfC "begun" (defScope s_begun) s.heap.objs.size f cdv)).units + 9 < cLine := by have := hr.un; omega
  have hu64 : (A.deeper (PyProof.Rows.envOfC "begun" (defScope s_begun) s.heap.objs.size f cdv)).units + 64 < cLine := by have := hr.un; omega
  have hu65 : (A.deeper (PyProof.Rows.envOfC "begun" (defScope s_begun) s.heap.objs.size f cdv)).units + 65 < cLine := by have := hr.un; omega
  exact (ds_one (ds_ret (de_cal c_spread hr (by decide) rfl (da_cons (de_var 0) (da_cons (de_cal c_start_spots hr (by decide) rfl (da_cons (de_var 0) da_nil) (len_cons (fun _ _ _ _ => len_nil))) da_nil)) (len_cons (len_cons (fun _ _ _ _ => len_nil))))))
abbrev s_Watcher_init : Stmt := (inClass (top 27) 0)
abbrev N_Watcher_init : List Str := ["self", "machine"]
abbrev P_Watcher_init : List Str := ["self", "machine"]
theorem sc_Watcher_init : FnScope N_Watcher_init P_Watcher_init (defScope s_Watcher_init) := ⟨rfl, rfl, rfl, by decide +kernel, rfl, by decide +kernel, by decide +kernel⟩
set_option maxHeartbeats 4000000 in
theorem ok_Watcher_init {P : Program} {w : World} {K : PySem.W.Frag} {mg : Str → Option Value} {base : Heap} {ct : Nat → Addr × List Str} {f : Addr} {fd : FuncData} (F : Fun K "__init__" "Watcher.__init__" s_Watcher_init f fd) (T : Txt K mg ct) (c_begun : Cal P w K mg base ⟨P, w, K, ct⟩ "begun" 3 1 Φ_begun) :
    FnOk P w K mg base CX0 4 f fd P_Watcher_init (spG ⟨P, w, K, ct⟩ 2 Φ_Watcher_init) := by
  refine fn_ok (N := N_Watcher_init) F sc_Watcher_init (fun cdv A outer s H E hr => ?_)
  have hu9 : (A.deeper (PyProof.Rows.envOfC "Watcher.__init__" (defScope s_Watcher_init) s.heap.objs.size f cdv)).units + 9 < cLine := by have := hr.un; omega
  have hu64 : (A.deeper (PyProof.Rows.envOfC "Watcher.__init__" (defScope s_Watcher_init) s.heap.objs.size f cdv)).units + 64 < cLine := by have := hr.un; omega
  have hu65 : (A.deeper (PyProof.Rows.envOfC "Watcher.__init__" (defScope s_Watcher_init) s.heap.objs.size f cdv)).units + 65 < cLine := by have := hr.un; omega
  exact (ds_cons (ds_fld (c := 1) (k := 0) T.c1 T.k1_0 (de_var 0) (de_var 1))
    (ds_cons (ds_fld (c := 1) (k := 1) T.c1 T.k1_1 (de_var 0) (de_lst true da_nil))
    (ds_one (ds_fld (c := 1) (k := 2) T.c1 T.k1_2 (de_var 0) (de_cal c_begun hr (by decide) rfl (da_cons (de_var 1) da_nil) (len_cons (fun _ _ _ _ => len_nil)))))))
abbrev s_law_refused : Stmt := (top 37)
abbrev N_law_refused : List Str := ["_law_e", "_law_due"]
abbrev P_law_refused : List Str := ["_law_e", "_law_due"]
theorem sc_law_refused : FnScope N_law_refused P_law_refused (defScope s_law_refused) := ⟨rfl, rfl, rfl, by decide +kernel, rfl, by decide +kernel, by decide +kernel⟩
set_option maxHeartbeats 4000000 in
theorem ok_law_refused {P : Program} {w : World} {K : PySem.W.Frag} {mg : Str → Option Value} {base : Heap} {ct : Nat → Addr × List Str} {f : Addr} {fd : FuncData} (F : Fun K "_law_refused" "_law_refused" s_law_refused f fd) (T : Txt K mg ct) :
    FnOk P w K mg base CX0 1 f fd P_law_refused (spG ⟨P, w, K, ct⟩ 2 Φ_law_refused) := by
  refine FnOk.pure (n := 2) (fn_ok (N := N_law_refused) F sc_law_refused (fun cdv A outer s H E hr => ?_))
  have hu9 : (A.deeper (PyProof.Rows.envOfC "_law_refused" (defScope s_law_refused) s.heap.objs.size f cdv)).units + 9 < cLine := by have := hr.un; omega
  have hu64 : (A.deeper (PyProof.Rows.envOfC "_law_refused" (defScope s_law_refused) s.heap.objs.size f cdv)).units + 64 < cLine := by have := hr.un; omega
  have hu65 : (A.deeper (PyProof.Rows.envOfC "_law_refused" (defScope s_law_refused) s.heap.objs.size f cdv)).units + 65 < cLine := by have := hr.un; omega
  exact (ds_cons (ds_if (dt_pw (dw_or (dt_cmp op_isN os_is (de_var 0) de_non) (dw_or1 (dt_cmp (op_eqD hu64) os_eq (de_var 1) (de_lst false da_nil))))) (ds_one (ds_ret (de_and (de_cmp op_isN os_is (de_var 0) de_non) (de_one (de_cmp (op_eqD hu64) os_eq (de_var 1) (de_lst false da_nil)))))) ds_nil)
    (ds_cons (ds_if (dt_pw (dw_or (dt_not (dt_of (de_isxb T.iV T.n_isinstance T.n_ValueError (by decide +kernel) (de_var 0)))) (dw_or1 (dt_of (de_isxT T.i3 T.i4 T.n_isinstance T.g3 T.g4 (de_var 0)))))) (ds_one (ds_ret de_bl)) ds_nil)
    (ds_cons (ds_if (dt_cmp (op_eqD hu64) os_eq (de_isxo T.i2 T.n_isinstance T.g2 (de_var 0)) (de_isxo T.i5 T.n_isinstance T.g5 (de_var 0))) (ds_one (ds_ret de_bl)) ds_nil)
    (ds_cons (ds_if (dt_of (de_isxo T.i2 T.n_isinstance T.g2 (de_var 0))) (ds_one (ds_ret (de_cmp (op_eqD hu64) os_eq (de_var 1) (de_lst false (da_cons (de_xf (c := 2) (k := 1) T.e2 T.y2_1 (de_var 0)) (da_cons (de_xf (c := 2) (k := 0) T.e2 T.y2_0 (de_var 0)) da_nil)))))) ds_nil)
    (ds_one (ds_ret (de_cmp (op_eqD hu64) os_eq (de_var 1) (de_lst false (da_cons (de_xf (c := 5) (k := 0) T.e5 T.y5_0 (de_var 0)) da_nil)))))))))
abbrev s_verdict_of : Stmt := (top 22)
abbrev N_verdict_of : List Str := ["spots", "wrong", "spot"]
abbrev P_verdict_of : List Str := ["spots"]
theorem sc_verdict_of : FnScope N_verdict_of P_verdict_of (defScope s_verdict_of) := ⟨rfl, rfl, rfl, by decide +kernel, rfl, by decide +kernel, by decide +kernel⟩
set_option maxHeartbeats 4000000 in
theorem ok_verdict_of {P : Program} {w : World} {K : PySem.W.Frag} {mg : Str → Option Value} {base : Heap} {ct : Nat → Addr × List Str} {f : Addr} {fd : FuncData} (F : Fun K "verdict_of" "verdict_of" s_verdict_of f fd) (T : Txt K mg ct) :
    FnOk P w K mg base CX0 1 f fd P_verdict_of (spG ⟨P, w, K, ct⟩ 1 Φ_verdict_of) := by
  refine FnOk.pure (n := 3) (fn_ok (N := N_verdict_of) F sc_verdict_of (fun cdv A outer s H E hr => ?_))
  have hu9 : (A.deeper (PyProof.Rows.envOfC "verdict_of" (defScope s_verdict_of) s.heap.objs.size f cdv)).units + 9 < cLine := by have := hr.un; omega
  have hu64 : (A.deeper (PyProof.Rows.envOfC "verdict_of" (defScope s_verdict_of) s.heap.objs.size f cdv)).units + 64 < cLine := by have := hr.un; omega
  have hu65 : (A.deeper (PyProof.Rows.envOfC "verdict_of" (defScope s_verdict_of) s.heap.objs.size f cdv)).units + 65 < cLine := by have := hr.un; omega
  exact (ds_cons (ds_set (i := 1) sc_verdict_of.nd rfl (Or.inl rfl) (de_sortset false rfl hu64 T.n_sorted T.n_set (de_lc (own := [("spot", 2)]) false rfl sc_verdict_of.nd (di_keys (de_var 0)) (blkOk_by (own := [("spot", 2)]) (N := N_verdict_of) (sc := defScope s_verdict_of) (by decide +kernel)) (go_name 2) (by decide) (fun _ _ _ _ _ => (pg_name (i := 2) sc_verdict_of.nd rfl (Or.inl rfl))) (fun _ _ _ _ _ => dpts_nil) (fun _ _ _ _ _ => (de_ix hu9 (de_var 2) de_int)))))
    (ds_cons (ds_if (dt_cmp (op_eqD hu64) os_eq (de_var 1) (de_lst false da_nil)) (ds_one (ds_ret de_str)) ds_nil)
    (ds_cons (ds_if (dt_cmp (op_eqD hu64) os_eq (de_var 1) (de_lst false (da_cons de_bl da_nil))) (ds_one (ds_ret de_str)) ds_nil)
    (ds_cons (ds_if (dt_cmp (op_eqD hu64) os_eq (de_var 1) (de_lst false (da_cons de_bl da_nil))) (ds_one (ds_ret de_str)) ds_nil)
    (ds_one (ds_ret de_str))))))
abbrev s_Watcher_verdict : Stmt := (inClass (top 27) 3)
abbrev N_Watcher_verdict : List Str := ["self"]
abbrev P_Watcher_verdict : List Str := ["self"]
theorem sc_Watcher_verdict : FnScope N_Watcher_verdict P_Watcher_verdict (defScope s_Watcher_verdict) := ⟨rfl, rfl, rfl, by decide +kernel, rfl, by decide +kernel, by decide +kernel⟩
set_option maxHeartbeats 4000000 in
theorem ok_Watcher_verdict {P : Program} {w : World} {K : PySem.W.Frag} {mg : Str → Option Value} {base : Heap} {ct : Nat → Addr × List Str} {f : Addr} {fd : FuncData} (F : Fun K "verdict" "Watcher.verdict" s_Watcher_verdict f fd) (T : Txt K mg ct) (c_verdict_of : Cal P w K mg base ⟨P, w, K, ct⟩ "verdict_of" 1 1 Φ_verdict_of) :
    FnOk P w K mg base CX0 2 f fd P_Watcher_verdict (spG ⟨P, w, K, ct⟩ 1 Φ_Watcher_verdict) := by
  refine fn_ok (N := N_Watcher_verdict) F sc_Watcher_verdict (fun cdv A outer s H E hr => ?_)
  have hu9 : (A.deeper (PyProof.Rows.envOfC "Watcher.verdict" (defScope s_Watcher_verdict) s.heap.objs.size f cdv)).units + 9 < cLine := by have := hr.un; omega
  have hu64 : (A.deeper (PyProof.Rows.envOfC "Watcher.verdict" (defScope s_Watcher_verdict) s.heap.objs.size f cdv)).units + 64 < cLine := by have := hr.un; omega
  have hu65 : (A.deeper (PyProof.Rows.envOfC "Watcher.verdict" (defScope s_Watcher_verdict) s.heap.objs.size f cdv)).units + 65 < cLine := by have := hr.un; omega
  exact (ds_one (ds_ret (de_cal c_verdict_of hr (by decide) rfl (da_cons (de_fld (c := 1) (k := 2) T.c1 T.k1_2 (de_var 0)) da_nil) (len_cons (fun _ _ _ _ => len_nil)))))
abbrev s_seen : Stmt := (top 19)
abbrev N_seen : List Str := ["machine", "spots", "sign", "found", "spot", "room", "wrong", "move", "there"]
abbrev P_seen : List Str := ["machine", "spots", "sign"]
theorem sc_seen : FnScope N_seen P_seen (defScope s_seen) := ⟨rfl, rfl, rfl, by decide +kernel, rfl, by decide +kernel, by decide +kernel⟩
set_option maxHeartbeats 4000000 in
theorem ok_seen {P : Program} {w : World} {K : PySem.W.Frag} {mg : Str → Option Value} {base : Heap} {ct : Nat → Addr × List Str} {f : Addr} {fd : FuncData} (F : Fun K "seen" "seen" s_seen f fd) (T : Txt K mg ct) (c_moves_from : Cal P w K mg base ⟨P, w, K, ct⟩ "moves_from" 1 2 Φ_moves_from) (c_Machine_sign_of : CalM P w K mg base ⟨P, w, K, ct⟩ 0 "sign_of" 1 2 Φ_Machine_sign_of) (c_Machine_is_fault : CalM P w K mg base ⟨P, w, K, ct⟩ 0 "is_fault" 1 2 Φ_Machine_is_fault) (c_spread : Cal P w K mg base ⟨P, w, K, ct⟩ "spread" 2 2 Φ_spread) :
    FnOk P w K mg base CX0 3 f fd P_seen (spG ⟨P, w, K, ct⟩ 3 Φ_seen) := by
  refine FnOk.pure (n := 9) (fn_ok (N := N_seen) F sc_seen (fun cdv A outer s H E hr => ?_))
  have hu9 : (A.deeper (PyProof.Rows.envOfC "seen" (defScope s_seen) s.heap.objs.size f cdv)).units + 9 < cLine := by have := hr.un; omega
  have hu64 : (A.deeper (PyProof.Rows.envOfC "seen" (defScope s_seen) s.heap.objs.size f cdv)).units + 64 < cLine := by have := hr.un; omega
  have hu65 : (A.deeper (PyProof.Rows.envOfC "seen" (defScope s_seen) s.heap.objs.size f cdv)).units + 65 < cLine := by have := hr.un; omega
  exact (ds_cons (ds_set (i := 3) sc_seen.nd rfl (Or.inl rfl) de_dnil)
    (ds_cons (ds_for PassesOwn.never rfl (di_keys (de_var 1)) (pg_name (i := 4) sc_seen.nd rfl (Or.inl rfl)) (go_name 4) (ds_cons (ds_asg (de_var 4) (pg_or (pg_tup rfl (pgs_cons (pg_name (i := 5) sc_seen.nd rfl (Or.inl rfl)) (pgs_cons (pg_name (i := 6) sc_seen.nd rfl (Or.inl rfl)) pgs_nil))) (pg_unl rfl (pgs_cons (pg_name (i := 5) sc_seen.nd rfl (Or.inl rfl)) (pgs_cons (pg_name (i := 6) sc_seen.nd rfl (Or.inl rfl)) pgs_nil)))) (go_many rfl [5, 6]))
    (ds_one (ds_for PassesOwn.never rfl (di_seq (de_cal c_moves_from hr (by decide) rfl (da_cons (de_var 0) (da_cons (de_var 5) da_nil)) (len_cons (len_cons (fun _ _ _ _ => len_nil))))) (pg_name (i := 7) sc_seen.nd rfl (Or.inl rfl)) (go_name 7) (ds_one (ds_if (dt_cmp (op_eqD hu64) os_eq (de_calM T.c0 c_Machine_sign_of hr (by decide) rfl (de_var 0) (da_cons (de_ix hu9 (de_var 7) de_int) da_nil) (len_cons (fun _ _ _ _ => len_nil))) (de_var 2)) (ds_cons (ds_set (i := 8) sc_seen.nd rfl (Or.inl rfl) (de_tup (da_cons (de_ix hu9 (de_var 7) de_int) (da_cons (de_or (de_var 6) (de_one (de_calM T.c0 c_Machine_is_fault hr (by decide) rfl (de_var 0) (da_cons (de_ix hu9 (de_var 7) de_int) da_nil) (len_cons (fun _ _ _ _ => len_nil))))) da_nil))))
    (ds_one (ds_if (dt_cmp (op_ninA ct hu65) os_nin (de_var 8) (de_var 3)) (ds_one (ds_sub hu9 (de_var 3) (de_var 8) (de_bin op_addD (os_add false) (de_ix hu9 (de_var 1) (de_var 4)) (de_lst false (da_cons (de_var 7) da_nil))))) ds_nil))) ds_nil))))))
    (ds_one (ds_ret (de_cal c_spread hr (by decide) rfl (da_cons (de_var 0) (da_cons (de_frzT (de_var 3)) da_nil)) (len_cons (len_cons (fun _ _ _ _ => len_nil))))))))
abbrev s_spots_behind : Stmt := (top 20)
abbrev N_spots_behind : List Str := ["machine", "sights", "spots", "sign"]
abbrev P_spots_behind : List Str := ["machine", "sights"]
theorem sc_spots_behind : FnScope N_spots_behind P_spots_behind (defScope s_spots_behind) := ⟨rfl, rfl, rfl, by decide +kernel, rfl, by decide +kernel, by decide +kernel⟩
set_option maxHeartbeats 4000000 in
theorem ok_spots_behind {P : Program} {w : World} {K : PySem.W.Frag} {mg : Str → Option Value} {base : Heap} {ct : Nat → Addr × List Str} {f : Addr} {fd : FuncData} (F : Fun K "spots_behind" "spots_behind" s_spots_behind f fd) (T : Txt K mg ct) (c_begun : Cal P w K mg base ⟨P, w, K, ct⟩ "begun" 3 1 Φ_begun) (c_seen : Cal P w K mg base ⟨P, w, K, ct⟩ "seen" 3 3 Φ_seen) :
    FnOk P w K mg base CX0 4 f fd P_spots_behind (spG ⟨P, w, K, ct⟩ 2 Φ_spots_behind) := by
  refine FnOk.pure (n := 4) (fn_ok (N := N_spots_behind) F sc_spots_behind (fun cdv A outer s H E hr => ?_))
  have hu9 : (A.deeper (PyProof.Rows.envOfC "spots_behind" (defScope s_spots_behind) s.heap.objs.size f cdv)).units + 9 < cLine := by have := hr.un; omega
  have hu64 : (A.deeper (PyProof.Rows.envOfC "spots_behind" (defScope s_spots_behind) s.heap.objs.size f cdv)).units + 64 < cLine := by have := hr.un; omega
  have hu65 : (A.deeper (PyProof.Rows.envOfC "spots_behind" (defScope s_spots_behind) s.heap.objs.size f cdv)).units + 65 < cLine := by have := hr.un; omega
  exact (ds_cons (ds_set (i := 2) sc_spots_behind.nd rfl (Or.inl rfl) (de_cal c_begun hr (by decide) rfl (da_cons (de_var 0) da_nil) (len_cons (fun _ _ _ _ => len_nil))))
    (ds_cons (ds_for PassesOwn.never rfl (di_seq (de_var 1)) (pg_name (i := 3) sc_spots_behind.nd rfl (Or.inl rfl)) (go_name 3) (ds_one (ds_set (i := 2) sc_spots_behind.nd rfl (Or.inl rfl) (de_cal c_seen hr (by decide) rfl (da_cons (de_var 0) (da_cons (de_var 2) (da_cons (de_var 3) da_nil))) (len_cons (len_cons (len_cons (fun _ _ _ _ => len_nil))))))))
    (ds_one (ds_ret (de_var 2)))))
abbrev s_verdict : Stmt := (top 24)
abbrev N_verdict : List Str := ["machine", "sights"]
abbrev P_verdict : List Str := ["machine", "sights"]
theorem sc_verdict : FnScope N_verdict P_verdict (defScope s_verdict) := ⟨rfl, rfl, rfl, by decide +kernel, rfl, by decide +kernel, by decide +kernel⟩
set_option maxHeartbeats 4000000 in
theorem ok_verdict {P : Program} {w : World} {K : PySem.W.Frag} {mg : Str → Option Value} {base : Heap} {ct : Nat → Addr × List Str} {f : Addr} {fd : FuncData} (F : Fun K "verdict" "verdict" s_verdict f fd) (T : Txt K mg ct) (c_verdict_of : Cal P w K mg base ⟨P, w, K, ct⟩ "verdict_of" 1 1 Φ_verdict_of) (c_spots_behind : Cal P w K mg base ⟨P, w, K, ct⟩ "spots_behind" 4 2 Φ_spots_behind) :
    FnOk P w K mg base CX0 5 f fd P_verdict (spG ⟨P, w, K, ct⟩ 2 Φ_verdict) := by
  refine FnOk.pure (n := 2) (fn_ok (N := N_verdict) F sc_verdict (fun cdv A outer s H E hr => ?_))
  have hu9 : (A.deeper (PyProof.Rows.envOfC "verdict" (defScope s_verdict) s.heap.objs.size f cdv)).units + 9 < cLine := by have := hr.un; omega
  have hu64 : (A.deeper (PyProof.Rows.envOfC "verdict" (defScope s_verdict) s.heap.objs.size f cdv)).units + 64 < cLine := by have := hr.un; omega
  have hu65 : (A.deeper (PyProof.Rows.envOfC "verdict" (defScope s_verdict) s.heap.objs.size f cdv)).units + 65 < cLine := by have := hr.un; omega
  exact (ds_one (ds_ret (de_cal c_verdict_of hr (by decide) rfl (da_cons (de_cal c_spots_behind hr (by decide) rfl (da_cons (de_var 0) (da_cons (de_var 1) da_nil)) (len_cons (len_cons (fun _ _ _ _ => len_nil)))) da_nil) (len_cons (fun _ _ _ _ => len_nil)))))
abbrev s_rooms_in : Stmt := (top 21)
abbrev N_rooms_in : List Str := ["spots", "spot"]
abbrev P_rooms_in : List Str := ["spots"]
theorem sc_rooms_in : FnScope N_rooms_in P_rooms_in (defScope s_rooms_in) := ⟨rfl, rfl, rfl, by decide +kernel, rfl, by decide +kernel, by decide +kernel⟩
set_option maxHeartbeats 4000000 in
theorem ok_rooms_in {P : Program} {w : World} {K : PySem.W.Frag} {mg : Str → Option Value} {base : Heap} {ct : Nat → Addr × List Str} {f : Addr} {fd : FuncData} (F : Fun K "rooms_in" "rooms_in" s_rooms_in f fd) (T : Txt K mg ct) :
    FnOk P w K mg base CX0 1 f fd P_rooms_in (spG ⟨P, w, K, ct⟩ 1 Φ_rooms_in) := by
  refine FnOk.pure (n := 2) (fn_ok (N := N_rooms_in) F sc_rooms_in (fun cdv A outer s H E hr => ?_))
  have hu9 : (A.deeper (PyProof.Rows.envOfC "rooms_in" (defScope s_rooms_in) s.heap.objs.size f cdv)).units + 9 < cLine := by have := hr.un; omega
  have hu64 : (A.deeper (PyProof.Rows.envOfC "rooms_in" (defScope s_rooms_in) s.heap.objs.size f cdv)).units + 64 < cLine := by have := hr.un; omega
  have hu65 : (A.deeper (PyProof.Rows.envOfC "rooms_in" (defScope s_rooms_in) s.heap.objs.size f cdv)).units + 65 < cLine := by have := hr.un; omega
  exact (ds_one (ds_ret (de_sortset false rfl hu64 T.n_sorted T.n_set (de_lc (own := [("spot", 1)]) false rfl sc_rooms_in.nd (di_keys (de_var 0)) (blkOk_by (own := [("spot", 1)]) (N := N_rooms_in) (sc := defScope s_rooms_in) (by decide +kernel)) (go_name 1) (by decide) (fun _ _ _ _ _ => (pg_name (i := 1) sc_rooms_in.nd rfl (Or.inl rfl))) (fun _ _ _ _ _ => dpts_nil) (fun _ _ _ _ _ => (de_ix hu9 (de_var 1) de_int))))))
abbrev s_possible : Stmt := (top 23)
abbrev N_possible : List Str := ["machine", "sights"]
abbrev P_possible : List Str := ["machine", "sights"]
theorem sc_possible : FnScope N_possible P_possible (defScope s_possible) := ⟨rfl, rfl, rfl, by decide +kernel, rfl, by decide +kernel, by decide +kernel⟩
set_option maxHeartbeats 4000000 in
theorem ok_possible {P : Program} {w : World} {K : PySem.W.Frag} {mg : Str → Option Value} {base : Heap} {ct : Nat → Addr × List Str} {f : Addr} {fd : FuncData} (F : Fun K "possible" "possible" s_possible f fd) (T : Txt K mg ct) (c_rooms_in : Cal P w K mg base ⟨P, w, K, ct⟩ "rooms_in" 1 1 Φ_rooms_in) (c_spots_behind : Cal P w K mg base ⟨P, w, K, ct⟩ "spots_behind" 4 2 Φ_spots_behind) :
    FnOk P w K mg base CX0 5 f fd P_possible (spG ⟨P, w, K, ct⟩ 2 Φ_possible) := by
  refine FnOk.pure (n := 2) (fn_ok (N := N_possible) F sc_possible (fun cdv A outer s H E hr => ?_))
  have hu9 : (A.deeper (PyProof.Rows.envOfC "possible" (defScope s_possible) s.heap.objs.size f cdv)).units + 9 < cLine := by have := hr.un; omega
  have hu64 : (A.deeper (PyProof.Rows.envOfC "possible" (defScope s_possible) s.heap.objs.size f cdv)).units + 64 < cLine := by have := hr.un; omega
  have hu65 : (A.deeper (PyProof.Rows.envOfC "possible" (defScope s_possible) s.heap.objs.size f cdv)).units + 65 < cLine := by have := hr.un; omega
  exact (ds_one (ds_ret (de_cal c_rooms_in hr (by decide) rfl (da_cons (de_cal c_spots_behind hr (by decide) rfl (da_cons (de_var 0) (da_cons (de_var 1) da_nil)) (len_cons (len_cons (fun _ _ _ _ => len_nil)))) da_nil) (len_cons (fun _ _ _ _ => len_nil)))))
abbrev s_Watcher_see : Stmt := (inClass (top 27) 1)
abbrev N_Watcher_see : List Str := ["self", "sign", "spots"]
abbrev P_Watcher_see : List Str := ["self", "sign"]
theorem sc_Watcher_see : FnScope N_Watcher_see P_Watcher_see (defScope s_Watcher_see) := ⟨rfl, rfl, rfl, by decide +kernel, rfl, by decide +kernel, by decide +kernel⟩
set_option maxHeartbeats 4000000 in
theorem ok_Watcher_see_X {P : Program} {w : World} {K : PySem.W.Frag} {mg : Str → Option Value} {base : Heap} {ct : Nat → Addr × List Str} {f : Addr} {fd : FuncData} (F : Fun K "see" "Watcher.see" s_Watcher_see f fd) (T : Txt K mg ct) (c_TooGreat : CalE P w K mg base ct 2 "TooGreat" 1 2) (c_seen : Cal P w K mg base ⟨P, w, K, ct⟩ "seen" 3 3 Φ_seen) (c_NoSight : CalE P w K mg base ct 5 "NoSight" 1 1) :
    FnOk P w K mg base (CX P w) 4 f fd P_Watcher_see (spX ⟨P, w, K, ct⟩ 2 Φ_Watcher_see_X) := by
  refine fnX_ok (N := N_Watcher_see) F sc_Watcher_see (fun cdv A outer s H E hr tk pw => ?_)
  have hu9 : (A.deeper (PyProof.Rows.envOfC "Watcher.see" (defScope s_Watcher_see) s.heap.objs.size f cdv)).units + 9 < cLine := by have := hr.un; omega
  have hu64 : (A.deeper (PyProof.Rows.envOfC "Watcher.see" (defScope s_Watcher_see) s.heap.objs.size f cdv)).units + 64 < cLine := by have := hr.un; omega
  have hu65 : (A.deeper (PyProof.Rows.envOfC "Watcher.see" (defScope s_Watcher_see) s.heap.objs.size f cdv)).units + 65 < cLine := by have := hr.un; omega
  exact (dx_cons (dx_if (dt_cmp op_ge os_ge (de_callB (call_lenA ct) cs_len rfl T.n_len PySem.boot_len (da_cons (de_fld (c := 1) (k := 1) T.c1 T.k1_1 (de_var 0)) da_nil)) (de_gint T.x_MOST_SIGHTS)) (dx_one (dx_raise T.e2 c_TooGreat tk rfl hr (by decide) (da_cons (de_bin op_addD (os_add false) (de_callB (call_lenA ct) cs_len rfl T.n_len PySem.boot_len (da_cons (de_fld (c := 1) (k := 1) T.c1 T.k1_1 (de_var 0)) da_nil)) de_int) (da_cons (de_gint T.x_MOST_SIGHTS) da_nil)) (len_cons (len_cons (fun _ _ _ _ => len_nil))))) (dx_lifts ds_nil))
    (dx_cons (dx_lift (ds_set (i := 2) sc_Watcher_see.nd rfl (Or.inl rfl) (de_cal c_seen hr (by decide) rfl (da_cons (de_fld (c := 1) (k := 0) T.c1 T.k1_0 (de_var 0)) (da_cons (de_fld (c := 1) (k := 2) T.c1 T.k1_2 (de_var 0)) (da_cons (de_var 1) da_nil))) (len_cons (len_cons (len_cons (fun _ _ _ _ => len_nil)))))))
    (dx_cons (dx_if (dt_cmp (op_eqE ct hu64) os_eqE (de_var 2) de_dnil) (dx_one (dx_raise T.e5 c_NoSight tk rfl hr (by decide) (da_cons (de_var 1) da_nil) (len_cons (fun _ _ _ _ => len_nil)))) (dx_lifts ds_nil))
    (dx_lifts (ds_cons (ds_fld (c := 1) (k := 2) T.c1 T.k1_2 (de_var 0) (de_var 2))
    (ds_one (ds_expr (de_met PySem.F.plainAttrs_list PySem.F.slot_list_append PySem.F.type_list_append mt_append ty_list ms_app (de_fld (c := 1) (k := 1) T.c1 T.k1_1 (de_var 0)) (da_cons (de_var 1) da_nil)))))))))
abbrev s_law_caught : Stmt := (top 36)
abbrev N_law_caught : List Str := ["_law_watcher", "_law_sign", "_law_caught_here", "_law_e"]
abbrev P_law_caught : List Str := ["_law_watcher", "_law_sign"]
theorem sc_law_caught : FnScope N_law_caught P_law_caught (defScope s_law_caught) := ⟨rfl, rfl, rfl, by decide +kernel, rfl, by decide +kernel, by decide +kernel⟩
set_option maxHeartbeats 4000000 in
theorem ok_law_caught {P : Program} {w : World} {K : PySem.W.Frag} {mg : Str → Option Value} {base : Heap} {ct : Nat → Addr × List Str} {f : Addr} {fd : FuncData} (F : Fun K "_law_caught" "_law_caught" s_law_caught f fd) (T : Txt K mg ct) (c_Watcher_see_X : CalMX P w K mg base ⟨P, w, K, ct⟩ 1 "see" 4 2 Φ_Watcher_see_X) :
    FnOk P w K mg base CX0 5 f fd P_law_caught (spG ⟨P, w, K, ct⟩ 2 Φ_law_caught) := by
  refine fn_ok (N := N_law_caught) F sc_law_caught (fun cdv A outer s H E hr => ?_)
  have hu9 : (A.deeper (PyProof.Rows.envOfC "_law_caught" (defScope s_law_caught) s.heap.objs.size f cdv)).units + 9 < cLine := by have := hr.un; omega
  have hu64 : (A.deeper (PyProof.Rows.envOfC "_law_caught" (defScope s_law_caught) s.heap.objs.size f cdv)).units + 64 < cLine := by have := hr.un; omega
  have hu65 : (A.deeper (PyProof.Rows.envOfC "_law_caught" (defScope s_law_caught) s.heap.objs.size f cdv)).units + 65 < cLine := by have := hr.un; omega
  exact (ds_cons (ds_set (i := 2) sc_law_caught.nd rfl (Or.inl rfl) de_non)
    (ds_cons (ds_tryK (i := 3) (j := 2) (cs := [2, 3, 4, 5]) rfl rfl rfl sc_law_caught.nd rfl rfl rfl (Or.inl rfl) (Or.inl rfl) ⟨rfl, by decide, Or.inl T.g6⟩ T.m6 (fun W pn xe tk pw => (dx_one (dx_calM T.c1 c_Watcher_see_X tk hr (by decide) rfl (de_var 0) (da_cons (de_var 1) da_nil) (len_cons (fun _ _ _ _ => len_nil))))))
    (ds_one (ds_ret (de_var 2)))))
abbrev s_Watcher_sights : Stmt := (inClass (top 27) 4)
abbrev N_Watcher_sights : List Str := ["self"]
abbrev P_Watcher_sights : List Str := ["self"]
theorem sc_Watcher_sights : FnScope N_Watcher_sights P_Watcher_sights (defScope s_Watcher_sights) := ⟨rfl, rfl, rfl, by decide +kernel, rfl, by decide +kernel, by decide +kernel⟩
set_option maxHeartbeats 4000000 in
theorem ok_Watcher_sights {P : Program} {w : World} {K : PySem.W.Frag} {mg : Str → Option Value} {base : Heap} {ct : Nat → Addr × List Str} {f : Addr} {fd : FuncData} (F : Fun K "sights" "Watcher.sights" s_Watcher_sights f fd) (T : Txt K mg ct) :
    FnOk P w K mg base CX0 1 f fd P_Watcher_sights (spG ⟨P, w, K, ct⟩ 1 Φ_Watcher_sights) := by
  refine fn_ok (N := N_Watcher_sights) F sc_Watcher_sights (fun cdv A outer s H E hr => ?_)
  have hu9 : (A.deeper (PyProof.Rows.envOfC "Watcher.sights" (defScope s_Watcher_sights) s.heap.objs.size f cdv)).units + 9 < cLine := by have := hr.un; omega
  have hu64 : (A.deeper (PyProof.Rows.envOfC "Watcher.sights" (defScope s_Watcher_sights) s.heap.objs.size f cdv)).units + 64 < cLine := by have := hr.un; omega
  have hu65 : (A.deeper (PyProof.Rows.envOfC "Watcher.sights" (defScope s_Watcher_sights) s.heap.objs.size f cdv)).units + 65 < cLine := by have := hr.un; omega
  exact (ds_one (ds_ret (de_callT call_list_of (cs_list false) rfl T.n_list PyProof.Rows.boot_list (da_cons (de_fld (c := 1) (k := 1) T.c1 T.k1_1 (de_var 0)) da_nil))))
abbrev s_Watcher_rooms : Stmt := (inClass (top 27) 2)
abbrev N_Watcher_rooms : List Str := ["self"]
abbrev P_Watcher_rooms : List Str := ["self"]
theorem sc_Watcher_rooms : FnScope N_Watcher_rooms P_Watcher_rooms (defScope s_Watcher_rooms) := ⟨rfl, rfl, rfl, by decide +kernel, rfl, by decide +kernel, by decide +kernel⟩
set_option maxHeartbeats 4000000 in
theorem ok_Watcher_rooms {P : Program} {w : World} {K : PySem.W.Frag} {mg : Str → Option Value} {base : Heap} {ct : Nat → Addr × List Str} {f : Addr} {fd : FuncData} (F : Fun K "rooms" "Watcher.rooms" s_Watcher_rooms f fd) (T : Txt K mg ct) (c_rooms_in : Cal P w K mg base ⟨P, w, K, ct⟩ "rooms_in" 1 1 Φ_rooms_in) :
    FnOk P w K mg base CX0 2 f fd P_Watcher_rooms (spG ⟨P, w, K, ct⟩ 1 Φ_Watcher_rooms) := by
  refine fn_ok (N := N_Watcher_rooms) F sc_Watcher_rooms (fun cdv A outer s H E hr => ?_)
  have hu9 : (A.deeper (PyProof.Rows.envOfC "Watcher.rooms" (defScope s_Watcher_rooms) s.heap.objs.size f cdv)).units + 9 < cLine := by have := hr.un; omega
  have hu64 : (A.deeper (PyProof.Rows.envOfC "Watcher.rooms" (defScope s_Watcher_rooms) s.heap.objs.size f cdv)).units + 64 < cLine := by have := hr.un; omega
  have hu65 : (A.deeper (PyProof.Rows.envOfC "Watcher.rooms" (defScope s_Watcher_rooms) s.heap.objs.size f cdv)).units + 65 < cLine := by have := hr.un; omega
  exact (ds_one (ds_ret (de_cal c_rooms_in hr (by decide) rfl (da_cons (de_fld (c := 1) (k := 2) T.c1 T.k1_2 (de_var 0)) da_nil) (len_cons (fun _ _ _ _ => len_nil)))))
abbrev s_law_tried : Stmt := (top 38)
abbrev N_law_tried : List Str := ["_law_machine", "_law_watcher", "_law_past", "_law_sign", "_law_due"]
abbrev P_law_tried : List Str := ["_law_machine", "_law_watcher", "_law_past", "_law_sign"]
theorem sc_law_tried : FnScope N_law_tried P_law_tried (defScope s_law_tried) := ⟨rfl, rfl, rfl, by decide +kernel, rfl, by decide +kernel, by decide +kernel⟩
set_option maxHeartbeats 4000000 in
theorem ok_law_tried {P : Program} {w : World} {K : PySem.W.Frag} {mg : Str → Option Value} {base : Heap} {ct : Nat → Addr × List Str} {f : Addr} {fd : FuncData} (F : Fun K "_law_tried" "_law_tried" s_law_tried f fd) (T : Txt K mg ct) (c_possible : Cal P w K mg base ⟨P, w, K, ct⟩ "possible" 5 2 Φ_possible) (c_law_refused : Cal P w K mg base ⟨P, w, K, ct⟩ "_law_refused" 1 2 Φ_law_refused) (c_law_caught : Cal P w K mg base ⟨P, w, K, ct⟩ "_law_caught" 5 2 Φ_law_caught) (c_Watcher_sights : CalM P w K mg base ⟨P, w, K, ct⟩ 1 "sights" 1 1 Φ_Watcher_sights) (c_Watcher_rooms : CalM P w K mg base ⟨P, w, K, ct⟩ 1 "rooms" 2 1 Φ_Watcher_rooms) (c_Watcher_verdict : CalM P w K mg base ⟨P, w, K, ct⟩ 1 "verdict" 2 1 Φ_Watcher_verdict) (c_verdict : Cal P w K mg base ⟨P, w, K, ct⟩ "verdict" 5 2 Φ_verdict) :
    FnOk P w K mg base CX0 6 f fd P_law_tried (spG ⟨P, w, K, ct⟩ 4 Φ_law_tried) := by
  refine fn_ok (N := N_law_tried) F sc_law_tried (fun cdv A outer s H E hr => ?_)
  have hu9 : (A.deeper (PyProof.Rows.envOfC "_law_tried" (defScope s_law_tried) s.heap.objs.size f cdv)).units + 9 < cLine := by have := hr.un; omega
  have hu64 : (A.deeper (PyProof.Rows.envOfC "_law_tried" (defScope s_law_tried) s.heap.objs.size f cdv)).units + 64 < cLine := by have := hr.un; omega
  have hu65 : (A.deeper (PyProof.Rows.envOfC "_law_tried" (defScope s_law_tried) s.heap.objs.size f cdv)).units + 65 < cLine := by have := hr.un; omega
  exact (ds_cons (ds_set (i := 4) sc_law_tried.nd rfl (Or.inl rfl) (de_lst false da_nil))
    (ds_cons (ds_if (dt_cmp (op_eqD hu64) os_eq (de_callB (call_lenA ct) cs_len rfl T.n_len PySem.boot_len (da_cons (de_var 2) da_nil)) de_int) (ds_one (ds_set (i := 4) sc_law_tried.nd rfl (Or.inl rfl) (de_lst false (da_cons de_int (da_cons de_int da_nil))))) (ds_one (ds_if (dt_cmp (op_eqD hu64) os_eq (de_cal c_possible hr (by decide) rfl (da_cons (de_var 0) (da_cons (de_bin op_addD (os_add false) (de_var 2) (de_lst false (da_cons (de_var 3) da_nil))) da_nil)) (len_cons (len_cons (fun _ _ _ _ => len_nil)))) (de_lst false da_nil)) (ds_one (ds_set (i := 4) sc_law_tried.nd rfl (Or.inl rfl) (de_lst false (da_cons (de_var 3) da_nil)))) ds_nil)))
    (ds_cons (ds_if (dt_not (dt_of (de_cal c_law_refused hr (by decide) rfl (da_cons (de_cal c_law_caught hr (by decide) rfl (da_cons (de_var 1) (da_cons (de_var 3) da_nil)) (len_cons (len_cons (fun _ _ _ _ => len_nil)))) (da_cons (de_var 4) da_nil)) (len_cons (len_cons (fun _ _ _ _ => len_nil)))))) (ds_one (ds_ret de_non)) ds_nil)
    (ds_cons (ds_if (dt_cmp (op_eqD hu64) os_eq (de_var 4) (de_lst false da_nil)) (ds_one (ds_set (i := 2) sc_law_tried.nd rfl (Or.inl rfl) (de_bin op_addD (os_add false) (de_var 2) (de_lst false (da_cons (de_var 3) da_nil))))) ds_nil)
    (ds_cons (ds_if (dt_pw (dw_or (dt_cmp (op_neD hu64) os_ne (de_calM0 T.c1 c_Watcher_sights hr (by decide) (de_var 1)) (de_var 2)) (dw_or1 (dt_cmp (op_neD hu64) os_ne (de_calM0 T.c1 c_Watcher_rooms hr (by decide) (de_var 1)) (de_cal c_possible hr (by decide) rfl (da_cons (de_var 0) (da_cons (de_var 2) da_nil)) (len_cons (len_cons (fun _ _ _ _ => len_nil)))))))) (ds_one (ds_ret de_non)) ds_nil)
    (ds_cons (ds_if (dt_cmp (op_neD hu64) os_ne (de_calM0 T.c1 c_Watcher_verdict hr (by decide) (de_var 1)) (de_cal c_verdict hr (by decide) rfl (da_cons (de_var 0) (da_cons (de_var 2) da_nil)) (len_cons (len_cons (fun _ _ _ _ => len_nil))))) (ds_one (ds_ret de_non)) ds_nil)
    (ds_one (ds_ret (de_var 2)))))))))
abbrev s_law : Stmt := (top 39)
abbrev N_law : List Str := ["_law_script", "_law_size", "_law_starts", "_law_moves_here", "_law_signs_here", "_law_faults", "_law_number", "_law_deed", "_law_home", "_law_machine", "_law_words_here", "_law_word", "_law_watcher", "_law_many", "_law_past", "_law_k", "_law_cell_here"]
abbrev P_law : List Str := ["_law_script"]
theorem sc_law : FnScope N_law P_law (defScope s_law) := ⟨rfl, rfl, rfl, by decide +kernel, rfl, by decide +kernel, by decide +kernel⟩
set_option maxHeartbeats 4000000 in
theorem ok_law {P : Program} {w : World} {K : PySem.W.Frag} {mg : Str → Option Value} {base : Heap} {ct : Nat → Addr × List Str} {f : Addr} {fd : FuncData} (F : Fun K "law" "law" s_law f fd) (T : Txt K mg ct) (c_law_parts_L : Cal P w K mg base ⟨P, w, K, ct⟩ "_law_parts" 3 3 Φ_law_parts_L) (c_law_cell : Cal P w K mg base ⟨P, w, K, ct⟩ "_law_cell" 1 2 Φ_law_cell) (c_Machine_init : CalK P w K mg base ⟨P, w, K, ct⟩ 0 "Machine" 3 6 Φ_Machine_init) (c_Watcher_init : CalK P w K mg base ⟨P, w, K, ct⟩ 1 "Watcher" 4 2 Φ_Watcher_init) (c_law_caught : Cal P w K mg base ⟨P, w, K, ct⟩ "_law_caught" 5 2 Φ_law_caught) (c_law_tried : Cal P w K mg base ⟨P, w, K, ct⟩ "_law_tried" 6 4 Φ_law_tried) :
    FnOk P w K mg base CX0 7 f fd P_law (spG ⟨P, w, K, ct⟩ 1 Φ_law) := by
  refine FnOk.pure (n := 17) (fn_ok (N := N_law) F sc_law (fun cdv A outer s H E hr => ?_))
  have hu9 : (A.deeper (PyProof.Rows.envOfC "law" (defScope s_law) s.heap.objs.size f cdv)).units + 9 < cLine := by have := hr.un; omega
  have hu64 : (A.deeper (PyProof.Rows.envOfC "law" (defScope s_law) s.heap.objs.size f cdv)).units + 64 < cLine := by have := hr.un; omega
  have hu65 : (A.deeper (PyProof.Rows.envOfC "law" (defScope s_law) s.heap.objs.size f cdv)).units + 65 < cLine := by have := hr.un; omega
  exact (ds_cons (ds_asg (de_cal c_law_parts_L hr (by decide) rfl (da_cons (de_var 0) (da_cons de_int (da_cons de_int da_nil))) (len_cons (len_cons (len_cons (fun _ _ _ _ => len_nil))))) (pg_or (pg_tup rfl (pgs_cons (pg_name (i := 1) sc_law.nd rfl (Or.inl rfl)) (pgs_cons (pg_name (i := 2) sc_law.nd rfl (Or.inl rfl)) (pgs_cons (pg_name (i := 3) sc_law.nd rfl (Or.inl rfl)) (pgs_cons (pg_name (i := 4) sc_law.nd rfl (Or.inr rfl)) (pgs_cons (pg_name (i := 5) sc_law.nd rfl (Or.inl rfl)) pgs_nil)))))) (pg_unl rfl (pgs_cons (pg_name (i := 1) sc_law.nd rfl (Or.inl rfl)) (pgs_cons (pg_name (i := 2) sc_law.nd rfl (Or.inl rfl)) (pgs_cons (pg_name (i := 3) sc_law.nd rfl (Or.inl rfl)) (pgs_cons (pg_name (i := 4) sc_law.nd rfl (Or.inr rfl)) (pgs_cons (pg_name (i := 5) sc_law.nd rfl (Or.inl rfl)) pgs_nil))))))) (go_many rfl [1, 2, 3, 4, 5]))
    (ds_cons (ds_set (i := 6) sc_law.nd rfl (Or.inl rfl) (de_bin op_mod os_mod (de_bin op_mulA (os_mulA false) (de_cal c_law_cell hr (by decide) rfl (da_cons (de_var 0) (da_cons de_int da_nil)) (len_cons (len_cons (fun _ _ _ _ => len_nil)))) de_int) de_int))
    (ds_cons (ds_set (i := 7) sc_law.nd rfl (Or.inl rfl) de_str)
    (ds_cons (ds_set (i := 8) sc_law.nd rfl (Or.inl rfl) (de_bin op_mod os_mod (de_var 6) (de_var 1)))
    (ds_cons (ds_sub hu9 (de_var 4) (de_var 7) de_str)
    (ds_cons (ds_set (i := 9) sc_law.nd rfl (Or.inl rfl) (de_calK false T.c0 c_Machine_init hr (by decide) rfl (da_cons (de_var 1) (da_cons (de_bin op_addD (os_add false) (de_var 2) (de_lst false (da_cons (de_var 8) da_nil))) (da_cons (de_bin op_addD (os_add false) (de_var 3) (de_lst false (da_cons (de_tup (da_cons (de_var 8) (da_cons (de_var 7) (da_cons (de_var 8) da_nil)))) da_nil))) (da_cons (de_frzT (de_var 4)) (da_cons (de_var 5) da_nil))))) (len_cons (len_cons (len_cons (len_cons (len_cons (fun _ _ _ _ => len_nil))))))))
    (ds_cons (ds_set (i := 10) sc_law.nd rfl (Or.inl rfl) (de_bin op_addD (os_add false) (de_lc (own := [("_law_word", 11)]) false rfl sc_law.nd (di_keys (de_frzT (de_var 4))) (blkOk_by (own := [("_law_word", 11)]) (N := N_law) (sc := defScope s_law) (by decide +kernel)) (go_name 11) (by decide) (fun _ _ _ _ _ => (pg_name (i := 11) sc_law.nd rfl (Or.inl rfl))) (fun _ _ _ _ _ => dpts_nil) (fun _ _ _ _ _ => (de_ix hu9 (de_var 4) (de_var 11)))) (de_lst false (da_cons de_str da_nil))))
    (ds_cons (ds_set (i := 12) sc_law.nd rfl (Or.inl rfl) (de_calK true T.c1 c_Watcher_init hr (by decide) rfl (da_cons (de_var 9) da_nil) (len_cons (fun _ _ _ _ => len_nil))))
    (ds_cons (ds_set (i := 13) sc_law.nd rfl (Or.inl rfl) (de_ix hu9 (de_lst false (da_cons de_int (da_cons de_int (da_cons de_int (da_cons de_int (da_cons (de_bin op_mod os_mod (de_bin op_fdivW os_fdiv (de_var 6) de_int) de_int) da_nil)))))) (de_bin op_mod os_mod (de_bin op_fdivW os_fdiv (de_var 6) de_int) de_int)))
    (ds_cons (ds_set (i := 14) sc_law.nd rfl (Or.inl rfl) (de_lst false da_nil))
    (ds_cons (ds_for PassesOwn.never rfl (di_rng1 rfl T.n_range (de_var 13)) (pg_name (i := 15) sc_law.nd rfl (Or.inl rfl)) (go_name 15) (ds_cons (ds_if (dt_cmp op_notN os_isn (de_cal c_law_caught hr (by decide) rfl (da_cons (de_var 12) (da_cons de_str da_nil)) (len_cons (len_cons (fun _ _ _ _ => len_nil)))) de_non) (ds_one (ds_ret de_bl)) ds_nil)
    (ds_one (ds_set (i := 14) sc_law.nd rfl (Or.inl rfl) (de_bin op_addD (os_add false) (de_var 14) (de_lst false (da_cons de_str da_nil)))))))
    (ds_cons (ds_for PassesOwn.never rfl (di_seq (de_bin op_addD (os_add false) (de_lst false (da_cons de_int da_nil)) (de_slice false (de_var 0) (do_some de_int) (do_some de_int)))) (pg_name (i := 16) sc_law.nd rfl (Or.inl rfl)) (go_name 16) (ds_cons (ds_set (i := 14) sc_law.nd rfl (Or.inl rfl) (de_cal c_law_tried hr (by decide) rfl (da_cons (de_var 9) (da_cons (de_var 12) (da_cons (de_var 14) (da_cons (de_ix hu9 (de_var 10) (de_bin op_mod os_mod (de_var 16) (de_callB (call_lenA ct) cs_len rfl T.n_len PySem.boot_len (da_cons (de_var 10) da_nil)))) da_nil)))) (len_cons (len_cons (len_cons (len_cons (fun _ _ _ _ => len_nil)))))))
    (ds_one (ds_if (dt_cmp op_isN os_is (de_var 14) de_non) (ds_one (ds_ret de_bl)) ds_nil))))
    (ds_one (ds_ret (de_cmp op_notN os_isn (de_cal c_law_tried hr (by decide) rfl (da_cons (de_var 9) (da_cons (de_var 12) (da_cons (de_var 14) (da_cons de_str da_nil)))) (len_cons (len_cons (len_cons (len_cons (fun _ _ _ _ => len_nil)))))) de_non)))))))))))))))
end SB
set_option Elab.async false
set_option linter.all false
set_option maxRecDepth 100000
namespace SB
open PySem L2
def spLaw (K : PySem.W.Frag) : Sp := fun vs H Q _ => ∃ (a : Addr) (ns : List Int), vs = [.ref a] ∧ SqL K H a (ns.map V.int) ∧ ns.length ≤ 63 ∧ (∀ z ∈ ns, Builtin.Int.intBits z ≤ 1048576) ∧ ∀ H', Q (.bl true) H'
set_option maxHeartbeats 0 in
theorem all_mk {l : PySem.W.OpenLaw} {w : World} {K : PySem.W.Frag} {h : Heap} {mg : Str → Option Value} {fa : Addr} (X : K.In h) (G : h.Ns mainGlobals mg) (hfa : mg "law" = some (.ref fa))
    {C_Machine : Addr} {C_Watcher : Addr} {C_SightError : Addr} {C_NoSight : Addr} {C_NoWord : Addr} {C_NoRoom : Addr} {C_TooGreat : Addr} {nm_NoSight q_NoSight : Str} {N_NoSight : Addr} {bs_NoSight : List Value} {sn_NoSight : List Str} {su_NoSight : List Value} {ab_NoSight : Bool} {co_NoSight : Option Bool} {dd_NoSight : Option Addr} {m0_NoSight m1_NoSight m2_NoSight m3_NoSight m5_NoSight : Option Value} {f_NoSight_init : Addr} {oc_NoSight_init kV_NoSight_init dc_NoSight_init pm_NoSight_init cd_NoSight_init ct_NoSight_init : Value} {od_NoSight_init an_NoSight_init : Option Addr} {sl_NoSight_init : Array (Option Value)} {nm_NoWord q_NoWord : Str} {N_NoWord : Addr} {bs_NoWord : List Value} {sn_NoWord : List Str} {su_NoWord : List Value} {ab_NoWord : Bool} {co_NoWord : Option Bool} {dd_NoWord : Option Addr} {m0_NoWord m1_NoWord m2_NoWord m3_NoWord m5_NoWord : Option Value} {f_NoWord_init : Addr} {oc_NoWord_init kV_NoWord_init dc_NoWord_init pm_NoWord_init cd_NoWord_init ct_NoWord_init : Value} {od_NoWord_init an_NoWord_init : Option Addr} {sl_NoWord_init : Array (Option Value)} {nm_NoRoom q_NoRoom : Str} {N_NoRoom : Addr} {bs_NoRoom : List Value} {sn_NoRoom : List Str} {su_NoRoom : List Value} {ab_NoRoom : Bool} {co_NoRoom : Option Bool} {dd_NoRoom : Option Addr} {m0_NoRoom m1_NoRoom m2_NoRoom m3_NoRoom m5_NoRoom : Option Value} {f_NoRoom_init : Addr} {oc_NoRoom_init kV_NoRoom_init dc_NoRoom_init pm_NoRoom_init cd_NoRoom_init ct_NoRoom_init : Value} {od_NoRoom_init an_NoRoom_init : Option Addr} {sl_NoRoom_init : Array (Option Value)} {nm_TooGreat q_TooGreat : Str} {N_TooGreat : Addr} {bs_TooGreat : List Value} {sn_TooGreat : List Str} {su_TooGreat : List Value} {ab_TooGreat : Bool} {co_TooGreat : Option Bool} {dd_TooGreat : Option Addr} {m0_TooGreat m1_TooGreat m2_TooGreat m3_TooGreat m5_TooGreat : Option Value} {f_TooGreat_init : Addr} {oc_TooGreat_init kV_TooGreat_init dc_TooGreat_init pm_TooGreat_init cd_TooGreat_init ct_TooGreat_init : Value} {od_TooGreat_init an_TooGreat_init : Option Addr} {sl_TooGreat_init : Array (Option Value)} {f_law_cell : Addr} {oc_law_cell kV_law_cell dc_law_cell pm_law_cell cd_law_cell ct_law_cell : Value} {od_law_cell an_law_cell : Option Addr} {sl_law_cell : Array (Option Value)} {f_law_signs : Addr} {oc_law_signs kV_law_signs dc_law_signs pm_law_signs cd_law_signs ct_law_signs : Value} {od_law_signs an_law_signs : Option Addr} {sl_law_signs : Array (Option Value)} {f_law_rooms : Addr} {oc_law_rooms kV_law_rooms dc_law_rooms pm_law_rooms cd_law_rooms ct_law_rooms : Value} {od_law_rooms an_law_rooms : Option Addr} {sl_law_rooms : Array (Option Value)} {f_law_moves : Addr} {oc_law_moves kV_law_moves dc_law_moves pm_law_moves cd_law_moves ct_law_moves : Value} {od_law_moves an_law_moves : Option Addr} {sl_law_moves : Array (Option Value)} {f_law_words : Addr} {oc_law_words kV_law_words dc_law_words pm_law_words cd_law_words ct_law_words : Value} {od_law_words an_law_words : Option Addr} {sl_law_words : Array (Option Value)} {f_law_deeds : Addr} {oc_law_deeds kV_law_deeds dc_law_deeds pm_law_deeds cd_law_deeds ct_law_deeds : Value} {od_law_deeds an_law_deeds : Option Addr} {sl_law_deeds : Array (Option Value)} {f_law_parts : Addr} {oc_law_parts kV_law_parts dc_law_parts pm_law_parts cd_law_parts ct_law_parts : Value} {od_law_parts an_law_parts : Option Addr} {sl_law_parts : Array (Option Value)} {f_must_room : Addr} {oc_must_room kV_must_room dc_must_room pm_must_room cd_must_room ct_must_room : Value} {od_must_room an_must_room : Option Addr} {sl_must_room : Array (Option Value)} {f_is_word : Addr} {oc_is_word kV_is_word dc_is_word pm_is_word cd_is_word ct_is_word : Value} {od_is_word an_is_word : Option Addr} {sl_is_word : Array (Option Value)} {f_must_word : Addr} {oc_must_word kV_must_word dc_must_word pm_must_word cd_must_word ct_must_word : Value} {od_must_word an_must_word : Option Addr} {sl_must_word : Array (Option Value)} {f_Machine_init : Addr} {oc_Machine_init kV_Machine_init dc_Machine_init pm_Machine_init cd_Machine_init ct_Machine_init : Value} {od_Machine_init an_Machine_init : Option Addr} {sl_Machine_init : Array (Option Value)} {f_moves_from : Addr} {oc_moves_from kV_moves_from dc_moves_from pm_moves_from cd_moves_from ct_moves_from : Value} {od_moves_from an_moves_from : Option Addr} {sl_moves_from : Array (Option Value)} {f_Machine_sign_of : Addr} {oc_Machine_sign_of kV_Machine_sign_of dc_Machine_sign_of pm_Machine_sign_of cd_Machine_sign_of ct_Machine_sign_of : Value} {od_Machine_sign_of an_Machine_sign_of : Option Addr} {sl_Machine_sign_of : Array (Option Value)} {f_Machine_is_fault : Addr} {oc_Machine_is_fault kV_Machine_is_fault dc_Machine_is_fault pm_Machine_is_fault cd_Machine_is_fault ct_Machine_is_fault : Value} {od_Machine_is_fault an_Machine_is_fault : Option Addr} {sl_Machine_is_fault : Array (Option Value)} {f_spread : Addr} {oc_spread kV_spread dc_spread pm_spread cd_spread ct_spread : Value} {od_spread an_spread : Option Addr} {sl_spread : Array (Option Value)} {f_Machine_starts : Addr} {oc_Machine_starts kV_Machine_starts dc_Machine_starts pm_Machine_starts cd_Machine_starts ct_Machine_starts : Value} {od_Machine_starts an_Machine_starts : Option Addr} {sl_Machine_starts : Array (Option Value)} {f_start_spots : Addr} {oc_start_spots kV_start_spots dc_start_spots pm_start_spots cd_start_spots ct_start_spots : Value} {od_start_spots an_start_spots : Option Addr} {sl_start_spots : Array (Option Value)} {f_begun : Addr} {oc_begun kV_begun dc_begun pm_begun cd_begun ct_begun : Value} {od_begun an_begun : Option Addr} {sl_begun : Array (Option Value)} {f_Watcher_init : Addr} {oc_Watcher_init kV_Watcher_init dc_Watcher_init pm_Watcher_init cd_Watcher_init ct_Watcher_init : Value} {od_Watcher_init an_Watcher_init : Option Addr} {sl_Watcher_init : Array (Option Value)} {f_law_refused : Addr} {oc_law_refused kV_law_refused dc_law_refused pm_law_refused cd_law_refused ct_law_refused : Value} {od_law_refused an_law_refused : Option Addr} {sl_law_refused : Array (Option Value)} {f_verdict_of : Addr} {oc_verdict_of kV_verdict_of dc_verdict_of pm_verdict_of cd_verdict_of ct_verdict_of : Value} {od_verdict_of an_verdict_of : Option Addr} {sl_verdict_of : Array (Option Value)} {f_Watcher_verdict : Addr} {oc_Watcher_verdict kV_Watcher_verdict dc_Watcher_verdict pm_Watcher_verdict cd_Watcher_verdict ct_Watcher_verdict : Value} {od_Watcher_verdict an_Watcher_verdict : Option Addr} {sl_Watcher_verdict : Array (Option Value)} {f_seen : Addr} {oc_seen kV_seen dc_seen pm_seen cd_seen ct_seen : Value} {od_seen an_seen : Option Addr} {sl_seen : Array (Option Value)} {f_spots_behind : Addr} {oc_spots_behind kV_spots_behind dc_spots_behind pm_spots_behind cd_spots_behind ct_spots_behind : Value} {od_spots_behind an_spots_behind : Option Addr} {sl_spots_behind : Array (Option Value)} {f_verdict : Addr} {oc_verdict kV_verdict dc_verdict pm_verdict cd_verdict ct_verdict : Value} {od_verdict an_verdict : Option Addr} {sl_verdict : Array (Option Value)} {f_rooms_in : Addr} {oc_rooms_in kV_rooms_in dc_rooms_in pm_rooms_in cd_rooms_in ct_rooms_in : Value} {od_rooms_in an_rooms_in : Option Addr} {sl_rooms_in : Array (Option Value)} {f_possible : Addr} {oc_possible kV_possible dc_possible pm_possible cd_possible ct_possible : Value} {od_possible an_possible : Option Addr} {sl_possible : Array (Option Value)} {f_Watcher_see : Addr} {oc_Watcher_see kV_Watcher_see dc_Watcher_see pm_Watcher_see cd_Watcher_see ct_Watcher_see : Value} {od_Watcher_see an_Watcher_see : Option Addr} {sl_Watcher_see : Array (Option Value)} {f_law_caught : Addr} {oc_law_caught kV_law_caught dc_law_caught pm_law_caught cd_law_caught ct_law_caught : Value} {od_law_caught an_law_caught : Option Addr} {sl_law_caught : Array (Option Value)} {f_Watcher_sights : Addr} {oc_Watcher_sights kV_Watcher_sights dc_Watcher_sights pm_Watcher_sights cd_Watcher_sights ct_Watcher_sights : Value} {od_Watcher_sights an_Watcher_sights : Option Addr} {sl_Watcher_sights : Array (Option Value)} {f_Watcher_rooms : Addr} {oc_Watcher_rooms kV_Watcher_rooms dc_Watcher_rooms pm_Watcher_rooms cd_Watcher_rooms ct_Watcher_rooms : Value} {od_Watcher_rooms an_Watcher_rooms : Option Addr} {sl_Watcher_rooms : Array (Option Value)} {f_law_tried : Addr} {oc_law_tried kV_law_tried dc_law_tried pm_law_tried cd_law_tried ct_law_tried : Value} {od_law_tried an_law_tried : Option Addr} {sl_law_tried : Array (Option Value)} {f_law : Addr} {oc_law kV_law dc_law pm_law cd_law ct_law : Value} {od_law an_law : Option Addr} {sl_law : Array (Option Value)} {t_LETTERS : Tok} {t_MOST_ROOMS : Tok} {t_MOST_MOVES : Tok} {t_MOST_SIGHTS : Tok}
    (q0_aC : PySem.W.nsIn K mainGlobals "Machine" = some (some (.ref C_Machine)))
    (q0_pg : PySem.W.plainGet K C_Machine Str.empty = true)
    (q0_hd : PySem.W.hasDictIn K C_Machine = true)
    (q0_po : PySem.W.plainOver K C_Machine = true)
    (q0_sa : PySem.W.findIn K (.ref C_Machine) "__setattr__" = some (some (.builtin "object.__setattr__")))
    (q0_mk : PySem.W.makesIn K C_Machine = true)
    (q0_kc : PySem.W.keepIn K (.ref C_Machine) = true)
    (q0_n0 : PySem.W.findIn K (.ref C_Machine) "size" = some none)
    (q0_n1 : PySem.W.findIn K (.ref C_Machine) "begun" = some none)
    (q0_n2 : PySem.W.findIn K (.ref C_Machine) "known" = some none)
    (q0_n3 : PySem.W.findIn K (.ref C_Machine) "leading" = some none)
    (q0_n4 : PySem.W.findIn K (.ref C_Machine) "seen" = some none)
    (q0_n5 : PySem.W.findIn K (.ref C_Machine) "wrong" = some none)
    (q1_aC : PySem.W.nsIn K mainGlobals "Watcher" = some (some (.ref C_Watcher)))
    (q1_pg : PySem.W.plainGet K C_Watcher Str.empty = true)
    (q1_hd : PySem.W.hasDictIn K C_Watcher = true)
    (q1_po : PySem.W.plainOver K C_Watcher = true)
    (q1_sa : PySem.W.findIn K (.ref C_Watcher) "__setattr__" = some (some (.builtin "object.__setattr__")))
    (q1_mk : PySem.W.makesIn K C_Watcher = true)
    (q1_kc : PySem.W.keepIn K (.ref C_Watcher) = true)
    (q1_n0 : PySem.W.findIn K (.ref C_Watcher) "machine" = some none)
    (q1_n1 : PySem.W.findIn K (.ref C_Watcher) "past" = some none)
    (q1_n2 : PySem.W.findIn K (.ref C_Watcher) "spots" = some none)
    (xsp : PySem.W.specialIn K (.builtin "object.__class__") "__get__" = some (some (.builtin "getset_descriptor.__get__")))
    (xtk : PySem.W.takesIn K (.builtin "object.__class__") = some true)
    (xa6 : PySem.W.nsIn K mainGlobals "SightError" = some (some (.ref C_SightError)))
    (xga6 : PySem.W.findIn K (.ref C_SightError) "__getattribute__" = some (some (.builtin "BaseException.__getattribute__")))
    (xgg6 : PySem.W.findIn K (.ref C_SightError) "__getattr__" = some none)
    (xex6 : PySem.W.subIn K (.ref C_SightError) (.type "BaseException") = some true)
    (xhd6 : PySem.W.hasDictIn K C_SightError = true)
    (xcc6 : PySem.W.findIn K (.ref C_SightError) "__class__" = some (some (.builtin "object.__class__")))
    (xmo6 : PySem.W.mroIn K C_SightError (.type "object") = some true)
    (xkv6 : PySem.W.subIn K (.ref C_SightError) (.type "ValueError") = some true)
    (xty6 : PySem.W.typeIn K (.ref C_SightError) = some (.type "type"))
    (xx6 : PySem.W.excIn K C_SightError [.type "ValueError", .type "Exception", .type "BaseException", .type "object"] "ValueError.__new__" = true)
    (xk6 : PySem.W.keepIn K (.ref C_SightError) = true)
    (xa5 : PySem.W.nsIn K mainGlobals "NoSight" = some (some (.ref C_NoSight)))
    (xga5 : PySem.W.findIn K (.ref C_NoSight) "__getattribute__" = some (some (.builtin "BaseException.__getattribute__")))
    (xgg5 : PySem.W.findIn K (.ref C_NoSight) "__getattr__" = some none)
    (xex5 : PySem.W.subIn K (.ref C_NoSight) (.type "BaseException") = some true)
    (xhd5 : PySem.W.hasDictIn K C_NoSight = true)
    (xcc5 : PySem.W.findIn K (.ref C_NoSight) "__class__" = some (some (.builtin "object.__class__")))
    (xmo5 : PySem.W.mroIn K C_NoSight (.type "object") = some true)
    (xkv5 : PySem.W.subIn K (.ref C_NoSight) (.type "ValueError") = some true)
    (xty5 : PySem.W.typeIn K (.ref C_NoSight) = some (.type "type"))
    (xl5 : K.lookup C_NoSight = some (PySem.excClassObj nm_NoSight q_NoSight C_NoSight N_NoSight bs_NoSight [.ref C_SightError, .type "ValueError", .type "Exception", .type "BaseException", .type "object"] true sn_NoSight su_NoSight ab_NoSight co_NoSight dd_NoSight m0_NoSight m1_NoSight m2_NoSight m3_NoSight m5_NoSight "ValueError.__new__"))
    (xsa5 : PySem.W.findIn K (.ref C_NoSight) "__setattr__" = some (some (.builtin "object.__setattr__")))
    (xkc5 : PySem.W.keepIn K (.ref C_NoSight) = true)
    (xno5_0 : PySem.W.findIn K (.ref C_NoSight) "sign" = some none)
    (a_NoSight_init : PySem.W.findIn K (.ref C_NoSight) "__init__" = some (some (.ref f_NoSight_init)))
    (t_NoSight_init : PySem.W.typeIn K (.ref f_NoSight_init) = some (.type "function"))
    (l_NoSight_init : K.lookup f_NoSight_init = some ⟨oc_NoSight_init, od_NoSight_init, .func (PySem.W.fnOf "__init__" "NoSight.__init__" (defArgs s_NoSight_init) (defBody s_NoSight_init) (defScope s_NoSight_init) .none kV_NoSight_init dc_NoSight_init pm_NoSight_init an_NoSight_init cd_NoSight_init ct_NoSight_init), sl_NoSight_init⟩)
    (e_NoSight_init : PySem.W.codeIn K cd_NoSight_init "NoSight.__init__" = true)
    (k_NoSight_init : PySem.W.keepIn K (.ref f_NoSight_init) = true)
    (xa4 : PySem.W.nsIn K mainGlobals "NoWord" = some (some (.ref C_NoWord)))
    (xga4 : PySem.W.findIn K (.ref C_NoWord) "__getattribute__" = some (some (.builtin "BaseException.__getattribute__")))
    (xgg4 : PySem.W.findIn K (.ref C_NoWord) "__getattr__" = some none)
    (xex4 : PySem.W.subIn K (.ref C_NoWord) (.type "BaseException") = some true)
    (xhd4 : PySem.W.hasDictIn K C_NoWord = true)
    (xcc4 : PySem.W.findIn K (.ref C_NoWord) "__class__" = some (some (.builtin "object.__class__")))
    (xmo4 : PySem.W.mroIn K C_NoWord (.type "object") = some true)
    (xkv4 : PySem.W.subIn K (.ref C_NoWord) (.type "ValueError") = some true)
    (xty4 : PySem.W.typeIn K (.ref C_NoWord) = some (.type "type"))
    (xl4 : K.lookup C_NoWord = some (PySem.excClassObj nm_NoWord q_NoWord C_NoWord N_NoWord bs_NoWord [.ref C_SightError, .type "ValueError", .type "Exception", .type "BaseException", .type "object"] true sn_NoWord su_NoWord ab_NoWord co_NoWord dd_NoWord m0_NoWord m1_NoWord m2_NoWord m3_NoWord m5_NoWord "ValueError.__new__"))
    (xsa4 : PySem.W.findIn K (.ref C_NoWord) "__setattr__" = some (some (.builtin "object.__setattr__")))
    (xkc4 : PySem.W.keepIn K (.ref C_NoWord) = true)
    (xno4_0 : PySem.W.findIn K (.ref C_NoWord) "word" = some none)
    (a_NoWord_init : PySem.W.findIn K (.ref C_NoWord) "__init__" = some (some (.ref f_NoWord_init)))
    (t_NoWord_init : PySem.W.typeIn K (.ref f_NoWord_init) = some (.type "function"))
    (l_NoWord_init : K.lookup f_NoWord_init = some ⟨oc_NoWord_init, od_NoWord_init, .func (PySem.W.fnOf "__init__" "NoWord.__init__" (defArgs s_NoWord_init) (defBody s_NoWord_init) (defScope s_NoWord_init) .none kV_NoWord_init dc_NoWord_init pm_NoWord_init an_NoWord_init cd_NoWord_init ct_NoWord_init), sl_NoWord_init⟩)
    (e_NoWord_init : PySem.W.codeIn K cd_NoWord_init "NoWord.__init__" = true)
    (k_NoWord_init : PySem.W.keepIn K (.ref f_NoWord_init) = true)
    (xa3 : PySem.W.nsIn K mainGlobals "NoRoom" = some (some (.ref C_NoRoom)))
    (xga3 : PySem.W.findIn K (.ref C_NoRoom) "__getattribute__" = some (some (.builtin "BaseException.__getattribute__")))
    (xgg3 : PySem.W.findIn K (.ref C_NoRoom) "__getattr__" = some none)
    (xex3 : PySem.W.subIn K (.ref C_NoRoom) (.type "BaseException") = some true)
    (xhd3 : PySem.W.hasDictIn K C_NoRoom = true)
    (xcc3 : PySem.W.findIn K (.ref C_NoRoom) "__class__" = some (some (.builtin "object.__class__")))
    (xmo3 : PySem.W.mroIn K C_NoRoom (.type "object") = some true)
    (xkv3 : PySem.W.subIn K (.ref C_NoRoom) (.type "ValueError") = some true)
    (xty3 : PySem.W.typeIn K (.ref C_NoRoom) = some (.type "type"))
    (xl3 : K.lookup C_NoRoom = some (PySem.excClassObj nm_NoRoom q_NoRoom C_NoRoom N_NoRoom bs_NoRoom [.ref C_SightError, .type "ValueError", .type "Exception", .type "BaseException", .type "object"] true sn_NoRoom su_NoRoom ab_NoRoom co_NoRoom dd_NoRoom m0_NoRoom m1_NoRoom m2_NoRoom m3_NoRoom m5_NoRoom "ValueError.__new__"))
    (xsa3 : PySem.W.findIn K (.ref C_NoRoom) "__setattr__" = some (some (.builtin "object.__setattr__")))
    (xkc3 : PySem.W.keepIn K (.ref C_NoRoom) = true)
    (xno3_0 : PySem.W.findIn K (.ref C_NoRoom) "room" = some none)
    (a_NoRoom_init : PySem.W.findIn K (.ref C_NoRoom) "__init__" = some (some (.ref f_NoRoom_init)))
    (t_NoRoom_init : PySem.W.typeIn K (.ref f_NoRoom_init) = some (.type "function"))
    (l_NoRoom_init : K.lookup f_NoRoom_init = some ⟨oc_NoRoom_init, od_NoRoom_init, .func (PySem.W.fnOf "__init__" "NoRoom.__init__" (defArgs s_NoRoom_init) (defBody s_NoRoom_init) (defScope s_NoRoom_init) .none kV_NoRoom_init dc_NoRoom_init pm_NoRoom_init an_NoRoom_init cd_NoRoom_init ct_NoRoom_init), sl_NoRoom_init⟩)
    (e_NoRoom_init : PySem.W.codeIn K cd_NoRoom_init "NoRoom.__init__" = true)
    (k_NoRoom_init : PySem.W.keepIn K (.ref f_NoRoom_init) = true)
    (xa2 : PySem.W.nsIn K mainGlobals "TooGreat" = some (some (.ref C_TooGreat)))
    (xga2 : PySem.W.findIn K (.ref C_TooGreat) "__getattribute__" = some (some (.builtin "BaseException.__getattribute__")))
    (xgg2 : PySem.W.findIn K (.ref C_TooGreat) "__getattr__" = some none)
    (xex2 : PySem.W.subIn K (.ref C_TooGreat) (.type "BaseException") = some true)
    (xhd2 : PySem.W.hasDictIn K C_TooGreat = true)
    (xcc2 : PySem.W.findIn K (.ref C_TooGreat) "__class__" = some (some (.builtin "object.__class__")))
    (xmo2 : PySem.W.mroIn K C_TooGreat (.type "object") = some true)
    (xkv2 : PySem.W.subIn K (.ref C_TooGreat) (.type "ValueError") = some true)
    (xty2 : PySem.W.typeIn K (.ref C_TooGreat) = some (.type "type"))
    (xl2 : K.lookup C_TooGreat = some (PySem.excClassObj nm_TooGreat q_TooGreat C_TooGreat N_TooGreat bs_TooGreat [.ref C_SightError, .type "ValueError", .type "Exception", .type "BaseException", .type "object"] true sn_TooGreat su_TooGreat ab_TooGreat co_TooGreat dd_TooGreat m0_TooGreat m1_TooGreat m2_TooGreat m3_TooGreat m5_TooGreat "ValueError.__new__"))
    (xsa2 : PySem.W.findIn K (.ref C_TooGreat) "__setattr__" = some (some (.builtin "object.__setattr__")))
    (xkc2 : PySem.W.keepIn K (.ref C_TooGreat) = true)
    (xno2_0 : PySem.W.findIn K (.ref C_TooGreat) "most" = some none)
    (xno2_1 : PySem.W.findIn K (.ref C_TooGreat) "number" = some none)
    (a_TooGreat_init : PySem.W.findIn K (.ref C_TooGreat) "__init__" = some (some (.ref f_TooGreat_init)))
    (t_TooGreat_init : PySem.W.typeIn K (.ref f_TooGreat_init) = some (.type "function"))
    (l_TooGreat_init : K.lookup f_TooGreat_init = some ⟨oc_TooGreat_init, od_TooGreat_init, .func (PySem.W.fnOf "__init__" "TooGreat.__init__" (defArgs s_TooGreat_init) (defBody s_TooGreat_init) (defScope s_TooGreat_init) .none kV_TooGreat_init dc_TooGreat_init pm_TooGreat_init an_TooGreat_init cd_TooGreat_init ct_TooGreat_init), sl_TooGreat_init⟩)
    (e_TooGreat_init : PySem.W.codeIn K cd_TooGreat_init "TooGreat.__init__" = true)
    (k_TooGreat_init : PySem.W.keepIn K (.ref f_TooGreat_init) = true)
    (xkp2_2 : PySem.W.subIn K (.ref C_TooGreat) (.ref C_TooGreat) = some true)
    (xkp2_3 : PySem.W.subIn K (.ref C_TooGreat) (.ref C_NoRoom) = some false)
    (xkp2_4 : PySem.W.subIn K (.ref C_TooGreat) (.ref C_NoWord) = some false)
    (xkp2_5 : PySem.W.subIn K (.ref C_TooGreat) (.ref C_NoSight) = some false)
    (xkp2_6 : PySem.W.subIn K (.ref C_TooGreat) (.ref C_SightError) = some true)
    (xkp3_2 : PySem.W.subIn K (.ref C_NoRoom) (.ref C_TooGreat) = some false)
    (xkp3_3 : PySem.W.subIn K (.ref C_NoRoom) (.ref C_NoRoom) = some true)
    (xkp3_4 : PySem.W.subIn K (.ref C_NoRoom) (.ref C_NoWord) = some false)
    (xkp3_5 : PySem.W.subIn K (.ref C_NoRoom) (.ref C_NoSight) = some false)
    (xkp3_6 : PySem.W.subIn K (.ref C_NoRoom) (.ref C_SightError) = some true)
    (xkp4_2 : PySem.W.subIn K (.ref C_NoWord) (.ref C_TooGreat) = some false)
    (xkp4_3 : PySem.W.subIn K (.ref C_NoWord) (.ref C_NoRoom) = some false)
    (xkp4_4 : PySem.W.subIn K (.ref C_NoWord) (.ref C_NoWord) = some true)
    (xkp4_5 : PySem.W.subIn K (.ref C_NoWord) (.ref C_NoSight) = some false)
    (xkp4_6 : PySem.W.subIn K (.ref C_NoWord) (.ref C_SightError) = some true)
    (xkp5_2 : PySem.W.subIn K (.ref C_NoSight) (.ref C_TooGreat) = some false)
    (xkp5_3 : PySem.W.subIn K (.ref C_NoSight) (.ref C_NoRoom) = some false)
    (xkp5_4 : PySem.W.subIn K (.ref C_NoSight) (.ref C_NoWord) = some false)
    (xkp5_5 : PySem.W.subIn K (.ref C_NoSight) (.ref C_NoSight) = some true)
    (xkp5_6 : PySem.W.subIn K (.ref C_NoSight) (.ref C_SightError) = some true)
    (xkp6_2 : PySem.W.subIn K (.ref C_SightError) (.ref C_TooGreat) = some false)
    (xkp6_3 : PySem.W.subIn K (.ref C_SightError) (.ref C_NoRoom) = some false)
    (xkp6_4 : PySem.W.subIn K (.ref C_SightError) (.ref C_NoWord) = some false)
    (xkp6_5 : PySem.W.subIn K (.ref C_SightError) (.ref C_NoSight) = some false)
    (a_law_cell : PySem.W.nsIn K mainGlobals "_law_cell" = some (some (.ref f_law_cell)))
    (l_law_cell : K.lookup f_law_cell = some ⟨oc_law_cell, od_law_cell, .func (PySem.W.fnOf "_law_cell" "_law_cell" (defArgs s_law_cell) (defBody s_law_cell) (defScope s_law_cell) .none kV_law_cell dc_law_cell pm_law_cell an_law_cell cd_law_cell ct_law_cell), sl_law_cell⟩)
    (e_law_cell : PySem.W.codeIn K cd_law_cell "_law_cell" = true)
    (k_law_cell : PySem.W.keepIn K (.ref f_law_cell) = true)
    (a_law_signs : PySem.W.nsIn K mainGlobals "_law_signs" = some (some (.ref f_law_signs)))
    (l_law_signs : K.lookup f_law_signs = some ⟨oc_law_signs, od_law_signs, .func (PySem.W.fnOf "_law_signs" "_law_signs" (defArgs s_law_signs) (defBody s_law_signs) (defScope s_law_signs) .none kV_law_signs dc_law_signs pm_law_signs an_law_signs cd_law_signs ct_law_signs), sl_law_signs⟩)
    (e_law_signs : PySem.W.codeIn K cd_law_signs "_law_signs" = true)
    (k_law_signs : PySem.W.keepIn K (.ref f_law_signs) = true)
    (a_law_rooms : PySem.W.nsIn K mainGlobals "_law_rooms" = some (some (.ref f_law_rooms)))
    (l_law_rooms : K.lookup f_law_rooms = some ⟨oc_law_rooms, od_law_rooms, .func (PySem.W.fnOf "_law_rooms" "_law_rooms" (defArgs s_law_rooms) (defBody s_law_rooms) (defScope s_law_rooms) .none kV_law_rooms dc_law_rooms pm_law_rooms an_law_rooms cd_law_rooms ct_law_rooms), sl_law_rooms⟩)
    (e_law_rooms : PySem.W.codeIn K cd_law_rooms "_law_rooms" = true)
    (k_law_rooms : PySem.W.keepIn K (.ref f_law_rooms) = true)
    (a_law_moves : PySem.W.nsIn K mainGlobals "_law_moves" = some (some (.ref f_law_moves)))
    (l_law_moves : K.lookup f_law_moves = some ⟨oc_law_moves, od_law_moves, .func (PySem.W.fnOf "_law_moves" "_law_moves" (defArgs s_law_moves) (defBody s_law_moves) (defScope s_law_moves) .none kV_law_moves dc_law_moves pm_law_moves an_law_moves cd_law_moves ct_law_moves), sl_law_moves⟩)
    (e_law_moves : PySem.W.codeIn K cd_law_moves "_law_moves" = true)
    (k_law_moves : PySem.W.keepIn K (.ref f_law_moves) = true)
    (a_law_words : PySem.W.nsIn K mainGlobals "_law_words" = some (some (.ref f_law_words)))
    (l_law_words : K.lookup f_law_words = some ⟨oc_law_words, od_law_words, .func (PySem.W.fnOf "_law_words" "_law_words" (defArgs s_law_words) (defBody s_law_words) (defScope s_law_words) .none kV_law_words dc_law_words pm_law_words an_law_words cd_law_words ct_law_words), sl_law_words⟩)
    (e_law_words : PySem.W.codeIn K cd_law_words "_law_words" = true)
    (k_law_words : PySem.W.keepIn K (.ref f_law_words) = true)
    (a_law_deeds : PySem.W.nsIn K mainGlobals "_law_deeds" = some (some (.ref f_law_deeds)))
    (l_law_deeds : K.lookup f_law_deeds = some ⟨oc_law_deeds, od_law_deeds, .func (PySem.W.fnOf "_law_deeds" "_law_deeds" (defArgs s_law_deeds) (defBody s_law_deeds) (defScope s_law_deeds) .none kV_law_deeds dc_law_deeds pm_law_deeds an_law_deeds cd_law_deeds ct_law_deeds), sl_law_deeds⟩)
    (e_law_deeds : PySem.W.codeIn K cd_law_deeds "_law_deeds" = true)
    (k_law_deeds : PySem.W.keepIn K (.ref f_law_deeds) = true)
    (a_law_parts : PySem.W.nsIn K mainGlobals "_law_parts" = some (some (.ref f_law_parts)))
    (l_law_parts : K.lookup f_law_parts = some ⟨oc_law_parts, od_law_parts, .func (PySem.W.fnOf "_law_parts" "_law_parts" (defArgs s_law_parts) (defBody s_law_parts) (defScope s_law_parts) .none kV_law_parts dc_law_parts pm_law_parts an_law_parts cd_law_parts ct_law_parts), sl_law_parts⟩)
    (e_law_parts : PySem.W.codeIn K cd_law_parts "_law_parts" = true)
    (k_law_parts : PySem.W.keepIn K (.ref f_law_parts) = true)
    (a_must_room : PySem.W.nsIn K mainGlobals "must_room" = some (some (.ref f_must_room)))
    (l_must_room : K.lookup f_must_room = some ⟨oc_must_room, od_must_room, .func (PySem.W.fnOf "must_room" "must_room" (defArgs s_must_room) (defBody s_must_room) (defScope s_must_room) .none kV_must_room dc_must_room pm_must_room an_must_room cd_must_room ct_must_room), sl_must_room⟩)
    (e_must_room : PySem.W.codeIn K cd_must_room "must_room" = true)
    (k_must_room : PySem.W.keepIn K (.ref f_must_room) = true)
    (a_is_word : PySem.W.nsIn K mainGlobals "is_word" = some (some (.ref f_is_word)))
    (l_is_word : K.lookup f_is_word = some ⟨oc_is_word, od_is_word, .func (PySem.W.fnOf "is_word" "is_word" (defArgs s_is_word) (defBody s_is_word) (defScope s_is_word) .none kV_is_word dc_is_word pm_is_word an_is_word cd_is_word ct_is_word), sl_is_word⟩)
    (e_is_word : PySem.W.codeIn K cd_is_word "is_word" = true)
    (k_is_word : PySem.W.keepIn K (.ref f_is_word) = true)
    (a_must_word : PySem.W.nsIn K mainGlobals "must_word" = some (some (.ref f_must_word)))
    (l_must_word : K.lookup f_must_word = some ⟨oc_must_word, od_must_word, .func (PySem.W.fnOf "must_word" "must_word" (defArgs s_must_word) (defBody s_must_word) (defScope s_must_word) .none kV_must_word dc_must_word pm_must_word an_must_word cd_must_word ct_must_word), sl_must_word⟩)
    (e_must_word : PySem.W.codeIn K cd_must_word "must_word" = true)
    (k_must_word : PySem.W.keepIn K (.ref f_must_word) = true)
    (a_Machine_init : PySem.W.findIn K (.ref C_Machine) "__init__" = some (some (.ref f_Machine_init)))
    (i_Machine_init : PySem.W.isFn K (.ref f_Machine_init) = true)
    (l_Machine_init : K.lookup f_Machine_init = some ⟨oc_Machine_init, od_Machine_init, .func (PySem.W.fnOf "__init__" "Machine.__init__" (defArgs s_Machine_init) (defBody s_Machine_init) (defScope s_Machine_init) .none kV_Machine_init dc_Machine_init pm_Machine_init an_Machine_init cd_Machine_init ct_Machine_init), sl_Machine_init⟩)
    (e_Machine_init : PySem.W.codeIn K cd_Machine_init "Machine.__init__" = true)
    (k_Machine_init : PySem.W.keepIn K (.ref f_Machine_init) = true)
    (a_moves_from : PySem.W.nsIn K mainGlobals "moves_from" = some (some (.ref f_moves_from)))
    (l_moves_from : K.lookup f_moves_from = some ⟨oc_moves_from, od_moves_from, .func (PySem.W.fnOf "moves_from" "moves_from" (defArgs s_moves_from) (defBody s_moves_from) (defScope s_moves_from) .none kV_moves_from dc_moves_from pm_moves_from an_moves_from cd_moves_from ct_moves_from), sl_moves_from⟩)
    (e_moves_from : PySem.W.codeIn K cd_moves_from "moves_from" = true)
    (k_moves_from : PySem.W.keepIn K (.ref f_moves_from) = true)
    (a_Machine_sign_of : PySem.W.findIn K (.ref C_Machine) "sign_of" = some (some (.ref f_Machine_sign_of)))
    (i_Machine_sign_of : PySem.W.isFn K (.ref f_Machine_sign_of) = true)
    (l_Machine_sign_of : K.lookup f_Machine_sign_of = some ⟨oc_Machine_sign_of, od_Machine_sign_of, .func (PySem.W.fnOf "sign_of" "Machine.sign_of" (defArgs s_Machine_sign_of) (defBody s_Machine_sign_of) (defScope s_Machine_sign_of) .none kV_Machine_sign_of dc_Machine_sign_of pm_Machine_sign_of an_Machine_sign_of cd_Machine_sign_of ct_Machine_sign_of), sl_Machine_sign_of⟩)
    (e_Machine_sign_of : PySem.W.codeIn K cd_Machine_sign_of "Machine.sign_of" = true)
    (k_Machine_sign_of : PySem.W.keepIn K (.ref f_Machine_sign_of) = true)
    (a_Machine_is_fault : PySem.W.findIn K (.ref C_Machine) "is_fault" = some (some (.ref f_Machine_is_fault)))
    (i_Machine_is_fault : PySem.W.isFn K (.ref f_Machine_is_fault) = true)
    (l_Machine_is_fault : K.lookup f_Machine_is_fault = some ⟨oc_Machine_is_fault, od_Machine_is_fault, .func (PySem.W.fnOf "is_fault" "Machine.is_fault" (defArgs s_Machine_is_fault) (defBody s_Machine_is_fault) (defScope s_Machine_is_fault) .none kV_Machine_is_fault dc_Machine_is_fault pm_Machine_is_fault an_Machine_is_fault cd_Machine_is_fault ct_Machine_is_fault), sl_Machine_is_fault⟩)
    (e_Machine_is_fault : PySem.W.codeIn K cd_Machine_is_fault "Machine.is_fault" = true)
    (k_Machine_is_fault : PySem.W.keepIn K (.ref f_Machine_is_fault) = true)
    (a_spread : PySem.W.nsIn K mainGlobals "spread" = some (some (.ref f_spread)))
    (l_spread : K.lookup f_spread = some ⟨oc_spread, od_spread, .func (PySem.W.fnOf "spread" "spread" (defArgs s_spread) (defBody s_spread) (defScope s_spread) .none kV_spread dc_spread pm_spread an_spread cd_spread ct_spread), sl_spread⟩)
    (e_spread : PySem.W.codeIn K cd_spread "spread" = true)
    (k_spread : PySem.W.keepIn K (.ref f_spread) = true)
    (a_Machine_starts : PySem.W.findIn K (.ref C_Machine) "starts" = some (some (.ref f_Machine_starts)))
    (i_Machine_starts : PySem.W.isFn K (.ref f_Machine_starts) = true)
    (l_Machine_starts : K.lookup f_Machine_starts = some ⟨oc_Machine_starts, od_Machine_starts, .func (PySem.W.fnOf "starts" "Machine.starts" (defArgs s_Machine_starts) (defBody s_Machine_starts) (defScope s_Machine_starts) .none kV_Machine_starts dc_Machine_starts pm_Machine_starts an_Machine_starts cd_Machine_starts ct_Machine_starts), sl_Machine_starts⟩)
    (e_Machine_starts : PySem.W.codeIn K cd_Machine_starts "Machine.starts" = true)
    (k_Machine_starts : PySem.W.keepIn K (.ref f_Machine_starts) = true)
    (a_start_spots : PySem.W.nsIn K mainGlobals "start_spots" = some (some (.ref f_start_spots)))
    (l_start_spots : K.lookup f_start_spots = some ⟨oc_start_spots, od_start_spots, .func (PySem.W.fnOf "start_spots" "start_spots" (defArgs s_start_spots) (defBody s_start_spots) (defScope s_start_spots) .none kV_start_spots dc_start_spots pm_start_spots an_start_spots cd_start_spots ct_start_spots), sl_start_spots⟩)
    (e_start_spots : PySem.W.codeIn K cd_start_spots "start_spots" = true)
    (k_start_spots : PySem.W.keepIn K (.ref f_start_spots) = true)
    (a_begun : PySem.W.nsIn K mainGlobals "begun" = some (some (.ref f_begun)))
    (l_begun : K.lookup f_begun = some ⟨oc_begun, od_begun, .func (PySem.W.fnOf "begun" "begun" (defArgs s_begun) (defBody s_begun) (defScope s_begun) .none kV_begun dc_begun pm_begun an_begun cd_begun ct_begun), sl_begun⟩)
    (e_begun : PySem.W.codeIn K cd_begun "begun" = true)
    (k_begun : PySem.W.keepIn K (.ref f_begun) = true)
    (a_Watcher_init : PySem.W.findIn K (.ref C_Watcher) "__init__" = some (some (.ref f_Watcher_init)))
    (i_Watcher_init : PySem.W.isFn K (.ref f_Watcher_init) = true)
    (l_Watcher_init : K.lookup f_Watcher_init = some ⟨oc_Watcher_init, od_Watcher_init, .func (PySem.W.fnOf "__init__" "Watcher.__init__" (defArgs s_Watcher_init) (defBody s_Watcher_init) (defScope s_Watcher_init) .none kV_Watcher_init dc_Watcher_init pm_Watcher_init an_Watcher_init cd_Watcher_init ct_Watcher_init), sl_Watcher_init⟩)
    (e_Watcher_init : PySem.W.codeIn K cd_Watcher_init "Watcher.__init__" = true)
    (k_Watcher_init : PySem.W.keepIn K (.ref f_Watcher_init) = true)
    (a_law_refused : PySem.W.nsIn K mainGlobals "_law_refused" = some (some (.ref f_law_refused)))
    (l_law_refused : K.lookup f_law_refused = some ⟨oc_law_refused, od_law_refused, .func (PySem.W.fnOf "_law_refused" "_law_refused" (defArgs s_law_refused) (defBody s_law_refused) (defScope s_law_refused) .none kV_law_refused dc_law_refused pm_law_refused an_law_refused cd_law_refused ct_law_refused), sl_law_refused⟩)
    (e_law_refused : PySem.W.codeIn K cd_law_refused "_law_refused" = true)
    (k_law_refused : PySem.W.keepIn K (.ref f_law_refused) = true)
    (a_verdict_of : PySem.W.nsIn K mainGlobals "verdict_of" = some (some (.ref f_verdict_of)))
    (l_verdict_of : K.lookup f_verdict_of = some ⟨oc_verdict_of, od_verdict_of, .func (PySem.W.fnOf "verdict_of" "verdict_of" (defArgs s_verdict_of) (defBody s_verdict_of) (defScope s_verdict_of) .none kV_verdict_of dc_verdict_of pm_verdict_of an_verdict_of cd_verdict_of ct_verdict_of), sl_verdict_of⟩)
    (e_verdict_of : PySem.W.codeIn K cd_verdict_of "verdict_of" = true)
    (k_verdict_of : PySem.W.keepIn K (.ref f_verdict_of) = true)
    (a_Watcher_verdict : PySem.W.findIn K (.ref C_Watcher) "verdict" = some (some (.ref f_Watcher_verdict)))
    (i_Watcher_verdict : PySem.W.isFn K (.ref f_Watcher_verdict) = true)
    (l_Watcher_verdict : K.lookup f_Watcher_verdict = some ⟨oc_Watcher_verdict, od_Watcher_verdict, .func (PySem.W.fnOf "verdict" "Watcher.verdict" (defArgs s_Watcher_verdict) (defBody s_Watcher_verdict) (defScope s_Watcher_verdict) .none kV_Watcher_verdict dc_Watcher_verdict pm_Watcher_verdict an_Watcher_verdict cd_Watcher_verdict ct_Watcher_verdict), sl_Watcher_verdict⟩)
    (e_Watcher_verdict : PySem.W.codeIn K cd_Watcher_verdict "Watcher.verdict" = true)
    (k_Watcher_verdict : PySem.W.keepIn K (.ref f_Watcher_verdict) = true)
    (a_seen : PySem.W.nsIn K mainGlobals "seen" = some (some (.ref f_seen)))
    (l_seen : K.lookup f_seen = some ⟨oc_seen, od_seen, .func (PySem.W.fnOf "seen" "seen" (defArgs s_seen) (defBody s_seen) (defScope s_seen) .none kV_seen dc_seen pm_seen an_seen cd_seen ct_seen), sl_seen⟩)
    (e_seen : PySem.W.codeIn K cd_seen "seen" = true)
    (k_seen : PySem.W.keepIn K (.ref f_seen) = true)
    (a_spots_behind : PySem.W.nsIn K mainGlobals "spots_behind" = some (some (.ref f_spots_behind)))
    (l_spots_behind : K.lookup f_spots_behind = some ⟨oc_spots_behind, od_spots_behind, .func (PySem.W.fnOf "spots_behind" "spots_behind" (defArgs s_spots_behind) (defBody s_spots_behind) (defScope s_spots_behind) .none kV_spots_behind dc_spots_behind pm_spots_behind an_spots_behind cd_spots_behind ct_spots_behind), sl_spots_behind⟩)
    (e_spots_behind : PySem.W.codeIn K cd_spots_behind "spots_behind" = true)
    (k_spots_behind : PySem.W.keepIn K (.ref f_spots_behind) = true)
    (a_verdict : PySem.W.nsIn K mainGlobals "verdict" = some (some (.ref f_verdict)))
    (l_verdict : K.lookup f_verdict = some ⟨oc_verdict, od_verdict, .func (PySem.W.fnOf "verdict" "verdict" (defArgs s_verdict) (defBody s_verdict) (defScope s_verdict) .none kV_verdict dc_verdict pm_verdict an_verdict cd_verdict ct_verdict), sl_verdict⟩)
    (e_verdict : PySem.W.codeIn K cd_verdict "verdict" = true)
    (k_verdict : PySem.W.keepIn K (.ref f_verdict) = true)
    (a_rooms_in : PySem.W.nsIn K mainGlobals "rooms_in" = some (some (.ref f_rooms_in)))
    (l_rooms_in : K.lookup f_rooms_in = some ⟨oc_rooms_in, od_rooms_in, .func (PySem.W.fnOf "rooms_in" "rooms_in" (defArgs s_rooms_in) (defBody s_rooms_in) (defScope s_rooms_in) .none kV_rooms_in dc_rooms_in pm_rooms_in an_rooms_in cd_rooms_in ct_rooms_in), sl_rooms_in⟩)
    (e_rooms_in : PySem.W.codeIn K cd_rooms_in "rooms_in" = true)
    (k_rooms_in : PySem.W.keepIn K (.ref f_rooms_in) = true)
    (a_possible : PySem.W.nsIn K mainGlobals "possible" = some (some (.ref f_possible)))
    (l_possible : K.lookup f_possible = some ⟨oc_possible, od_possible, .func (PySem.W.fnOf "possible" "possible" (defArgs s_possible) (defBody s_possible) (defScope s_possible) .none kV_possible dc_possible pm_possible an_possible cd_possible ct_possible), sl_possible⟩)
    (e_possible : PySem.W.codeIn K cd_possible "possible" = true)
    (k_possible : PySem.W.keepIn K (.ref f_possible) = true)
    (a_Watcher_see : PySem.W.findIn K (.ref C_Watcher) "see" = some (some (.ref f_Watcher_see)))
    (i_Watcher_see : PySem.W.isFn K (.ref f_Watcher_see) = true)
    (l_Watcher_see : K.lookup f_Watcher_see = some ⟨oc_Watcher_see, od_Watcher_see, .func (PySem.W.fnOf "see" "Watcher.see" (defArgs s_Watcher_see) (defBody s_Watcher_see) (defScope s_Watcher_see) .none kV_Watcher_see dc_Watcher_see pm_Watcher_see an_Watcher_see cd_Watcher_see ct_Watcher_see), sl_Watcher_see⟩)
    (e_Watcher_see : PySem.W.codeIn K cd_Watcher_see "Watcher.see" = true)
    (k_Watcher_see : PySem.W.keepIn K (.ref f_Watcher_see) = true)
    (a_law_caught : PySem.W.nsIn K mainGlobals "_law_caught" = some (some (.ref f_law_caught)))
    (l_law_caught : K.lookup f_law_caught = some ⟨oc_law_caught, od_law_caught, .func (PySem.W.fnOf "_law_caught" "_law_caught" (defArgs s_law_caught) (defBody s_law_caught) (defScope s_law_caught) .none kV_law_caught dc_law_caught pm_law_caught an_law_caught cd_law_caught ct_law_caught), sl_law_caught⟩)
    (e_law_caught : PySem.W.codeIn K cd_law_caught "_law_caught" = true)
    (k_law_caught : PySem.W.keepIn K (.ref f_law_caught) = true)
    (a_Watcher_sights : PySem.W.findIn K (.ref C_Watcher) "sights" = some (some (.ref f_Watcher_sights)))
    (i_Watcher_sights : PySem.W.isFn K (.ref f_Watcher_sights) = true)
    (l_Watcher_sights : K.lookup f_Watcher_sights = some ⟨oc_Watcher_sights, od_Watcher_sights, .func (PySem.W.fnOf "sights" "Watcher.sights" (defArgs s_Watcher_sights) (defBody s_Watcher_sights) (defScope s_Watcher_sights) .none kV_Watcher_sights dc_Watcher_sights pm_Watcher_sights an_Watcher_sights cd_Watcher_sights ct_Watcher_sights), sl_Watcher_sights⟩)
    (e_Watcher_sights : PySem.W.codeIn K cd_Watcher_sights "Watcher.sights" = true)
    (k_Watcher_sights : PySem.W.keepIn K (.ref f_Watcher_sights) = true)
    (a_Watcher_rooms : PySem.W.findIn K (.ref C_Watcher) "rooms" = some (some (.ref f_Watcher_rooms)))
    (i_Watcher_rooms : PySem.W.isFn K (.ref f_Watcher_rooms) = true)
    (l_Watcher_rooms : K.lookup f_Watcher_rooms = some ⟨oc_Watcher_rooms, od_Watcher_rooms, .func (PySem.W.fnOf "rooms" "Watcher.rooms" (defArgs s_Watcher_rooms) (defBody s_Watcher_rooms) (defScope s_Watcher_rooms) .none kV_Watcher_rooms dc_Watcher_rooms pm_Watcher_rooms an_Watcher_rooms cd_Watcher_rooms ct_Watcher_rooms), sl_Watcher_rooms⟩)
    (e_Watcher_rooms : PySem.W.codeIn K cd_Watcher_rooms "Watcher.rooms" = true)
    (k_Watcher_rooms : PySem.W.keepIn K (.ref f_Watcher_rooms) = true)
    (a_law_tried : PySem.W.nsIn K mainGlobals "_law_tried" = some (some (.ref f_law_tried)))
    (l_law_tried : K.lookup f_law_tried = some ⟨oc_law_tried, od_law_tried, .func (PySem.W.fnOf "_law_tried" "_law_tried" (defArgs s_law_tried) (defBody s_law_tried) (defScope s_law_tried) .none kV_law_tried dc_law_tried pm_law_tried an_law_tried cd_law_tried ct_law_tried), sl_law_tried⟩)
    (e_law_tried : PySem.W.codeIn K cd_law_tried "_law_tried" = true)
    (k_law_tried : PySem.W.keepIn K (.ref f_law_tried) = true)
    (a_law : PySem.W.nsIn K mainGlobals "law" = some (some (.ref f_law)))
    (l_law : K.lookup f_law = some ⟨oc_law, od_law, .func (PySem.W.fnOf "law" "law" (defArgs s_law) (defBody s_law) (defScope s_law) .none kV_law dc_law pm_law an_law cd_law ct_law), sl_law⟩)
    (e_law : PySem.W.codeIn K cd_law "law" = true)
    (k_law : PySem.W.keepIn K (.ref f_law) = true)
    (z_len : PySem.W.nsIn K mainGlobals "len" = some none)
    (z_all : PySem.W.nsIn K mainGlobals "all" = some none)
    (z_list : PySem.W.nsIn K mainGlobals "list" = some none)
    (z_dict : PySem.W.nsIn K mainGlobals "dict" = some none)
    (z_sorted : PySem.W.nsIn K mainGlobals "sorted" = some none)
    (z_set : PySem.W.nsIn K mainGlobals "set" = some none)
    (z_range : PySem.W.nsIn K mainGlobals "range" = some none)
    (z_isinstance : PySem.W.nsIn K mainGlobals "isinstance" = some none)
    (z_ValueError : PySem.W.nsIn K mainGlobals "ValueError" = some none)
    (x_LETTERS : PySem.W.nsIn K mainGlobals "LETTERS" = some (some (.str ("abcdefghijklmnopqrstuvwxyz" : Str) t_LETTERS)))
    (x_MOST_ROOMS : PySem.W.nsIn K mainGlobals "MOST_ROOMS" = some (some (.int 8 t_MOST_ROOMS)))
    (x_MOST_MOVES : PySem.W.nsIn K mainGlobals "MOST_MOVES" = some (some (.int 24 t_MOST_MOVES)))
    (x_MOST_SIGHTS : PySem.W.nsIn K mainGlobals "MOST_SIGHTS" = some (some (.int 40 t_MOST_SIGHTS))) :
    ∃ fd : FuncData, (∀ (s : Shared) (v : Value), BindsTo s fd ⟨[v], []⟩ [("_law_script", v)]) ∧ ∀ base : Heap, K.In base → base.Ns mainGlobals mg → FnOk l.prog w K mg base CX0 7 fa fd ["_law_script"] (spLaw K) := by
  have e := hfa.symm.trans (PySem.W.mg_of X G a_law)
  cases e
  let ct : Nat → Addr × List Str := fun c => if c = 0 then (C_Machine, ["size", "begun", "known", "leading", "seen", "wrong"]) else if c = 1 then (C_Watcher, ["machine", "past", "spots"]) else if c = 2 then (C_TooGreat, ["most", "number"]) else if c = 3 then (C_NoRoom, ["room"]) else if c = 4 then (C_NoWord, ["word"]) else if c = 5 then (C_NoSight, ["sign"]) else if c = 6 then (C_SightError, []) else (0, [])
  have cD0 : ClsD K ct 0 := by
    refine ⟨⟨q0_pg, q0_hd, q0_po, q0_sa⟩, ?_, by show (["size", "begun", "known", "leading", "seen", "wrong"] : List Str).Nodup; decide +kernel, by show 6 < 1000; decide⟩
    intro f hf
    have hf' : f ∈ (["size", "begun", "known", "leading", "seen", "wrong"] : List Str) := hf
    simp only [List.mem_cons, List.not_mem_nil, or_false] at hf'
    rcases hf' with h | h | h | h | h | h
    · rw [h]; exact q0_n0
    · rw [h]; exact q0_n1
    · rw [h]; exact q0_n2
    · rw [h]; exact q0_n3
    · rw [h]; exact q0_n4
    · rw [h]; exact q0_n5
  have cD1 : ClsD K ct 1 := by
    refine ⟨⟨q1_pg, q1_hd, q1_po, q1_sa⟩, ?_, by show (["machine", "past", "spots"] : List Str).Nodup; decide +kernel, by show 3 < 1000; decide⟩
    intro f hf
    have hf' : f ∈ (["machine", "past", "spots"] : List Str) := hf
    simp only [List.mem_cons, List.not_mem_nil, or_false] at hf'
    rcases hf' with h | h | h
    · rw [h]; exact q1_n0
    · rw [h]; exact q1_n1
    · rw [h]; exact q1_n2
  have kt2 : KitE K C_TooGreat := kitE_of xhd2 xga2 xgg2 xex2 xcc2 xsp xtk xmo2
  have kt3 : KitE K C_NoRoom := kitE_of xhd3 xga3 xgg3 xex3 xcc3 xsp xtk xmo3
  have kt4 : KitE K C_NoWord := kitE_of xhd4 xga4 xgg4 xex4 xcc4 xsp xtk xmo4
  have kt5 : KitE K C_NoSight := kitE_of xhd5 xga5 xgg5 xex5 xcc5 xsp xtk xmo5
  have kt6 : KitE K C_SightError := kitE_of xhd6 xga6 xgg6 xex6 xcc6 xsp xtk xmo6
  have eD2 : ExD K ct 2 := by
    refine ⟨⟨⟨_, _, _, _, _, _, _, _, _, _, _, _, _, _, _, xl2, (show PySem.HandSPX.refsVE PySem.HandSPX.veTail = true from by decide +kernel)⟩, xsa2, xex2, xty2, xkc2⟩, ⟨xga2, xgg2, xex2, xhd2⟩, kt2, ?_, by show (["most", "number"] : List Str).Nodup; decide +kernel⟩
    intro f hf
    have hf' : f ∈ (["most", "number"] : List Str) := hf
    simp only [List.mem_cons, List.not_mem_nil, or_false] at hf'
    rcases hf' with rfl | rfl
    · exact xno2_0
    · exact xno2_1
  have eD3 : ExD K ct 3 := by
    refine ⟨⟨⟨_, _, _, _, _, _, _, _, _, _, _, _, _, _, _, xl3, (show PySem.HandSPX.refsVE PySem.HandSPX.veTail = true from by decide +kernel)⟩, xsa3, xex3, xty3, xkc3⟩, ⟨xga3, xgg3, xex3, xhd3⟩, kt3, ?_, by show (["room"] : List Str).Nodup; decide +kernel⟩
    intro f hf
    have hf' : f ∈ (["room"] : List Str) := hf
    simp only [List.mem_cons, List.not_mem_nil, or_false] at hf'
    rcases hf' with rfl
    · exact xno3_0
  have eD4 : ExD K ct 4 := by
    refine ⟨⟨⟨_, _, _, _, _, _, _, _, _, _, _, _, _, _, _, xl4, (show PySem.HandSPX.refsVE PySem.HandSPX.veTail = true from by decide +kernel)⟩, xsa4, xex4, xty4, xkc4⟩, ⟨xga4, xgg4, xex4, xhd4⟩, kt4, ?_, by show (["word"] : List Str).Nodup; decide +kernel⟩
    intro f hf
    have hf' : f ∈ (["word"] : List Str) := hf
    simp only [List.mem_cons, List.not_mem_nil, or_false] at hf'
    rcases hf' with rfl
    · exact xno4_0
  have eD5 : ExD K ct 5 := by
    refine ⟨⟨⟨_, _, _, _, _, _, _, _, _, _, _, _, _, _, _, xl5, (show PySem.HandSPX.refsVE PySem.HandSPX.veTail = true from by decide +kernel)⟩, xsa5, xex5, xty5, xkc5⟩, ⟨xga5, xgg5, xex5, xhd5⟩, kt5, ?_, by show (["sign"] : List Str).Nodup; decide +kernel⟩
    intro f hf
    have hf' : f ∈ (["sign"] : List Str) := hf
    simp only [List.mem_cons, List.not_mem_nil, or_false] at hf'
    rcases hf' with rfl
    · exact xno5_0
  have ktA : ∀ c ∈ ([2, 3, 4, 5, 6] : List Nat), KitE K (ct c).1 := by
    intro c hc
    simp only [List.mem_cons, List.not_mem_nil, or_false] at hc
    rcases hc with rfl | rfl | rfl | rfl | rfl
    · exact kt2
    · exact kt3
    · exact kt4
    · exact kt5
    · exact kt6
  have iA2 : IsA K ct [2, 3, 4, 5, 6] [2] (.ref (ct 2).1) := by
    refine ⟨ktA, fun c hc => ?_⟩
    simp only [List.mem_cons, List.not_mem_nil, or_false] at hc
    rcases hc with rfl | rfl | rfl | rfl | rfl
    · exact kit_ref xhd2 xty2 xkp2_2 xkp2_2
    · exact kit_ref xhd2 xty2 xkp2_2 xkp3_2
    · exact kit_ref xhd2 xty2 xkp2_2 xkp4_2
    · exact kit_ref xhd2 xty2 xkp2_2 xkp5_2
    · exact kit_ref xhd2 xty2 xkp2_2 xkp6_2
  have iA3 : IsA K ct [2, 3, 4, 5, 6] [3] (.ref (ct 3).1) := by
    refine ⟨ktA, fun c hc => ?_⟩
    simp only [List.mem_cons, List.not_mem_nil, or_false] at hc
    rcases hc with rfl | rfl | rfl | rfl | rfl
    · exact kit_ref xhd3 xty3 xkp3_3 xkp2_3
    · exact kit_ref xhd3 xty3 xkp3_3 xkp3_3
    · exact kit_ref xhd3 xty3 xkp3_3 xkp4_3
    · exact kit_ref xhd3 xty3 xkp3_3 xkp5_3
    · exact kit_ref xhd3 xty3 xkp3_3 xkp6_3
  have iA4 : IsA K ct [2, 3, 4, 5, 6] [4] (.ref (ct 4).1) := by
    refine ⟨ktA, fun c hc => ?_⟩
    simp only [List.mem_cons, List.not_mem_nil, or_false] at hc
    rcases hc with rfl | rfl | rfl | rfl | rfl
    · exact kit_ref xhd4 xty4 xkp4_4 xkp2_4
    · exact kit_ref xhd4 xty4 xkp4_4 xkp3_4
    · exact kit_ref xhd4 xty4 xkp4_4 xkp4_4
    · exact kit_ref xhd4 xty4 xkp4_4 xkp5_4
    · exact kit_ref xhd4 xty4 xkp4_4 xkp6_4
  have iA5 : IsA K ct [2, 3, 4, 5, 6] [5] (.ref (ct 5).1) := by
    refine ⟨ktA, fun c hc => ?_⟩
    simp only [List.mem_cons, List.not_mem_nil, or_false] at hc
    rcases hc with rfl | rfl | rfl | rfl | rfl
    · exact kit_ref xhd5 xty5 xkp5_5 xkp2_5
    · exact kit_ref xhd5 xty5 xkp5_5 xkp3_5
    · exact kit_ref xhd5 xty5 xkp5_5 xkp4_5
    · exact kit_ref xhd5 xty5 xkp5_5 xkp5_5
    · exact kit_ref xhd5 xty5 xkp5_5 xkp6_5
  have iAV : IsA K ct [2, 3, 4, 5, 6] [2, 3, 4, 5, 6] (.type "ValueError") := by
    refine ⟨ktA, fun c hc => ?_⟩
    simp only [List.mem_cons, List.not_mem_nil, or_false] at hc
    rcases hc with rfl | rfl | rfl | rfl | rfl
    · exact kit_ve xkv2
    · exact kit_ve xkv3
    · exact kit_ve xkv4
    · exact kit_ve xkv5
    · exact kit_ve xkv6
  have T : Txt K mg ct := ⟨PySem.W.mg_none_of X G z_len, PySem.W.mg_none_of X G z_all, PySem.W.mg_none_of X G z_list, PySem.W.mg_none_of X G z_dict, PySem.W.mg_none_of X G z_sorted, PySem.W.mg_none_of X G z_set, PySem.W.mg_none_of X G z_range, PySem.W.mg_none_of X G z_isinstance, PySem.W.mg_none_of X G z_ValueError, ⟨_, PySem.W.mg_of X G x_LETTERS⟩, ⟨_, PySem.W.mg_of X G x_MOST_ROOMS⟩, ⟨_, PySem.W.mg_of X G x_MOST_MOVES⟩, ⟨_, PySem.W.mg_of X G x_MOST_SIGHTS⟩, cD0, rfl, rfl, rfl, rfl, rfl, rfl, cD1, rfl, rfl, rfl, eD2, PySem.W.mg_of X G xa2, rfl, rfl, iA2, eD3, PySem.W.mg_of X G xa3, rfl, iA3, eD4, PySem.W.mg_of X G xa4, rfl, iA4, eD5, PySem.W.mg_of X G xa5, rfl, iA5, PySem.W.mg_of X G xa6, iAV, xx6, xk6, by intro c hc; simp only [List.mem_cons, List.not_mem_nil, or_false] at hc; rcases hc with rfl | rfl | rfl | rfl; exact exm_ref2 xex6 xhd6 xty6 xkp2_6; exact exm_ref2 xex6 xhd6 xty6 xkp3_6; exact exm_ref2 xex6 xhd6 xty6 xkp4_6; exact exm_ref2 xex6 xhd6 xty6 xkp5_6, by intro c hc; simp only [List.mem_cons, List.not_mem_nil, or_false] at hc; rcases hc with rfl; exact exm_ref2 xex5 xhd5 xty5 xkp5_5⟩
  have F_TooGreat_init := fun_mk (st := s_TooGreat_init) l_TooGreat_init e_TooGreat_init k_TooGreat_init
  have b_TooGreat_init := F_TooGreat_init.binds (ps := P_TooGreat_init) fun _ _ _ _ _ _ us hl => match us, hl with | [_, _, _], _ => rfl
  have c_TooGreat : ∀ base, CalE l.prog w K mg base ct 2 "TooGreat" 1 2 := fun base => ⟨⟨_, _, _, ini2 F_TooGreat_init sc_TooGreat_init eD2.ox xno2_1 xno2_0 rfl, a_TooGreat_init, t_TooGreat_init, PySem.W.mg_of X G xa2, b_TooGreat_init⟩, rfl⟩
  have F_NoRoom_init := fun_mk (st := s_NoRoom_init) l_NoRoom_init e_NoRoom_init k_NoRoom_init
  have b_NoRoom_init := F_NoRoom_init.binds (ps := P_NoRoom_init) fun _ _ _ _ _ _ us hl => match us, hl with | [_, _], _ => rfl
  have c_NoRoom : ∀ base, CalE l.prog w K mg base ct 3 "NoRoom" 1 1 := fun base => ⟨⟨_, _, _, ini1 F_NoRoom_init sc_NoRoom_init eD3.ox xno3_0 rfl, a_NoRoom_init, t_NoRoom_init, PySem.W.mg_of X G xa3, b_NoRoom_init⟩, rfl⟩
  have F_NoWord_init := fun_mk (st := s_NoWord_init) l_NoWord_init e_NoWord_init k_NoWord_init
  have b_NoWord_init := F_NoWord_init.binds (ps := P_NoWord_init) fun _ _ _ _ _ _ us hl => match us, hl with | [_, _], _ => rfl
  have c_NoWord : ∀ base, CalE l.prog w K mg base ct 4 "NoWord" 1 1 := fun base => ⟨⟨_, _, _, ini1 F_NoWord_init sc_NoWord_init eD4.ox xno4_0 rfl, a_NoWord_init, t_NoWord_init, PySem.W.mg_of X G xa4, b_NoWord_init⟩, rfl⟩
  have F_NoSight_init := fun_mk (st := s_NoSight_init) l_NoSight_init e_NoSight_init k_NoSight_init
  have b_NoSight_init := F_NoSight_init.binds (ps := P_NoSight_init) fun _ _ _ _ _ _ us hl => match us, hl with | [_, _], _ => rfl
  have c_NoSight : ∀ base, CalE l.prog w K mg base ct 5 "NoSight" 1 1 := fun base => ⟨⟨_, _, _, ini1 F_NoSight_init sc_NoSight_init eD5.ox xno5_0 rfl, a_NoSight_init, t_NoSight_init, PySem.W.mg_of X G xa5, b_NoSight_init⟩, rfl⟩
  have F_law_cell := fun_mk (st := s_law_cell) l_law_cell e_law_cell k_law_cell
  have b_law_cell := F_law_cell.binds (ps := P_law_cell) fun _ _ _ _ _ _ us hl => match us, hl with | [_, _], _ => rfl
  have F_law_signs := fun_mk (st := s_law_signs) l_law_signs e_law_signs k_law_signs
  have b_law_signs := F_law_signs.binds (ps := P_law_signs) fun _ _ _ _ _ _ us hl => match us, hl with | [_, _, _], _ => rfl
  have F_law_rooms := fun_mk (st := s_law_rooms) l_law_rooms e_law_rooms k_law_rooms
  have b_law_rooms := F_law_rooms.binds (ps := P_law_rooms) fun _ _ _ _ _ _ us hl => match us, hl with | [_, _], _ => rfl
  have F_law_moves := fun_mk (st := s_law_moves) l_law_moves e_law_moves k_law_moves
  have b_law_moves := F_law_moves.binds (ps := P_law_moves) fun _ _ _ _ _ _ us hl => match us, hl with | [_, _, _], _ => rfl
  have F_law_words := fun_mk (st := s_law_words) l_law_words e_law_words k_law_words
  have b_law_words := F_law_words.binds (ps := P_law_words) fun _ _ _ _ _ _ us hl => match us, hl with | [_], _ => rfl
  have F_law_deeds := fun_mk (st := s_law_deeds) l_law_deeds e_law_deeds k_law_deeds
  have b_law_deeds := F_law_deeds.binds (ps := P_law_deeds) fun _ _ _ _ _ _ us hl => match us, hl with | [_], _ => rfl
  have F_law_parts := fun_mk (st := s_law_parts) l_law_parts e_law_parts k_law_parts
  have b_law_parts := F_law_parts.binds (ps := P_law_parts) fun _ _ _ _ _ _ us hl => match us, hl with | [_, _, _], _ => rfl
  have F_must_room := fun_mk (st := s_must_room) l_must_room e_must_room k_must_room
  have b_must_room := F_must_room.binds (ps := P_must_room) fun _ _ _ _ _ _ us hl => match us, hl with | [_, _], _ => rfl
  have F_is_word := fun_mk (st := s_is_word) l_is_word e_is_word k_is_word
  have b_is_word := F_is_word.binds (ps := P_is_word) fun _ _ _ _ _ _ us hl => match us, hl with | [_], _ => rfl
  have F_must_word := fun_mk (st := s_must_word) l_must_word e_must_word k_must_word
  have b_must_word := F_must_word.binds (ps := P_must_word) fun _ _ _ _ _ _ us hl => match us, hl with | [_], _ => rfl
  have F_Machine_init := fun_mk (st := s_Machine_init) l_Machine_init e_Machine_init k_Machine_init
  have b_Machine_init := F_Machine_init.binds (ps := P_Machine_init) fun _ _ _ _ _ _ us hl => match us, hl with | [_, _, _, _, _, _], _ => rfl
  have F_moves_from := fun_mk (st := s_moves_from) l_moves_from e_moves_from k_moves_from
  have b_moves_from := F_moves_from.binds (ps := P_moves_from) fun _ _ _ _ _ _ us hl => match us, hl with | [_, _], _ => rfl
  have F_Machine_sign_of := fun_mk (st := s_Machine_sign_of) l_Machine_sign_of e_Machine_sign_of k_Machine_sign_of
  have b_Machine_sign_of := F_Machine_sign_of.binds (ps := P_Machine_sign_of) fun _ _ _ _ _ _ us hl => match us, hl with | [_, _], _ => rfl
  have F_Machine_is_fault := fun_mk (st := s_Machine_is_fault) l_Machine_is_fault e_Machine_is_fault k_Machine_is_fault
  have b_Machine_is_fault := F_Machine_is_fault.binds (ps := P_Machine_is_fault) fun _ _ _ _ _ _ us hl => match us, hl with | [_, _], _ => rfl
  have F_spread := fun_mk (st := s_spread) l_spread e_spread k_spread
  have b_spread := F_spread.binds (ps := P_spread) fun _ _ _ _ _ _ us hl => match us, hl with | [_, _], _ => rfl
  have F_Machine_starts := fun_mk (st := s_Machine_starts) l_Machine_starts e_Machine_starts k_Machine_starts
  have b_Machine_starts := F_Machine_starts.binds (ps := P_Machine_starts) fun _ _ _ _ _ _ us hl => match us, hl with | [_], _ => rfl
  have F_start_spots := fun_mk (st := s_start_spots) l_start_spots e_start_spots k_start_spots
  have b_start_spots := F_start_spots.binds (ps := P_start_spots) fun _ _ _ _ _ _ us hl => match us, hl with | [_], _ => rfl
  have F_begun := fun_mk (st := s_begun) l_begun e_begun k_begun
  have b_begun := F_begun.binds (ps := P_begun) fun _ _ _ _ _ _ us hl => match us, hl with | [_], _ => rfl
  have F_Watcher_init := fun_mk (st := s_Watcher_init) l_Watcher_init e_Watcher_init k_Watcher_init
  have b_Watcher_init := F_Watcher_init.binds (ps := P_Watcher_init) fun _ _ _ _ _ _ us hl => match us, hl with | [_, _], _ => rfl
  have F_law_refused := fun_mk (st := s_law_refused) l_law_refused e_law_refused k_law_refused
  have b_law_refused := F_law_refused.binds (ps := P_law_refused) fun _ _ _ _ _ _ us hl => match us, hl with | [_, _], _ => rfl
  have F_verdict_of := fun_mk (st := s_verdict_of) l_verdict_of e_verdict_of k_verdict_of
  have b_verdict_of := F_verdict_of.binds (ps := P_verdict_of) fun _ _ _ _ _ _ us hl => match us, hl with | [_], _ => rfl
  have F_Watcher_verdict := fun_mk (st := s_Watcher_verdict) l_Watcher_verdict e_Watcher_verdict k_Watcher_verdict
  have b_Watcher_verdict := F_Watcher_verdict.binds (ps := P_Watcher_verdict) fun _ _ _ _ _ _ us hl => match us, hl with | [_], _ => rfl
  have F_seen := fun_mk (st := s_seen) l_seen e_seen k_seen
  have b_seen := F_seen.binds (ps := P_seen) fun _ _ _ _ _ _ us hl => match us, hl with | [_, _, _], _ => rfl
  have F_spots_behind := fun_mk (st := s_spots_behind) l_spots_behind e_spots_behind k_spots_behind
  have b_spots_behind := F_spots_behind.binds (ps := P_spots_behind) fun _ _ _ _ _ _ us hl => match us, hl with | [_, _], _ => rfl
  have F_verdict := fun_mk (st := s_verdict) l_verdict e_verdict k_verdict
  have b_verdict := F_verdict.binds (ps := P_verdict) fun _ _ _ _ _ _ us hl => match us, hl with | [_, _], _ => rfl
  have F_rooms_in := fun_mk (st := s_rooms_in) l_rooms_in e_rooms_in k_rooms_in
  have b_rooms_in := F_rooms_in.binds (ps := P_rooms_in) fun _ _ _ _ _ _ us hl => match us, hl with | [_], _ => rfl
  have F_possible := fun_mk (st := s_possible) l_possible e_possible k_possible
  have b_possible := F_possible.binds (ps := P_possible) fun _ _ _ _ _ _ us hl => match us, hl with | [_, _], _ => rfl
  have F_Watcher_see := fun_mk (st := s_Watcher_see) l_Watcher_see e_Watcher_see k_Watcher_see
  have b_Watcher_see := F_Watcher_see.binds (ps := P_Watcher_see) fun _ _ _ _ _ _ us hl => match us, hl with | [_, _], _ => rfl
  have F_law_caught := fun_mk (st := s_law_caught) l_law_caught e_law_caught k_law_caught
  have b_law_caught := F_law_caught.binds (ps := P_law_caught) fun _ _ _ _ _ _ us hl => match us, hl with | [_, _], _ => rfl
  have F_Watcher_sights := fun_mk (st := s_Watcher_sights) l_Watcher_sights e_Watcher_sights k_Watcher_sights
  have b_Watcher_sights := F_Watcher_sights.binds (ps := P_Watcher_sights) fun _ _ _ _ _ _ us hl => match us, hl with | [_], _ => rfl
  have F_Watcher_rooms := fun_mk (st := s_Watcher_rooms) l_Watcher_rooms e_Watcher_rooms k_Watcher_rooms
  have b_Watcher_rooms := F_Watcher_rooms.binds (ps := P_Watcher_rooms) fun _ _ _ _ _ _ us hl => match us, hl with | [_], _ => rfl
  have F_law_tried := fun_mk (st := s_law_tried) l_law_tried e_law_tried k_law_tried
  have b_law_tried := F_law_tried.binds (ps := P_law_tried) fun _ _ _ _ _ _ us hl => match us, hl with | [_, _, _, _], _ => rfl
  have F_law := fun_mk (st := s_law) l_law e_law k_law
  have b_law := F_law.binds (ps := P_law) fun _ _ _ _ _ _ us hl => match us, hl with | [_], _ => rfl
  refine ⟨PySem.W.fnOf "law" "law" (defArgs s_law) (defBody s_law) (defScope s_law) .none kV_law dc_law pm_law an_law cd_law ct_law, fun s v => .of_eq rfl, fun base _ _ => ?_⟩
  have c_law_cell : Cal l.prog w K mg base ⟨l.prog, w, K, ct⟩ "_law_cell" 1 2 Φ_law_cell := ⟨_, _, _, ok_law_cell F_law_cell T , rfl, PySem.W.mg_of X G a_law_cell, k_law_cell, b_law_cell⟩
  have c_law_signs : Cal l.prog w K mg base ⟨l.prog, w, K, ct⟩ "_law_signs" 1 3 Φ_law_signs := ⟨_, _, _, ok_law_signs F_law_signs T , rfl, PySem.W.mg_of X G a_law_signs, k_law_signs, b_law_signs⟩
  have c_law_signs_L : Cal l.prog w K mg base ⟨l.prog, w, K, ct⟩ "_law_signs" 1 3 Φ_law_signs_L := ⟨_, _, _, ok_law_signs_L F_law_signs T , rfl, PySem.W.mg_of X G a_law_signs, k_law_signs, b_law_signs⟩
  have c_law_rooms : Cal l.prog w K mg base ⟨l.prog, w, K, ct⟩ "_law_rooms" 1 2 Φ_law_rooms := ⟨_, _, _, ok_law_rooms F_law_rooms T , rfl, PySem.W.mg_of X G a_law_rooms, k_law_rooms, b_law_rooms⟩
  have c_law_moves : Cal l.prog w K mg base ⟨l.prog, w, K, ct⟩ "_law_moves" 1 3 Φ_law_moves := ⟨_, _, _, ok_law_moves F_law_moves T , rfl, PySem.W.mg_of X G a_law_moves, k_law_moves, b_law_moves⟩
  have c_law_words : Cal l.prog w K mg base ⟨l.prog, w, K, ct⟩ "_law_words" 1 1 Φ_law_words := ⟨_, _, _, ok_law_words F_law_words T , rfl, PySem.W.mg_of X G a_law_words, k_law_words, b_law_words⟩
  have c_law_deeds : Cal l.prog w K mg base ⟨l.prog, w, K, ct⟩ "_law_deeds" 2 1 Φ_law_deeds := ⟨_, _, _, ok_law_deeds F_law_deeds T c_law_words, rfl, PySem.W.mg_of X G a_law_deeds, k_law_deeds, b_law_deeds⟩
  have c_law_parts_L : Cal l.prog w K mg base ⟨l.prog, w, K, ct⟩ "_law_parts" 3 3 Φ_law_parts_L := ⟨_, _, _, ok_law_parts_L F_law_parts T c_law_cell c_law_deeds c_law_signs_L c_law_words c_law_rooms c_law_moves, rfl, PySem.W.mg_of X G a_law_parts, k_law_parts, b_law_parts⟩
  have c_must_room : Cal l.prog w K mg base ⟨l.prog, w, K, ct⟩ "must_room" 1 2 Φ_must_room := ⟨_, _, _, ok_must_room F_must_room T , rfl, PySem.W.mg_of X G a_must_room, k_must_room, b_must_room⟩
  have c_is_word : Cal l.prog w K mg base ⟨l.prog, w, K, ct⟩ "is_word" 1 1 Φ_is_word := ⟨_, _, _, ok_is_word F_is_word T , rfl, PySem.W.mg_of X G a_is_word, k_is_word, b_is_word⟩
  have c_must_word : Cal l.prog w K mg base ⟨l.prog, w, K, ct⟩ "must_word" 2 1 Φ_must_word := ⟨_, _, _, ok_must_word F_must_word T c_is_word, rfl, PySem.W.mg_of X G a_must_word, k_must_word, b_must_word⟩
  have c_Machine_init : CalK l.prog w K mg base ⟨l.prog, w, K, ct⟩ 0 "Machine" 3 6 Φ_Machine_init := ⟨_, _, _, ok_Machine_init F_Machine_init T c_must_room c_must_word, ⟨q0_mk, a_Machine_init, i_Machine_init, q0_kc⟩, PySem.W.mg_of X G q0_aC, b_Machine_init⟩
  have c_moves_from : Cal l.prog w K mg base ⟨l.prog, w, K, ct⟩ "moves_from" 1 2 Φ_moves_from := ⟨_, _, _, ok_moves_from F_moves_from T , rfl, PySem.W.mg_of X G a_moves_from, k_moves_from, b_moves_from⟩
  have c_Machine_sign_of : CalM l.prog w K mg base ⟨l.prog, w, K, ct⟩ 0 "sign_of" 1 2 Φ_Machine_sign_of := ⟨⟨_, _, _, ok_Machine_sign_of F_Machine_sign_of T , ⟨a_Machine_sign_of, i_Machine_sign_of, k_Machine_sign_of⟩, b_Machine_sign_of⟩, by show ("sign_of" : Str) ∉ (["size", "begun", "known", "leading", "seen", "wrong"] : List Str); decide +kernel⟩
  have c_Machine_is_fault : CalM l.prog w K mg base ⟨l.prog, w, K, ct⟩ 0 "is_fault" 1 2 Φ_Machine_is_fault := ⟨⟨_, _, _, ok_Machine_is_fault F_Machine_is_fault T , ⟨a_Machine_is_fault, i_Machine_is_fault, k_Machine_is_fault⟩, b_Machine_is_fault⟩, by show ("is_fault" : Str) ∉ (["size", "begun", "known", "leading", "seen", "wrong"] : List Str); decide +kernel⟩
  have c_spread : Cal l.prog w K mg base ⟨l.prog, w, K, ct⟩ "spread" 2 2 Φ_spread := ⟨_, _, _, ok_spread F_spread T c_moves_from c_Machine_sign_of c_Machine_is_fault, rfl, PySem.W.mg_of X G a_spread, k_spread, b_spread⟩
  have c_Machine_starts : CalM l.prog w K mg base ⟨l.prog, w, K, ct⟩ 0 "starts" 1 1 Φ_Machine_starts := ⟨⟨_, _, _, ok_Machine_starts F_Machine_starts T , ⟨a_Machine_starts, i_Machine_starts, k_Machine_starts⟩, b_Machine_starts⟩, by show ("starts" : Str) ∉ (["size", "begun", "known", "leading", "seen", "wrong"] : List Str); decide +kernel⟩
  have c_start_spots : Cal l.prog w K mg base ⟨l.prog, w, K, ct⟩ "start_spots" 2 1 Φ_start_spots := ⟨_, _, _, ok_start_spots F_start_spots T c_Machine_starts, rfl, PySem.W.mg_of X G a_start_spots, k_start_spots, b_start_spots⟩
  have c_begun : Cal l.prog w K mg base ⟨l.prog, w, K, ct⟩ "begun" 3 1 Φ_begun := ⟨_, _, _, ok_begun F_begun T c_spread c_start_spots, rfl, PySem.W.mg_of X G a_begun, k_begun, b_begun⟩
  have c_Watcher_init : CalK l.prog w K mg base ⟨l.prog, w, K, ct⟩ 1 "Watcher" 4 2 Φ_Watcher_init := ⟨_, _, _, ok_Watcher_init F_Watcher_init T c_begun, ⟨q1_mk, a_Watcher_init, i_Watcher_init, q1_kc⟩, PySem.W.mg_of X G q1_aC, b_Watcher_init⟩
  have c_law_refused : Cal l.prog w K mg base ⟨l.prog, w, K, ct⟩ "_law_refused" 1 2 Φ_law_refused := ⟨_, _, _, ok_law_refused F_law_refused T , rfl, PySem.W.mg_of X G a_law_refused, k_law_refused, b_law_refused⟩
  have c_verdict_of : Cal l.prog w K mg base ⟨l.prog, w, K, ct⟩ "verdict_of" 1 1 Φ_verdict_of := ⟨_, _, _, ok_verdict_of F_verdict_of T , rfl, PySem.W.mg_of X G a_verdict_of, k_verdict_of, b_verdict_of⟩
  have c_Watcher_verdict : CalM l.prog w K mg base ⟨l.prog, w, K, ct⟩ 1 "verdict" 2 1 Φ_Watcher_verdict := ⟨⟨_, _, _, ok_Watcher_verdict F_Watcher_verdict T c_verdict_of, ⟨a_Watcher_verdict, i_Watcher_verdict, k_Watcher_verdict⟩, b_Watcher_verdict⟩, by show ("verdict" : Str) ∉ (["machine", "past", "spots"] : List Str); decide +kernel⟩
  have c_seen : Cal l.prog w K mg base ⟨l.prog, w, K, ct⟩ "seen" 3 3 Φ_seen := ⟨_, _, _, ok_seen F_seen T c_moves_from c_Machine_sign_of c_Machine_is_fault c_spread, rfl, PySem.W.mg_of X G a_seen, k_seen, b_seen⟩
  have c_spots_behind : Cal l.prog w K mg base ⟨l.prog, w, K, ct⟩ "spots_behind" 4 2 Φ_spots_behind := ⟨_, _, _, ok_spots_behind F_spots_behind T c_begun c_seen, rfl, PySem.W.mg_of X G a_spots_behind, k_spots_behind, b_spots_behind⟩
  have c_verdict : Cal l.prog w K mg base ⟨l.prog, w, K, ct⟩ "verdict" 5 2 Φ_verdict := ⟨_, _, _, ok_verdict F_verdict T c_verdict_of c_spots_behind, rfl, PySem.W.mg_of X G a_verdict, k_verdict, b_verdict⟩
  have c_rooms_in : Cal l.prog w K mg base ⟨l.prog, w, K, ct⟩ "rooms_in" 1 1 Φ_rooms_in := ⟨_, _, _, ok_rooms_in F_rooms_in T , rfl, PySem.W.mg_of X G a_rooms_in, k_rooms_in, b_rooms_in⟩
  have c_possible : Cal l.prog w K mg base ⟨l.prog, w, K, ct⟩ "possible" 5 2 Φ_possible := ⟨_, _, _, ok_possible F_possible T c_rooms_in c_spots_behind, rfl, PySem.W.mg_of X G a_possible, k_possible, b_possible⟩
  have c_Watcher_see_X : CalMX l.prog w K mg base ⟨l.prog, w, K, ct⟩ 1 "see" 4 2 Φ_Watcher_see_X := ⟨⟨_, _, _, ok_Watcher_see_X F_Watcher_see T (c_TooGreat base) c_seen (c_NoSight base), ⟨a_Watcher_see, i_Watcher_see, k_Watcher_see⟩, b_Watcher_see⟩, by show ("see" : Str) ∉ (["machine", "past", "spots"] : List Str); decide +kernel⟩
  have c_law_caught : Cal l.prog w K mg base ⟨l.prog, w, K, ct⟩ "_law_caught" 5 2 Φ_law_caught := ⟨_, _, _, ok_law_caught F_law_caught T c_Watcher_see_X, rfl, PySem.W.mg_of X G a_law_caught, k_law_caught, b_law_caught⟩
  have c_Watcher_sights : CalM l.prog w K mg base ⟨l.prog, w, K, ct⟩ 1 "sights" 1 1 Φ_Watcher_sights := ⟨⟨_, _, _, ok_Watcher_sights F_Watcher_sights T , ⟨a_Watcher_sights, i_Watcher_sights, k_Watcher_sights⟩, b_Watcher_sights⟩, by show ("sights" : Str) ∉ (["machine", "past", "spots"] : List Str); decide +kernel⟩
  have c_Watcher_rooms : CalM l.prog w K mg base ⟨l.prog, w, K, ct⟩ 1 "rooms" 2 1 Φ_Watcher_rooms := ⟨⟨_, _, _, ok_Watcher_rooms F_Watcher_rooms T c_rooms_in, ⟨a_Watcher_rooms, i_Watcher_rooms, k_Watcher_rooms⟩, b_Watcher_rooms⟩, by show ("rooms" : Str) ∉ (["machine", "past", "spots"] : List Str); decide +kernel⟩
  have c_law_tried : Cal l.prog w K mg base ⟨l.prog, w, K, ct⟩ "_law_tried" 6 4 Φ_law_tried := ⟨_, _, _, ok_law_tried F_law_tried T c_possible c_law_refused c_law_caught c_Watcher_sights c_Watcher_rooms c_Watcher_verdict c_verdict, rfl, PySem.W.mg_of X G a_law_tried, k_law_tried, b_law_tried⟩
  refine (ok_law F_law T c_law_parts_L c_law_cell c_Machine_init c_Watcher_init c_law_caught c_law_tried).imp fun vs H Q E q => ?_
  obtain ⟨a, ns, rfl, hS, hl, hb, k⟩ := q
  refine ⟨rfl, H, [], [], [.scr ns], .bl true, [], ⟨fun _ _ e => e, rfl, List.nodup_nil, fun n a c e => by simp at e⟩, .one (by simp only [Rl]; exact ⟨a, rfl, hS⟩), main_thm ns hl hb, fun v F' m' H' x W r => ?_⟩
  simp only [Rl] at r
  subst r
  exact k H'
theorem walk {l : PySem.W.OpenLaw} {q : Program} {loose : List Str} {XP : (Str → Option Value) → Heap → Prop} {YP : World → Heap → Prop} {d : DefRec} {K : Params → PySem.W.Frag} (hn : l.most = some 63) (hdf : d.params.defaults = [])
    (hY : ∀ (w : World) (h : Heap), YP w h → (K w.params).In h)
    (F : ∀ (w : World) (mg : Str → Option Value) (fa : Addr) (h : Heap), (K w.params).In h → h.Ns mainGlobals mg → mg d.name = some (.ref fa) →
      ∃ fd : FuncData, (∀ (s : Shared) (u : Value), BindsTo s fd ⟨[u], []⟩ [("_law_script", u)]) ∧ ∀ base : Heap, (K w.params).In base → base.Ns mainGlobals mg → FnOk l.prog w (K w.params) mg base CX0 7 fa fd ["_law_script"] (spLaw (K w.params))) :
    PySem.W.WalkO q loose XP YP l.row.toRowW d [] (fun f vs => PySem.call f vs) :=
  L2.walk_ofB (n := 63) (k := 7) (x := "_law_script") (CX := fun _ => CX0) (sp := fun w => spLaw (K w.params)) hn (by decide) hdf ⟨rfl, by decide, by decide⟩ hY F (fun _ _ a ns hl hb _ hS => ⟨a, ns, rfl, hS, hl, hb, fun _ => rfl⟩) fun _ _ _ _ _ z => z
end SB
open PySem PySem.W PyProof.Rows
set_option maxRecDepth 100000 in
set_option maxHeartbeats 0 in
theorem PySem.Challenge.cw_sightbook_k52_forty_sights_holds : PySem.Challenge.rw_sightbook_k52_forty_sights.Holds := by
  w_on; o_law; k_head; (case hw => w_witness2)
  k_fill
  refine SB.walk (l := PySem.Challenge.rw_sightbook_k52_forty_sights) rfl rfl (fun w h Y => PySem.W.kIn_of Y) ?F
  case F =>
    intro w mg fa h KX G hmg
    refine' SB.all_mk KX G hmg ?q0_aC ?q0_pg ?q0_hd ?q0_po ?q0_sa ?q0_mk ?q0_kc ?q0_n0 ?q0_n1 ?q0_n2 ?q0_n3 ?q0_n4 ?q0_n5 ?q1_aC ?q1_pg ?q1_hd ?q1_po ?q1_sa ?q1_mk ?q1_kc ?q1_n0 ?q1_n1 ?q1_n2 ?xsp ?xtk ?xa6 ?xga6 ?xgg6 ?xex6 ?xhd6 ?xcc6 ?xmo6 ?xkv6 ?xty6 ?xx6 ?xk6 ?xa5 ?xga5 ?xgg5 ?xex5 ?xhd5 ?xcc5 ?xmo5 ?xkv5 ?xty5 ?xl5 ?xsa5 ?xkc5 ?xno5_0 ?a_NoSight_init ?t_NoSight_init ?l_NoSight_init ?e_NoSight_init ?k_NoSight_init ?xa4 ?xga4 ?xgg4 ?xex4 ?xhd4 ?xcc4 ?xmo4 ?xkv4 ?xty4 ?xl4 ?xsa4 ?xkc4 ?xno4_0 ?a_NoWord_init ?t_NoWord_init ?l_NoWord_init ?e_NoWord_init ?k_NoWord_init ?xa3 ?xga3 ?xgg3 ?xex3 ?xhd3 ?xcc3 ?xmo3 ?xkv3 ?xty3 ?xl3 ?xsa3 ?xkc3 ?xno3_0 ?a_NoRoom_init ?t_NoRoom_init ?l_NoRoom_init ?e_NoRoom_init ?k_NoRoom_init ?xa2 ?xga2 ?xgg2 ?xex2 ?xhd2 ?xcc2 ?xmo2 ?xkv2 ?xty2 ?xl2 ?xsa2 ?xkc2 ?xno2_0 ?xno2_1 ?a_TooGreat_init ?t_TooGreat_init ?l_TooGreat_init ?e_TooGreat_init ?k_TooGreat_init ?xkp2_2 ?xkp2_3 ?xkp2_4 ?xkp2_5 ?xkp2_6 ?xkp3_2 ?xkp3_3 ?xkp3_4 ?xkp3_5 ?xkp3_6 ?xkp4_2 ?xkp4_3 ?xkp4_4 ?xkp4_5 ?xkp4_6 ?xkp5_2 ?xkp5_3 ?xkp5_4 ?xkp5_5 ?xkp5_6 ?xkp6_2 ?xkp6_3 ?xkp6_4 ?xkp6_5 ?a_law_cell ?l_law_cell ?e_law_cell ?k_law_cell ?a_law_signs ?l_law_signs ?e_law_signs ?k_law_signs ?a_law_rooms ?l_law_rooms ?e_law_rooms ?k_law_rooms ?a_law_moves ?l_law_moves ?e_law_moves ?k_law_moves ?a_law_words ?l_law_words ?e_law_words ?k_law_words ?a_law_deeds ?l_law_deeds ?e_law_deeds ?k_law_deeds ?a_law_parts ?l_law_parts ?e_law_parts ?k_law_parts ?a_must_room ?l_must_room ?e_must_room ?k_must_room ?a_is_word ?l_is_word ?e_is_word ?k_is_word ?a_must_word ?l_must_word ?e_must_word ?k_must_word ?a_Machine_init ?i_Machine_init ?l_Machine_init ?e_Machine_init ?k_Machine_init ?a_moves_from ?l_moves_from ?e_moves_from ?k_moves_from ?a_Machine_sign_of ?i_Machine_sign_of ?l_Machine_sign_of ?e_Machine_sign_of ?k_Machine_sign_of ?a_Machine_is_fault ?i_Machine_is_fault ?l_Machine_is_fault ?e_Machine_is_fault ?k_Machine_is_fault ?a_spread ?l_spread ?e_spread ?k_spread ?a_Machine_starts ?i_Machine_starts ?l_Machine_starts ?e_Machine_starts ?k_Machine_starts ?a_start_spots ?l_start_spots ?e_start_spots ?k_start_spots ?a_begun ?l_begun ?e_begun ?k_begun ?a_Watcher_init ?i_Watcher_init ?l_Watcher_init ?e_Watcher_init ?k_Watcher_init ?a_law_refused ?l_law_refused ?e_law_refused ?k_law_refused ?a_verdict_of ?l_verdict_of ?e_verdict_of ?k_verdict_of ?a_Watcher_verdict ?i_Watcher_verdict ?l_Watcher_verdict ?e_Watcher_verdict ?k_Watcher_verdict ?a_seen ?l_seen ?e_seen ?k_seen ?a_spots_behind ?l_spots_behind ?e_spots_behind ?k_spots_behind ?a_verdict ?l_verdict ?e_verdict ?k_verdict ?a_rooms_in ?l_rooms_in ?e_rooms_in ?k_rooms_in ?a_possible ?l_possible ?e_possible ?k_possible ?a_Watcher_see ?i_Watcher_see ?l_Watcher_see ?e_Watcher_see ?k_Watcher_see ?a_law_caught ?l_law_caught ?e_law_caught ?k_law_caught ?a_Watcher_sights ?i_Watcher_sights ?l_Watcher_sights ?e_Watcher_sights ?k_Watcher_sights ?a_Watcher_rooms ?i_Watcher_rooms ?l_Watcher_rooms ?e_Watcher_rooms ?k_Watcher_rooms ?a_law_tried ?l_law_tried ?e_law_tried ?k_law_tried ?a_law ?l_law ?e_law ?k_law ?z_len ?z_all ?z_list ?z_dict ?z_sorted ?z_set ?z_range ?z_isinstance ?z_ValueError ?x_LETTERS ?x_MOST_ROOMS ?x_MOST_MOVES ?x_MOST_SIGHTS
    (case q0_aC => k_is)
    (case q0_pg => k_is)
    (case q0_hd => k_is)
    (case q0_po => k_is)
    (case q0_sa => k_is)
    (case q0_mk => k_is)
    (case q0_kc => k_is)
    (case q0_n0 => k_is)
    (case q0_n1 => k_is)
    (case q0_n2 => k_is)
    (case q0_n3 => k_is)
    (case q0_n4 => k_is)
    (case q0_n5 => k_is)
    (case q1_aC => k_is)
    (case q1_pg => k_is)
    (case q1_hd => k_is)
    (case q1_po => k_is)
    (case q1_sa => k_is)
    (case q1_mk => k_is)
    (case q1_kc => k_is)
    (case q1_n0 => k_is)
    (case q1_n1 => k_is)
    (case q1_n2 => k_is)
    (case xsp => k_is)
    (case xtk => k_is)
    (case xa6 => k_is)
    (case xga6 => k_is)
    (case xgg6 => k_is)
    (case xex6 => k_is)
    (case xhd6 => k_is)
    (case xcc6 => k_is)
    (case xmo6 => k_is)
    (case xkv6 => k_is)
    (case xty6 => k_is)
    (case xx6 => k_exc)
    (case xk6 => k_is)
    (case xa5 => k_is)
    (case xga5 => k_is)
    (case xgg5 => k_is)
    (case xex5 => k_is)
    (case xhd5 => k_is)
    (case xcc5 => k_is)
    (case xmo5 => k_is)
    (case xkv5 => k_is)
    (case xty5 => k_is)
    (case xl5 => k_is)
    (case xsa5 => k_is)
    (case xkc5 => k_is)
    (case xno5_0 => k_is)
    (case a_NoSight_init => k_is)
    (case t_NoSight_init => k_is)
    (case l_NoSight_init => k_is)
    (case e_NoSight_init => k_is)
    (case k_NoSight_init => k_is)
    (case xa4 => k_is)
    (case xga4 => k_is)
    (case xgg4 => k_is)
    (case xex4 => k_is)
    (case xhd4 => k_is)
    (case xcc4 => k_is)
    (case xmo4 => k_is)
    (case xkv4 => k_is)
    (case xty4 => k_is)
    (case xl4 => k_is)
    (case xsa4 => k_is)
    (case xkc4 => k_is)
    (case xno4_0 => k_is)
    (case a_NoWord_init => k_is)
    (case t_NoWord_init => k_is)
    (case l_NoWord_init => k_is)
    (case e_NoWord_init => k_is)
    (case k_NoWord_init => k_is)
    (case xa3 => k_is)
    (case xga3 => k_is)
    (case xgg3 => k_is)
    (case xex3 => k_is)
    (case xhd3 => k_is)
    (case xcc3 => k_is)
    (case xmo3 => k_is)
    (case xkv3 => k_is)
    (case xty3 => k_is)
    (case xl3 => k_is)
    (case xsa3 => k_is)
    (case xkc3 => k_is)
    (case xno3_0 => k_is)
    (case a_NoRoom_init => k_is)
    (case t_NoRoom_init => k_is)
    (case l_NoRoom_init => k_is)
    (case e_NoRoom_init => k_is)
    (case k_NoRoom_init => k_is)
    (case xa2 => k_is)
    (case xga2 => k_is)
    (case xgg2 => k_is)
    (case xex2 => k_is)
    (case xhd2 => k_is)
    (case xcc2 => k_is)
    (case xmo2 => k_is)
    (case xkv2 => k_is)
    (case xty2 => k_is)
    (case xl2 => k_is)
    (case xsa2 => k_is)
    (case xkc2 => k_is)
    (case xno2_0 => k_is)
    (case xno2_1 => k_is)
    (case a_TooGreat_init => k_is)
    (case t_TooGreat_init => k_is)
    (case l_TooGreat_init => k_is)
    (case e_TooGreat_init => k_is)
    (case k_TooGreat_init => k_is)
    (case xkp2_2 => k_is)
    (case xkp2_3 => k_is)
    (case xkp2_4 => k_is)
    (case xkp2_5 => k_is)
    (case xkp2_6 => k_is)
    (case xkp3_2 => k_is)
    (case xkp3_3 => k_is)
    (case xkp3_4 => k_is)
    (case xkp3_5 => k_is)
    (case xkp3_6 => k_is)
    (case xkp4_2 => k_is)
    (case xkp4_3 => k_is)
    (case xkp4_4 => k_is)
    (case xkp4_5 => k_is)
    (case xkp4_6 => k_is)
    (case xkp5_2 => k_is)
    (case xkp5_3 => k_is)
    (case xkp5_4 => k_is)
    (case xkp5_5 => k_is)
    (case xkp5_6 => k_is)
    (case xkp6_2 => k_is)
    (case xkp6_3 => k_is)
    (case xkp6_4 => k_is)
    (case xkp6_5 => k_is)
    (case a_law_cell => k_is)
    (case l_law_cell => k_is)
    (case e_law_cell => k_is)
    (case k_law_cell => k_is)
    (case a_law_signs => k_is)
    (case l_law_signs => k_is)
    (case e_law_signs => k_is)
    (case k_law_signs => k_is)
    (case a_law_rooms => k_is)
    (case l_law_rooms => k_is)
    (case e_law_rooms => k_is)
    (case k_law_rooms => k_is)
    (case a_law_moves => k_is)
    (case l_law_moves => k_is)
    (case e_law_moves => k_is)
    (case k_law_moves => k_is)
    (case a_law_words => k_is)
    (case l_law_words => k_is)
    (case e_law_words => k_is)
    (case k_law_words => k_is)
    (case a_law_deeds => k_is)
    (case l_law_deeds => k_is)
    (case e_law_deeds => k_is)
    (case k_law_deeds => k_is)
    (case a_law_parts => k_is)
    (case l_law_parts => k_is)
    (case e_law_parts => k_is)
    (case k_law_parts => k_is)
    (case a_must_room => k_is)
    (case l_must_room => k_is)
    (case e_must_room => k_is)
    (case k_must_room => k_is)
    (case a_is_word => k_is)
    (case l_is_word => k_is)
    (case e_is_word => k_is)
    (case k_is_word => k_is)
    (case a_must_word => k_is)
    (case l_must_word => k_is)
    (case e_must_word => k_is)
    (case k_must_word => k_is)
    (case a_Machine_init => k_is)
    (case i_Machine_init => k_is)
    (case l_Machine_init => k_is)
    (case e_Machine_init => k_is)
    (case k_Machine_init => k_is)
    (case a_moves_from => k_is)
    (case l_moves_from => k_is)
    (case e_moves_from => k_is)
    (case k_moves_from => k_is)
    (case a_Machine_sign_of => k_is)
    (case i_Machine_sign_of => k_is)
    (case l_Machine_sign_of => k_is)
    (case e_Machine_sign_of => k_is)
    (case k_Machine_sign_of => k_is)
    (case a_Machine_is_fault => k_is)
    (case i_Machine_is_fault => k_is)
    (case l_Machine_is_fault => k_is)
    (case e_Machine_is_fault => k_is)
    (case k_Machine_is_fault => k_is)
    (case a_spread => k_is)
    (case l_spread => k_is)
    (case e_spread => k_is)
    (case k_spread => k_is)
    (case a_Machine_starts => k_is)
    (case i_Machine_starts => k_is)
    (case l_Machine_starts => k_is)
    (case e_Machine_starts => k_is)
    (case k_Machine_starts => k_is)
    (case a_start_spots => k_is)
    (case l_start_spots => k_is)
    (case e_start_spots => k_is)
    (case k_start_spots => k_is)
    (case a_begun => k_is)
    (case l_begun => k_is)
    (case e_begun => k_is)
    (case k_begun => k_is)
    (case a_Watcher_init => k_is)
    (case i_Watcher_init => k_is)
    (case l_Watcher_init => k_is)
    (case e_Watcher_init => k_is)
    (case k_Watcher_init => k_is)
    (case a_law_refused => k_is)
    (case l_law_refused => k_is)
    (case e_law_refused => k_is)
    (case k_law_refused => k_is)
    (case a_verdict_of => k_is)
    (case l_verdict_of => k_is)
    (case e_verdict_of => k_is)
    (case k_verdict_of => k_is)
    (case a_Watcher_verdict => k_is)
    (case i_Watcher_verdict => k_is)
    (case l_Watcher_verdict => k_is)
    (case e_Watcher_verdict => k_is)
    (case k_Watcher_verdict => k_is)
    (case a_seen => k_is)
    (case l_seen => k_is)
    (case e_seen => k_is)
    (case k_seen => k_is)
    (case a_spots_behind => k_is)
    (case l_spots_behind => k_is)
    (case e_spots_behind => k_is)
    (case k_spots_behind => k_is)
    (case a_verdict => k_is)
    (case l_verdict => k_is)
    (case e_verdict => k_is)
    (case k_verdict => k_is)
    (case a_rooms_in => k_is)
    (case l_rooms_in => k_is)
    (case e_rooms_in => k_is)
    (case k_rooms_in => k_is)
    (case a_possible => k_is)
    (case l_possible => k_is)
    (case e_possible => k_is)
    (case k_possible => k_is)
    (case a_Watcher_see => k_is)
    (case i_Watcher_see => k_is)
    (case l_Watcher_see => k_is)
    (case e_Watcher_see => k_is)
    (case k_Watcher_see => k_is)
    (case a_law_caught => k_is)
    (case l_law_caught => k_is)
    (case e_law_caught => k_is)
    (case k_law_caught => k_is)
    (case a_Watcher_sights => k_is)
    (case i_Watcher_sights => k_is)
    (case l_Watcher_sights => k_is)
    (case e_Watcher_sights => k_is)
    (case k_Watcher_sights => k_is)
    (case a_Watcher_rooms => k_is)
    (case i_Watcher_rooms => k_is)
    (case l_Watcher_rooms => k_is)
    (case e_Watcher_rooms => k_is)
    (case k_Watcher_rooms => k_is)
    (case a_law_tried => k_is)
    (case l_law_tried => k_is)
    (case e_law_tried => k_is)
    (case k_law_tried => k_is)
    (case a_law => k_is)
    (case l_law => k_is)
    (case e_law => k_is)
    (case k_law => k_is)
    (case z_len => k_is)
    (case z_all => k_is)
    (case z_list => k_is)
    (case z_dict => k_is)
    (case z_sorted => k_is)
    (case z_set => k_is)
    (case z_range => k_is)
    (case z_isinstance => k_is)
    (case z_ValueError => k_is)
    (case x_LETTERS => k_is)
    (case x_MOST_ROOMS => k_is)
    (case x_MOST_MOVES => k_is)
    (case x_MOST_SIGHTS => k_is)
